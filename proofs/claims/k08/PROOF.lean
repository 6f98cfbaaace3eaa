import PyProof.Rows.All
import Wide.All
import OpenK.AllK
import Wide.FinOn
import HandS.ForMost
import HandS.More
import HandS.Conv
import HandS.Codes

import HandS.Flow
import HandS.Finally
import HandS.Walk
import HandS.IsInst
import HandS.Defaults
import HandS.MakeKwOnly
import HandS.DeepEq
import HandS.CallLocal
import HandS.Zip
import HandS.ExcInit
import HandS.RaiseFrom
import HandS.ExcIs
import HandS.ExcField
import KE.KEqNest
import KE.GoesZip
import KE.GoesMore
import HandS.WordsExc
import PyProof.ReprRoads
import HandS.DictComp
import HandS.TupAny
import HandS.CallSlots
import HandS.TryMany
import PySem.Challenge.RW_deltaboughs_k08_whole_stores_apart
set_option Elab.async false
set_option maxRecDepth 100000
set_option maxHeartbeats 4000000
/-! ### own classes of errors, each right under a built-in one -/
namespace ER
open PySem PySem.W PySem.Calls PySem.HandSPX Builtin Builtin.ObjectAttr
/-- B: the built-in class above; nw: what makes its instances, the one of nB; ini: what starts them; tl: B's line -/
structure Base (B nB nw nI ini : String) (tB tl : List Value) : Prop where
  N : ExcBaseFacts nB nw nI tB
  hasN : tl.contains (.type nB) = true
  noA : tl.contains (.type "AttributeError") = false
  noE : tl.contains (.type "NameError") = false
  hasB : tl.contains (.type B) = true
  slot : Slot B "__init__" ini
  entry : entryFor table ini = some Builtin.«BaseException.__init__»
  kind : builtinKind ini = some .slot
  split : splitId ini = some (B, "__init__")
  row : Manifest.signature? ini = some ⟨.positional, "*", B, .self, [⟨"args", .varPos, false⟩]⟩
  star : (B != "*") = true
  obj : tl.contains (.type "object") = true
  pass : ∀ v, refuseLoop v "__setattr__" tl = pure ()
  ty : typeOf (.type B) = pure (.type "type")
abbrev tlV : List Value := [.type "ValueError", .type "Exception", .type "BaseException", .type "object"]
abbrev tlI : List Value := [.type "IndexError", .type "LookupError", .type "Exception", .type "BaseException", .type "object"]
abbrev tlK : List Value := [.type "KeyError", .type "LookupError", .type "Exception", .type "BaseException", .type "object"]
abbrev tlL : List Value := [.type "LookupError", .type "Exception", .type "BaseException", .type "object"]
abbrev tlR : List Value := [.type "RuntimeError", .type "Exception", .type "BaseException", .type "object"]
abbrev tlO : List Value := [.type "OverflowError", .type "ArithmeticError", .type "Exception", .type "BaseException", .type "object"]
theorem Base.of {B nw ini : String} {tl : List Value} (F : ExcBaseFacts B nw ini tl) (o : tl.contains (.type "object") = true) (p : ∀ v, refuseLoop v "__setattr__" tl = pure ()) (y : typeOf (.type B) = pure (.type "type")) : Base B B nw ini ini tl tl :=
  ⟨F, F.hasB, F.noAttr, F.noName, F.hasB, F.init, F.initEntry, F.initKind, F.initSplit, F.initRow, F.noStar, o, p, y⟩
theorem bV : Base "ValueError" "ValueError" "ValueError.__new__" "ValueError.__init__" "ValueError.__init__" tlV tlV := .of F.excBase_ValueError (by decide +kernel) (fun _ => by kernel_rfl) (by kernel_rfl)
theorem bI : Base "IndexError" "IndexError" "IndexError.__new__" "IndexError.__init__" "IndexError.__init__" tlI tlI := .of F.excBase_IndexError (by decide +kernel) (fun _ => by kernel_rfl) (by kernel_rfl)
theorem bL : Base "LookupError" "LookupError" "LookupError.__new__" "LookupError.__init__" "LookupError.__init__" tlL tlL := .of F.excBase_LookupError (by decide +kernel) (fun _ => by kernel_rfl) (by kernel_rfl)
theorem bR : Base "RuntimeError" "RuntimeError" "RuntimeError.__new__" "RuntimeError.__init__" "RuntimeError.__init__" tlR tlR := .of F.excBase_RuntimeError (by decide +kernel) (fun _ => by kernel_rfl) (by kernel_rfl)
theorem bO : Base "OverflowError" "OverflowError" "OverflowError.__new__" "OverflowError.__init__" "OverflowError.__init__" tlO tlO := .of F.excBase_OverflowError (by decide +kernel) (fun _ => by kernel_rfl) (by kernel_rfl)
theorem bK : Base "KeyError" "LookupError" "LookupError.__new__" "LookupError.__init__" "KeyError.__init__" tlL tlK :=
  ⟨F.excBase_LookupError, by decide +kernel, by decide +kernel, by decide +kernel, by decide +kernel, PyProof.Rows.excClass_KeyError.init, PyProof.Rows.excClass_KeyError.initEntry, PyProof.Rows.excClass_KeyError.initKind, PyProof.Rows.excClass_KeyError.initSplit, PyProof.Rows.excClass_KeyError.initSig, PyProof.Rows.excClass_KeyError.notStar,
    by decide +kernel, fun _ => by kernel_rfl, by kernel_rfl⟩
theorem ahead {C : Addr} {tl : List Value} {X : String} {b : Bool} (h : tl.contains (.type X) = b) : (Value.ref C :: tl).contains (.type X) = b := by
  rw [List.contains_cons, h]
  cases b <;> rfl
section
variable {prog : Program} {w : World} {M : Model} {A : Around} {E : Value → Shared → Prop} {R : Result → Shared → Prop}
variable {h : Heap} {g : Array GenState} {d : Drawn} {t : Nat} {os : OsState}
variable {nm q : Str} {C N : Addr} {bs tB tl : List Value} {hd : Bool} {sn : List Str} {sub : List Value} {ab : Bool} {col : Option Bool}
variable {dd : Option Addr} {k0 k1 k2 k3 k5 : Option Value} {B nB nw nI ini : String}
/-- the maker takes the class -/
theorem maker_takes (Z : Base B nB nw nI ini tB tl) {rest : List Value} {Q : Unit → Shared → Prop}
    (hC : h.get? C = some (excClassObj nm q C N bs tl hd sn sub ab col dd k0 k1 k2 k3 k5 nw)) (fin : Q () ⟨h, g, d, t, os⟩) :
    wpAny M A (checkBuiltinCall nw ⟨.ref C :: rest, []⟩) Q E ⟨h, g, d, t, os⟩ := by
  have c1 := ahead (C := C) Z.hasN
  have c2 := Z.N.noStar
  simp only [checkBuiltinCall, Z.N.newKind, Z.N.newSplit, Z.N.newRow]
  repeat (first
    | refine wpAny_loadPart_at hC ?_
    | (refine wpAny_isSubtype_exc hC ?_; rw [c1])
    | refine wpAny_staticBase_exc hC ?_
    | refine wpAny_madeBy_exc hC ?_
    | simp only [bne_self_eq_false, Bool.false_eq_true, if_false]
    | wp_step)
  exact fin
/-- the starter takes an instance -/
theorem starter_takes (Z : Base B nB nw nI ini tB tl) {e : Addr} {oe : Obj} {rest : List Value} {Q : Unit → Shared → Prop}
    (hC : h.get? C = some (excClassObj nm q C N bs tl hd sn sub ab col dd k0 k1 k2 k3 k5 nw)) (he : h.get? e = some oe) (hc : oe.cls = .ref C)
    (fin : Q () ⟨h, g, d, t, os⟩) : wpAny M A (checkBuiltinCall ini ⟨.ref e :: rest, []⟩) Q E ⟨h, g, d, t, os⟩ := by
  have c1 := ahead (C := C) Z.hasB
  have c2 := Z.star
  simp only [checkBuiltinCall, Z.kind, Z.split, Z.row]
  repeat (first
    | (with_reducible refine wpAny_loadPart_at he ?_; rw [hc])
    | with_reducible refine wpAny_loadPart_at hC ?_
    | (with_reducible refine wpAny_isSubtype_exc hC ?_; rw [c1])
    | wp_step)
  refine wpAny_onRaise ?_
  have ck : ∀ (x y : String) (n : Nat), Bind.check ⟨.positional, "*", B, .self, [⟨"args", .varPos, false⟩]⟩ x y n (({ pos := Value.ref e :: rest } : Args).kw.map fun z => z.1) = pure () := fun x y n => check_star_args ..
  rw [ck]
  exact wpAny_pure fin
/-- a bare instance -/
theorem makes (Z : Base B nB nw nI ini tB tl) {rest : List Value} (hC : h.get? C = some (excClassObj nm q C N bs tl hd sn sub ab col dd k0 k1 k2 k3 k5 nw)) (sz : rest.length ≤ sizeLine)
    (fin : R (.ok (.ret (.ref (h.objs.size + 1)))) ⟨(h.push (W.kdv_tup rest)).push (excO C h.objs.size), g, d, t, os⟩) : codeAny (model prog w) A (.builtin nw ⟨.ref C :: rest, []⟩) R ⟨h, g, d, t, os⟩ := by
  have c0 := Z.N.ends
  have c1 := ahead (C := C) Z.hasN
  have c2 := ahead (C := C) Z.noA
  have c3 := ahead (C := C) Z.noE
  refine codeAny_builtinAt Z.N.entry ?_
  unfold Builtin.«BaseException.__new__»
  refine wpAt_bind ?_
  show wpAt _ _ _ (stack >>= _) _ _ _
  refine wpAt_bind (wpAt_stack fun _ _ => wpAt_of_wpAny ?_)
  wp_walk
  refine wpAt_of_wpAny ?_
  rw [Z.N.owner]
  repeat (first
    | with_reducible refine wpAny_madeHere_exc Z.N.canon hC ?_
    | with_reducible refine wpAny_loadPart_at hC ?_
    | (with_reducible refine wpAny_isSubtype_exc hC ?_; first | rw [c1] | rw [c2] | rw [c3])
    | wp_step)
  show R _ _
  rw [Heap.size_push]
  exact fin
/-- the class is called: an instance is made, then its own starter is called -/
theorem meta_call (Z : Base B nB nw nI ini tB tl) {rest : List Value} {fI : Addr} {Q : Fin → Shared → Prop} (hC : h.get? C = some (excClassObj nm q C N bs tl hd sn sub ab col dd k0 k1 k2 k3 k5 nw)) (sz : rest.length ≤ sizeLine)
    (hi : W.Looks (model prog w) h (typeLookup (.ref C) "__init__") (some (.ref fI))) (hb : ∀ v, W.Looks (model prog w) h (bindSpecial (.ref fI) v) (.ref fI, [v]))
    (run : codeAny (model prog w) A (.call (.ref fI) ⟨.ref (h.objs.size + 1) :: rest, []⟩) (fun r s' => match r with
      | .ok (.ret v) => v = .none ∧ Q (.done (.ret (.ref (h.objs.size + 1)))) s'
      | .ok _ => False
      | .error e => E e s') ⟨(h.push (W.kdv_tup rest)).push (excO C h.objs.size), g, d, t, os⟩) :
    wpAny (model prog w) A (Builtin.«type.__call__» ⟨.ref C :: rest, []⟩) Q E ⟨h, g, d, t, os⟩ := by
  repeat (first
    | with_reducible refine wpAny_loadPart_at hC ?_
    | with_reducible refine wpAny_madeBy_exc hC ?_
    | wp_step)
  refine codeAny_call_builtin_code (Code.quiet_builtin _ Z.N.quiet) (maker_takes Z hC (makes Z hC sz ?_))
  show wpAny _ _ _ _ _ _
  have kp : ∀ b o, h.get? b = some o → ((h.push (W.kdv_tup rest)).push (excO C h.objs.size)).get? b = some o := fun _ _ e => Heap.get?_push_of_some _ (Heap.get?_push_of_some _ e)
  have hC2 := kp _ _ hC
  have he : ((h.push (W.kdv_tup rest)).push (excO C h.objs.size)).get? (h.objs.size + 1) = some (excO C h.objs.size) := by heap_get
  have cC : (Value.ref C :: tl).contains (.ref C) = true := by simp
  have i2 := hi.keeps kp
  have b2 := (hb (.ref (h.objs.size + 1))).keeps kp
  unfold isInstance
  repeat (first
    | with_reducible refine wpAny_loadPart_at he ?_
    | (with_reducible refine wpAny_isSubtype_exc hC2 ?_; rw [cC])
    | wp_step)
  show wpAny _ _ (typeLookup (.ref C) _) _ _ _
  refine i2.at ?_
  refine wpAny_holding (wpAny_bind (b2.at ?_))
  refine wpAny_bind (wpAny_call (codeAny_mono run fun r s' z => ?_))
  rcases r with e | (v | _ | _ | _)
  · exact z
  · first
      | exact z.elim
      | (obtain ⟨rfl, z⟩ := z; first | exact wpAny_pure (wpAny_pure z) | (wp_walk; exact z))
  all_goals first
    | exact z.elim
    | (obtain ⟨rfl, z⟩ := z; first | exact wpAny_pure (wpAny_pure z) | (wp_walk; exact z))
theorem class_call (Z : Base B nB nw nI ini tB tl) {rest : List Value} {fI : Addr} (hC : h.get? C = some (excClassObj nm q C N bs tl hd sn sub ab col dd k0 k1 k2 k3 k5 nw)) (sz : rest.length ≤ sizeLine)
    (hi : W.Looks (model prog w) h (typeLookup (.ref C) "__init__") (some (.ref fI))) (hb : ∀ v, W.Looks (model prog w) h (bindSpecial (.ref fI) v) (.ref fI, [v]))
    (run : codeAny (model prog w) (A.under (.builtin "type.__call__" ⟨.ref C :: rest, []⟩)) (.call (.ref fI) ⟨.ref (h.objs.size + 1) :: rest, []⟩) (W.InitBack (h.objs.size + 1) R) ⟨(h.push (W.kdv_tup rest)).push (excO C h.objs.size), g, d, t, os⟩) :
    codeAny (model prog w) A (.call (.ref C) ⟨rest, []⟩) R ⟨h, g, d, t, os⟩ := by
  have t1 := tc_lookup
  have t2 := tc_bind (.ref C)
  have tC : (⟨h, g, d, t, os⟩ : Shared).TypeIs (.ref C) "type" := ⟨_, hC, rfl⟩
  refine codeAny_of_tree ?_
  show wpAny _ _ (callAny (.ref C) _) _ _ _
  repeat (any_goals (first
    | assumption
    | with_reducible refine wpAny_loadPart_at hC ?_
    | wp_step))
  refine ⟨rfl, codeAny_call_builtin_at (Code.quiet_builtin _ (by decide +kernel)) entry_typeCall (wpAny_check_type_call_sub hC (meta_call Z hC sz hi hb ?_))⟩
  refine codeAny_mono run fun r s' z => ?_
  rcases r with e | (v | _ | _ | _) <;> exact z
/-- B.__init__(e, ..): the args are laid anew -/
theorem starts (Z : Base B nB nw nI ini tB tl) {e t0 : Addr} {rest : List Value} (hC : h.get? C = some (excClassObj nm q C N bs tl hd sn sub ab col dd k0 k1 k2 k3 k5 nw)) (he : h.get? e = some (excO C t0)) (sz : rest.length ≤ sizeLine)
    (fin : ∀ h' t1, (∀ b o, b ≠ e → h.get? b = some o → h'.get? b = some o) → h'.get? e = some (excO C t1) → R (.ok (.ret .none)) ⟨h', g, d, t, os⟩) : codeAny (model prog w) A (.call (.builtin ini) ⟨.ref e :: rest, []⟩) R ⟨h, g, d, t, os⟩ := by
  refine codeAny_call_builtin Z.slot.plain Z.entry (starter_takes Z hC he rfl ?_)
  wp_walk
  have kp : ∀ b o, h.get? b = some o → (h.push (W.kdv_tup rest)).get? b = some o := fun _ _ e => Heap.get?_push_of_some _ e
  refine fin _ h.objs.size (fun b o n ho => (Heap.get?_update_other _ _ (Ne.symm n)).trans (kp b o ho)) ?_
  rw [Heap.get?_update_self _ (kp e _ he) rfl]
  rfl
end
/-! ### a class of ours -/
structure BI where
  B : String
  nB : String
  nw : String
  nI : String
  ini : String
  tB : List Value
  tl : List Value
def BI.ok (b : BI) : Prop := Base b.B b.nB b.nw b.nI b.ini b.tB b.tl
def iV : BI := ⟨"ValueError", "ValueError", "ValueError.__new__", "ValueError.__init__", "ValueError.__init__", tlV, tlV⟩
def iI : BI := ⟨"IndexError", "IndexError", "IndexError.__new__", "IndexError.__init__", "IndexError.__init__", tlI, tlI⟩
def iL : BI := ⟨"LookupError", "LookupError", "LookupError.__new__", "LookupError.__init__", "LookupError.__init__", tlL, tlL⟩
def iR : BI := ⟨"RuntimeError", "RuntimeError", "RuntimeError.__new__", "RuntimeError.__init__", "RuntimeError.__init__", tlR, tlR⟩
def iO : BI := ⟨"OverflowError", "OverflowError", "OverflowError.__new__", "OverflowError.__init__", "OverflowError.__init__", tlO, tlO⟩
def iK : BI := ⟨"KeyError", "LookupError", "LookupError.__new__", "LookupError.__init__", "KeyError.__init__", tlL, tlK⟩
/-- what the written part says of the class at C, right under b's -/
structure Own (K : Frag) (C : Addr) (b : BI) : Prop where
  Z : b.ok
  cls : ∃ nm q N bs sn sub ab col dd k0 k1 k2 k3 k5, K.lookup C = some (excClassObj nm q C N bs b.tl true sn sub ab col dd k0 k1 k2 k3 k5 b.nw)
  sa : findIn K (.ref C) "__setattr__" = some (some (.builtin "object.__setattr__"))
  ga : findIn K (.ref C) "__getattribute__" = some (some (.builtin "BaseException.__getattribute__"))
  gg : findIn K (.ref C) "__getattr__" = some none
  exC : subIn K (.ref C) (.type "BaseException") = some true
  tyC : typeIn K (.ref C) = some (.type "type")
  kC : keepIn K (.ref C) = true
  hdC : hasDictIn K C = true
theorem Own.cd {K : Frag} {C : Addr} {b : BI} (T : Own K C b) : ∃ cd, clsIn K C = some cd ∧ cd.mro = .ref C :: b.tl ∧ cd.hasDict = true := by
  obtain ⟨nm, q, N, bs, sn, sub, ab, col, dd, k0, k1, k2, k3, k5, e⟩ := T.cls
  unfold clsIn
  rw [e]
  exact ⟨_, rfl, rfl, rfl⟩
theorem Own.xf {K : Frag} {C : Addr} {b : BI} (T : Own K C b) : L2.XfC K C := ⟨T.ga, T.gg, T.exC, T.hdC⟩
section
variable {prog : Program} {w : World} {A : Around} {E : Value → Shared → Prop} {R : Result → Shared → Prop} {K : Frag} {C x : Addr} {b : BI} {name : Str} {v : Value}
variable {hp : Heap} {g : Array GenState} {d : Drawn} {t : Nat} {os : OsState} {tk : Tok}
/-- x.name = v comes down to the own dict -/
theorem Own.stores (T : Own K C b) {ox : Obj} {od : Option Obj} (X : K.In hp) (I : InstAt hp x ox C od) (no : findIn K (.ref C) name = some none)
    (run : wpAny (model prog w) A.in1 (storeInOwnDict (.ref x) (.ref C) (.str name tk) name v false) (fun fin s' => match fin with
      | .done f => R (.ok f) s'
      | .again c => c.quiet = true ∧ codeAny (model prog w) A c R s') (fun e s' => R (.error e) s') ⟨hp, g, d, t, os⟩) :
    codeAny (model prog w) A (.call (.builtin "object.__setattr__") ⟨[.ref x, .str name tk, v], []⟩) R ⟨hp, g, d, t, os⟩ := by
  obtain ⟨cd, hcd, hm, _⟩ := T.cd
  have Z : Base b.B b.nB b.nw b.nI b.ini b.tB b.tl := T.Z
  have isO : W.Looks (model prog w) hp (isInstance (.ref x) (.type "object")) true := by
    refine I.type.andThen (W.looks_mroIn X ?_)
    unfold W.mroIn
    rw [hcd, Option.bind_some, hm]
    rw [if_neg (by show ¬ ((Value.ref C :: b.tl).isEmpty = true); exact Bool.false_ne_true), ahead Z.obj]
  have line : W.Looks (model prog w) hp (mroOf (.ref C)) cd.mro := (W.looks_clsIn X hcd).andThen .now
  have noT : W.Looks (model prog w) hp (storeTaker? none) none := .now
  have SO := F.store_object
  refine codeAny_call_builtin SO.slot.plain SO.entry ?_
  refine @W.check_slot (model prog w) _ _ ⟨hp, g, d, t, os⟩ "object.__setattr__" "object" "__setattr__" (.ref x) [.str name tk, v] [] _ SO.kind SO.split isO (SO.args (.ref x) (.str name tk) v) ?_
  rw [W.osa_eq, refuse_eq]
  refine wpAny_bind (wpAny_bind (I.type.at (wpAny_bind (line.at ?_))))
  rw [show refuseLoop (.ref x) "__setattr__" cd.mro = pure () by rw [hm, refuseLoop_ref]; exact Z.pass _]
  exact wpAny_pure (wpAny_bind (I.type.at (wpAny_bind ((W.looks_findIn X no).at (wpAny_bind (noT.at run))))))
/-- the first field: a dict is made -/
theorem Own.first (T : Own K C b) {fv : Array Value} (X : K.In hp) (hx : hp.get? x = some { cls := .ref C, data := .fields fv }) (no : findIn K (.ref C) name = some none)
    (fin : ∀ h' tk' dx, (∀ c o, c ≠ x → hp.get? c = some o → h'.get? c = some o) → hp.objs.size ≤ dx → dx ≠ x → h'.get? x = some { cls := .ref C, dict := some dx, data := .fields fv } → h'.Ns1 dx (fun y => if y = name then some v else none) → R (.ok (.ret .none)) ⟨h', g, d, tk', os⟩) :
    codeAny (model prog w) A (.call (.builtin "object.__setattr__") ⟨[.ref x, .str name tk, v], []⟩) R ⟨hp, g, d, t, os⟩ := by
  have I : W.InstAt hp x { cls := .ref C, data := .fields fv } C none := ⟨hx, rfl, rfl, trivial⟩
  have ns : x ≠ hp.objs.size := Nat.ne_of_lt (Heap.lt_size hx)
  refine T.stores X I no ?_
  obtain ⟨cd, hcd, _, hh⟩ := T.cd
  have lk : W.Looks (model prog w) hp (classData C) cd := W.looks_clsIn X hcd
  obtain ⟨_, _, _, _, _, hd, _, _, _, _, _⟩ := cd
  dsimp only at hh
  subst hh
  unfold storeInOwnDict ownDictForStores
  repeat (first
    | with_reducible refine HandSPX.store_in_new ?_ ?_
    | with_reducible refine wpAny_loadPart_at hx ?_
    | with_reducible refine lk.at ?_
    | wp_step)
  · exact ⟨_, #[], _, (Heap.get?_update_ne _ _ _ _ ns.symm).trans (Heap.get?_push_at rfl rfl), rfl, fun e he => (by simp at he), fun _ => rfl⟩
  · intro h' tk' hn sb
    have hx2 : (hp.push { cls := .type "dict", data := .dict #[] }).get? x = some { cls := .ref C, data := .fields fv } := Heap.get?_push_of_some _ hx
    refine fin h' tk' hp.objs.size (fun c o n ho => ?_) (Nat.le_refl _) ns.symm ((sb.2 x ns).trans (Heap.get?_update_self _ hx2 rfl)) hn
    exact (sb.2 c (Nat.ne_of_lt (Heap.lt_size ho))).trans ((Heap.get?_update_ne _ _ _ _ n).trans (Heap.get?_push_of_some _ ho))
/-- a further one -/
theorem Own.next (T : Own K C b) {fv : Array Value} {dx : Addr} {m : Str → Option Value} {nl : List Str} (X : K.In hp) (hx : hp.get? x = some { cls := .ref C, dict := some dx, data := .fields fv }) (hn : hp.Ns1 dx m) (hw : Within m nl) (hz : nl.length ≤ 1000) (no : findIn K (.ref C) name = some none)
    (fin : ∀ h' tk', (∀ c o, c ≠ dx → hp.get? c = some o → h'.get? c = some o) → h'.Ns1 dx (fun y => if y = name then some v else m y) → R (.ok (.ret .none)) ⟨h', g, d, tk', os⟩) :
    codeAny (model prog w) A (.call (.builtin "object.__setattr__") ⟨[.ref x, .str name tk, v], []⟩) R ⟨hp, g, d, t, os⟩ := by
  obtain ⟨oD, _, _, hoD, _, _⟩ := hn.count hw
  refine T.stores X (ox := { cls := .ref C, dict := some dx, data := .fields fv }) (od := some oD) ⟨hx, rfl, rfl, hoD⟩ no ?_
  obtain ⟨cd, hcd, _, hh⟩ := T.cd
  have lk : W.Looks (model prog w) hp (classData C) cd := W.looks_clsIn X hcd
  obtain ⟨_, _, _, _, _, hd, _, _, _, _, _⟩ := cd
  dsimp only at hh
  subst hh
  unfold storeInOwnDict ownDictForStores
  repeat (first
    | with_reducible refine OEX.store_in_old hn hw hz ?_
    | with_reducible refine wpAny_loadPart_at hx ?_
    | with_reducible refine lk.at ?_
    | wp_step)
  exact fun h' tk' h1 sb => fin h' tk' (fun c o n ho => (sb.2 c n).trans ho) h1
end
/-! ### over the abstract heap -/
section
open L2
variable {X : Cx} {pins : List (Addr × Obj)} {σ : St} {H : Hp} {s : Shared} {a C dx : Addr} {f : Str} {y : V} {u : Value} {fs : List (Str × V)} {b : BI} {A : Around} {E : Value → Shared → Prop}
theorem set_first {Q : Unit → Shared → Prop} (T : Own X.K C b) (I : Inv X pins σ H s) (e : H a = some (exo a C none)) (no : findIn X.K (.ref C) f = some none) (ry : RelV y u)
    (fin : ∀ dx s', H dx = none → dx ≠ a → Inv X pins σ (upd (upd H dx (exd dx [(f, y)])) a (exo a C (some dx))) s' → Q () s') : wpAny (model X.prog X.w) A (setAttr (.ref a) f u) Q E s := by
  obtain ⟨t1, ho⟩ := exo_at I.hok e
  obtain ⟨hp, g, d, t, os⟩ := s
  refine set_plain I.kIn (od := none) ⟨ho, rfl, rfl, trivial⟩ T.sa (T.first I.kIn ho no fun h' tk' dx kp big apart hx hn => ?_)
  have fr : H dx = none := I.hok.fresh big
  have old : ∀ {c : Addr} {o : Obj}, hp.get? c = some o → c ≠ dx := fun q => Nat.ne_of_lt (Nat.lt_of_lt_of_le (Heap.lt_size q) big)
  have oth : ∀ {c : Addr}, H c = none → c ≠ a := fun n z => by rw [z, e] at n; cases n
  have stay : ∀ {c : Addr} {z : HO}, H c = some z → exo a C none ≠ z → upd (upd H dx (exd dx [(f, y)])) a (exo a C (some dx)) c = some z := fun q n => by
    rw [upd_ne (at_ne e q n), upd_ne (ne_of_none q fr)]; exact q
  have U : Un X.fs [] H (upd (upd H dx (exd dx [(f, y)])) a (exo a C (some dx))) hp h' :=
    ⟨fun c o q n _ _ => kp c o (oth n) q, fun c o q n _ _ => ⟨o.slots, kp c o (oth n) q⟩, fun c o q n _ => by rw [upd_ne (oth n), upd_ne (old q)]; exact n,
      fun c o q _ => by
        by_cases z : c = a
        · subst z; exact ⟨_, hx⟩
        · exact ⟨o, kp c o z q⟩,
      fun c _ q => stay q exo_tup, fun c _ _ q => stay q exo_frz, fun c ps q => ⟨#[], by rw [stay q exo_tbl]; simp⟩⟩
  refine fin dx _ fr apart (I.un (t' := tk') U fun c z q => ?_)
  by_cases h1 : c = a
  · subst h1; rw [upd_same] at q; cases q; exact exo_ok hx
  rw [upd_ne h1] at q
  by_cases h2 : c = dx
  · subst h2; rw [upd_same] at q; cases q; exact exd_ok hn (relO_put (fs := []) ry fun _ => True.intro)
  rw [upd_ne h2] at q
  refine (I.hok c z q).stay (fun i v hi q2 => kp i v ?_ q2) (fun i hi => stay hi exo_own) fun i xs hi => stay hi exo_tup
  rcases hi with hi | hi
  · rw [hi]; exact h1
  · exact at_ne e hi exo_own
theorem set_next {Q : Unit → Shared → Prop} (T : Own X.K C b) (I : Inv X pins σ H s) (e : H a = some (exo a C (some dx))) (ed : H dx = some (exd dx fs)) (hl : fs.length ≤ 900) (no : findIn X.K (.ref C) f = some none) (ry : RelV y u)
    (fin : ∀ s', Inv X pins σ (upd H dx (exd dx ((f, y) :: fs))) s' → Q () s') : wpAny (model X.prog X.w) A (setAttr (.ref a) f u) Q E s := by
  obtain ⟨t1, ho⟩ := exo_at I.hok e
  obtain ⟨m, hn, rel⟩ := exd_at I.hok ed
  have hw := within_of rel
  obtain ⟨hp, g, d, t, os⟩ := s
  obtain ⟨oD, _, _, hoD, _, _⟩ := hn.count hw
  refine set_plain I.kIn (od := some oD) ⟨ho, rfl, rfl, hoD⟩ T.sa (T.next I.kIn ho hn hw (by rw [List.length_map]; omega) no fun h' tk' kp h1 => ?_)
  have there : ∃ o, h'.get? dx = some o := by obtain ⟨o, _, _, q, _⟩ := h1; exact ⟨o, q⟩
  exact fin _ (I.write (t' := tk') (x := dx) (e := dx) (o := exd dx ((f, y) :: fs)) (by rw [ed]; exact True.intro) (.inl rfl) kp there (exd_ok h1 (relO_put ry rel)))
theorem start_ok {Q : Value → Shared → Prop} {us : List Value} (T : Own X.K C b) (I : Inv X pins σ H s) (e : H a = some (exo a C none)) (sz : us.length ≤ sizeLine) (fin : ∀ s', Inv X pins σ H s' → Q .none s') :
    wpAny (model X.prog X.w) A (call (.builtin b.ini) (.ref a :: us)) Q E s := by
  obtain ⟨nm, q, N, bs, sn, sub, ab, col, dd, k0, k1, k2, k3, k5, hC⟩ := T.cls
  have Z : Base b.B b.nB b.nw b.nI b.ini b.tB b.tl := T.Z
  obtain ⟨t1, ho⟩ := exo_at I.hok e
  obtain ⟨hp, g, d, t, os⟩ := s
  refine wpAny_call (starts Z (I.kIn _ _ hC) ho sz fun h' t2 kp hx => ?_)
  have J := I.write (t' := t) (x := a) (e := a) (o := exo a C none) (by rw [e]; exact True.intro) (.inl rfl) kp ⟨_, hx⟩ (exo_ok hx)
  have same : upd H a (exo a C none) = H := funext fun c => if z : c = a then by rw [z, upd_same, e] else by rw [upd_ne z]
  rw [same] at J
  exact fin _ J
/-! ### readings, rules -/
/-- B.__init__(self, ..) -/
def tIni (K : Frag) (b : BI) (ta : TA) : TE := fun σ H Q => ta σ H fun vs H1 => ∃ (a C : Addr) (ws : List V), vs = .ref a :: ws ∧ ws.length ≤ 1000 ∧ Own K C b ∧ H1 a = some (exo a C none) ∧ Q .non H1
/-- self.f = e, the first one -/
def tOs1 (K : Frag) (b : BI) (f : Str) (to te : TE) : TS := fun D σ H => te σ H fun y H1 => to σ H1 fun x H2 => ∃ a C : Addr, x = .ref a ∧ Own K C b ∧ findIn K (.ref C) f = some none ∧
  H2 a = some (exo a C none) ∧ ∀ dx, H2 dx = none → dx ≠ a → D.nx σ (upd (upd H2 dx (exd dx [(f, y)])) a (exo a C (some dx)))
/-- self.f = e, a further one -/
def tOs2 (K : Frag) (b : BI) (f : Str) (to te : TE) : TS := fun D σ H => te σ H fun y H1 => to σ H1 fun x H2 => ∃ (a C dx : Addr) (fs : List (Str × V)), x = .ref a ∧ Own K C b ∧ findIn K (.ref C) f = some none ∧
  H2 a = some (exo a C (some dx)) ∧ H2 dx = some (exd dx fs) ∧ fs.length ≤ 900 ∧ D.nx σ (upd H2 dx (exd dx ((f, y) :: fs)))
/-- C(e, ..) as a value: the error stands in the heap -/
def tMkV (C : Addr) (sp : Sp) (dvs : List V) (ta : TA) : TE := fun σ H Q => ta σ H fun vs H1 => vs.length ≤ 1000 ∧ ∀ a, H1 a = none → sp (.ref a :: (vs ++ dvs)) (upd H1 a (exo a C none)) (fun v H2 => v = .non ∧ Q (.ref a) H2) (fun _ _ _ => False)
end
/-- the starter's name is found -/
def BI.named (K : Frag) (b : BI) : Prop := findCls K (.type b.B) (.type "type") "__init__" = some (.val (.builtin b.ini)) ∧ Manifest.isStub b.B = false ∧ handedIn (.builtin b.ini) = true ∧ bootBuiltins b.B = some (.type b.B)
theorem nV {K : Frag} : BI.named K iV := ⟨by kernel_rfl, by decide +kernel, by decide +kernel, by decide +kernel⟩
theorem nI {K : Frag} : BI.named K iI := ⟨by kernel_rfl, by decide +kernel, by decide +kernel, by decide +kernel⟩
theorem nL {K : Frag} : BI.named K iL := ⟨by kernel_rfl, by decide +kernel, by decide +kernel, by decide +kernel⟩
theorem nR {K : Frag} : BI.named K iR := ⟨by kernel_rfl, by decide +kernel, by decide +kernel, by decide +kernel⟩
theorem nO {K : Frag} : BI.named K iO := ⟨by kernel_rfl, by decide +kernel, by decide +kernel, by decide +kernel⟩
theorem nK {K : Frag} : BI.named K iK := ⟨by kernel_rfl, by decide +kernel, by decide +kernel, by decide +kernel⟩
section
open L2
variable {X : Cx} {b : BI} {o e : Expr} {es : List Expr} {to te : TE} {ta : TA} {f x : Str} {p p' p1 p2 pos : Pos}
theorem pe_ini {pl : Sem Bool} (nb : b.named X.K) (Z : b.ok) (hg : Gl X x) (hm : X.mg x = none) (hx : x = Str.ofString b.B) (ha : PA X (e :: es) ta) (h1 : x ≠ "__name__" := by decide) (h2 : (x == ("__debug__" : Str)) = false := by decide)
    (hc : eval (.Call (.Attribute (.Name x p1) "__init__" p2) (e :: es) [] pos) X.env = (do
      let v ← eval (.Name x p1) X.env
      standAt p2.atName
      let (m, first) ← holding [v] (getMethod v "__init__" pl)
      callWith pos m first (backTo pos (starEach (e :: es) X.env)) (backToKw pos (keywordEach [] X.env))) := by rfl)
    (he : starEach (e :: es) X.env = (false, eval e X.env) :: starEach es X.env := by rfl) (hp : (backTo pos (starEach es X.env)).any (·.1) = false := by rfl) :
    PE X (.Call (.Attribute (.Name x p1) "__init__" p2) (e :: es) [] pos) (tIni X.K b ta) := by
  refine ⟨fun pins s σ H Q I h => ?_⟩
  obtain ⟨n1, n2, n3, n4⟩ := nb
  have Z' : Base b.B b.nB b.nw b.nI b.ini b.tB b.tl := Z
  refine PySem.W.methodCall_KW (ld_blt I hg hm (by rw [hx]; exact n4) ?_ h1 h2) hc
  obtain ⟨m, fr⟩ := I.fr
  refine PySem.W.method_type fr I.ok.mod.kin Z'.ty n2 n1 n3 ?_
  show wpAny _ _ (callWith pos (Value.builtin b.ini) [] (backTo pos (starEach (e :: es) X.env)) []) _ _ _
  refine PyProof.Rows.callWith_method1 (thn (ha.run pos pins _ σ H _ (I.tok _) h) fun us s1 ⟨vs, H1, I1, r1, a, C, ws, ev, hl, T, ea, q⟩ => ?_) he hp
  subst ev
  cases r1 with
  | @cons _ u0 _ ur ra rw' =>
    obtain rfl : u0 = Value.ref a := ra
    exact start_ok T I1 ea (by rw [← Paired.length rw', sizeLine_eq]; omega) fun s' J => ⟨.non, H1, J, rfl, q⟩
theorem ps_os1 (ho : PE X o to) (he : PE X e te) (hs : swapsWith e (some (.Attribute o f p')) pos.line X.env = pure false := by rfl) : PS X (.Assign [.Attribute o f p'] e pos) (tOs1 X.K b f to te) := by
  refine ⟨fun pins s σ H D I h => plainObj_wpAny_Assign_Attribute ?_ hs⟩
  refine thn (he.run pins s σ H _ I h) fun v s1 ⟨y, H1, I1, r1, q1⟩ => thn (ho.run pins s1 σ H1 _ I1 q1) fun u s2 ⟨z, H2, I2, r2, a, C, ex, T, no, ea, q⟩ => ?_
  subst ex
  obtain rfl : u = Value.ref a := r2
  exact set_first T I2 ea no r1 fun dx s' n ne J => ⟨σ, _, J, q dx n ne⟩
theorem ps_os2 (ho : PE X o to) (he : PE X e te) (hs : swapsWith e (some (.Attribute o f p')) pos.line X.env = pure false := by rfl) : PS X (.Assign [.Attribute o f p'] e pos) (tOs2 X.K b f to te) := by
  refine ⟨fun pins s σ H D I h => plainObj_wpAny_Assign_Attribute ?_ hs⟩
  refine thn (he.run pins s σ H _ I h) fun v s1 ⟨y, H1, I1, r1, q1⟩ => thn (ho.run pins s1 σ H1 _ I1 q1) fun u s2 ⟨z, H2, I2, r2, a, C, dx, fs, ex, T, no, ea, ed, hl, q⟩ => ?_
  subst ex
  obtain rfl : u = Value.ref a := r2
  exact set_next T I2 ea ed hl no r1 fun s' J => ⟨σ, _, J, q⟩
section
variable {CX : CXT} {C fI : Addr} {k : Nat} {fd : FuncData} {ps : List Str} {sp : Sp} {ds : List Value} {dvs : List V}
/-- the class is called, its own starter keeping sp: what is left -/
theorem make_run {P : Value → Shared → Prop} (T : Own X.K C b) (iC : findIn X.K (.ref C) "__init__" = some (some (.ref fI))) (tI : typeIn X.K (.ref fI) = some (.type "function")) (FI : FnOk X.prog X.w X.K X.mg X.base CX k fI fd ps sp) (hr : Room (k + 1) X.A) (hb : Binds X.K fd ps ds) (hd : Vals dvs ds)
    (hx : Passes CX X (fun _ _ _ => False)) {pins : List (Addr × Obj)} {σ : St} {H1 : Hp} {hp : Heap} {g : Array GenState} {dr : Drawn} {tk : Nat} {os : OsState} {us : List Value} {vs : List V} {G : V → Hp → Prop} (I1 : Inv X pins σ H1 ⟨hp, g, dr, tk, os⟩) (r1 : Vals vs us) (sz : vs.length ≤ 1000)
    (hq : sp (.ref (hp.objs.size + 1) :: (vs ++ dvs)) (upd H1 (hp.objs.size + 1) (exo (hp.objs.size + 1) C none)) G (fun _ _ _ => False))
    (fin : ∀ (v : V) (u : Value) (H2 : Hp) (s2 : Shared), RelV v u → G v H2 → s2.os = os → PyProof.Rows.AllBare s2.gens → Un (frs X.stack) [] (upd H1 (hp.objs.size + 1) (exo (hp.objs.size + 1) C none)) H2 ((hp.push (W.kdv_tup us)).push (excO C hp.objs.size)) s2.heap → HOk X.prog X.w H2 s2.heap → u = .none ∧ P (.ref (hp.objs.size + 1)) s2) :
    wpAny (model X.prog X.w) X.A (call (.ref C) us) P X.xe ⟨hp, g, dr, tk, os⟩ := by
  obtain ⟨nm, q, N, bs, sn, sub, ab, col, dd, k0, k1, k2, k3, k5, hC⟩ := T.cls
  have Z : Base b.B b.nB b.nw b.nI b.ini b.tB b.tl := T.Z
  have kp : ∀ c o, hp.get? c = some o → ((hp.push (W.kdv_tup us)).push (excO C hp.objs.size)).get? c = some o := fun _ _ z => Heap.get?_push_of_some _ (Heap.get?_push_of_some _ z)
  have he : ((hp.push (W.kdv_tup us)).push (excO C hp.objs.size)).get? (hp.objs.size + 1) = some (excO C hp.objs.size) := by heap_get
  have I2 : Inv X pins σ (upd H1 (hp.objs.size + 1) (exo (hp.objs.size + 1) C none)) ⟨(hp.push (W.kdv_tup us)).push (excO C hp.objs.size), g, dr, tk, os⟩ := I1.laid (t' := tk) kp (Nat.le_succ _) (exo_ok he)
  have r2 : Vals (V.ref (hp.objs.size + 1) :: (vs ++ dvs)) (Value.ref (hp.objs.size + 1) :: (us ++ ds)) := .cons rfl (r1.append hd)
  have hl : (Value.ref (hp.objs.size + 1) :: us ++ ds).length = ps.length := by
    have z := r2.length
    rw [FI.len _ _ _ _ hq] at z
    exact z.symm
  have su : us.length ≤ sizeLine := by rw [← Paired.length r1, sizeLine_eq]; omega
  refine wpAny_call (class_call Z (I1.kIn _ _ hC) su (looks_findIn I1.kIn iC) (fun v => bind_fn I1.kIn v tI) (codeAny_mono (FI.run _ X.stack _ _ ⟨Value.ref (hp.objs.size + 1) :: us, []⟩ (Value.ref (hp.objs.size + 1) :: (us ++ ds)) _ _ (fun _ _ _ => False)
    (hr.make C us []) (I2.env0.make C us []) (hb _ (Value.ref (hp.objs.size + 1) :: us) I2.kIn hl) r2 hq) fun r s' z => ?_))
  cases r with
  | error er => exact hx pins σ _ _ er s' I2 z
  | ok fl =>
    cases fl with
    | ret u =>
      obtain ⟨v, H2, os2, bare2, un2, hok2, rv, qv⟩ := z
      exact fin v u H2 s' rv qv os2 bare2 un2 hok2
    | next => exact z.elim
    | brk => exact z.elim
    | cont => exact z.elim
/-- X(e, ..), made to be raised -/
theorem pmk_own (T : Own X.K C b) (iC : findIn X.K (.ref C) "__init__" = some (some (.ref fI))) (tI : typeIn X.K (.ref fI) = some (.type "function")) (FI : FnOk X.prog X.w X.K X.mg X.base CX k fI fd ps sp) (hr : Room (k + 1) X.A) (hb : Binds X.K fd ps ds) (hd : Vals dvs ds)
    (hx : Passes CX X (fun _ _ _ => False)) (hg : Gl X x) (hm : X.mg x = some (.ref C)) (ha : PA X (e :: es) ta) (h2 : (x == ("__debug__" : Str)) = false := by decide)
    (he : starEach (e :: es) X.env = (false, eval e X.env) :: starEach es X.env := by rfl) (hp : (backTo pos (starEach es X.env)).any (·.1) = false := by rfl) : PMk X (.Call (.Name x p) (e :: es) [] pos) (tMkO C sp dvs ta) := by
  intro pins s σ H Q I h
  refine wpAny_Call_Name_kw (ld_glob I hg hm ?_ h2)
  refine PySem.W.callWith_K (h₀ := X.base) I.ok.mod.kin T.kC (thn (ha.run pos pins s σ H _ I h) fun us s1 ⟨vs, H1, I1, r1, sz, q1⟩ => ⟨I1.kIn, ?_⟩) he hp
  show wpAny _ _ (call (.ref C) us) _ _ _
  obtain ⟨hp, g, dr, tk, os⟩ := s1
  refine make_run T iC tI FI hr hb hd hx I1 r1 sz (q1 _ (I1.hok.fresh (Nat.le_succ _))) fun v u H2 s2 rv qv os2 bare2 un2 hok2 => ?_
  obtain ⟨ev, d, fs, ea, ed, hd1, q2⟩ := qv
  subst ev
  obtain ⟨h2, g2, d2, t2, os'⟩ := s2
  exact ⟨rv, mk_end (raises_own T.exC T.tyC) I1 (Nat.le_succ _) (fun _ _ z => Heap.get?_push_of_some _ (Heap.get?_push_of_some _ z)) un2 hok2 os2 bare2 ea ed hd1 q2⟩
/-- X(e, ..), a value -/
theorem pe_own (T : Own X.K C b) (iC : findIn X.K (.ref C) "__init__" = some (some (.ref fI))) (tI : typeIn X.K (.ref fI) = some (.type "function")) (FI : FnOk X.prog X.w X.K X.mg X.base CX k fI fd ps sp) (hr : Room (k + 1) X.A) (hb : Binds X.K fd ps ds) (hd : Vals dvs ds)
    (hx : Passes CX X (fun _ _ _ => False)) (hg : Gl X x) (hm : X.mg x = some (.ref C)) (ha : PA X (e :: es) ta) (h2 : (x == ("__debug__" : Str)) = false := by decide)
    (he : starEach (e :: es) X.env = (false, eval e X.env) :: starEach es X.env := by rfl) (hp : (backTo pos (starEach es X.env)).any (·.1) = false := by rfl) : PE X (.Call (.Name x p) (e :: es) [] pos) (tMkV C sp dvs ta) := by
  refine ⟨fun pins s σ H Q I h => ?_⟩
  refine wpAny_Call_Name_kw (ld_glob I hg hm ?_ h2)
  refine PySem.W.callWith_K (h₀ := X.base) I.ok.mod.kin T.kC (thn (ha.run pos pins s σ H _ I h) fun us s1 ⟨vs, H1, I1, r1, sz, q1⟩ => ⟨I1.kIn, ?_⟩) he hp
  show wpAny _ _ (call (.ref C) us) _ _ _
  obtain ⟨hp, g, dr, tk, os⟩ := s1
  refine make_run T iC tI FI hr hb hd hx I1 r1 sz (q1 _ (I1.hok.fresh (Nat.le_succ _))) fun v u H2 s2 rv qv os2 bare2 un2 hok2 => ?_
  obtain ⟨ev, q2⟩ := qv
  subst ev
  obtain ⟨h2, g2, d2, t2, os'⟩ := s2
  have he : ((hp.push (W.kdv_tup us)).push (excO C hp.objs.size)).get? (hp.objs.size + 1) = some (excO C hp.objs.size) := by heap_get
  have I2 : Inv X pins σ (upd H1 (hp.objs.size + 1) (exo (hp.objs.size + 1) C none)) ⟨(hp.push (W.kdv_tup us)).push (excO C hp.objs.size), g, dr, tk, os⟩ := I1.laid (t' := tk) (fun _ _ z => Heap.get?_push_of_some _ (Heap.get?_push_of_some _ z)) (Nat.le_succ _) (exo_ok he)
  exact ⟨rv, .ref (hp.objs.size + 1), H2, I2.call' (ch := []) os2 un2 hok2 bare2 (fun _ z => absurd z (by simp)), rfl, q2⟩
end
end
end ER

/-! ### a, *b, c = a tuple -/
namespace ST
open PySem PyProof.Rows
section
variable {prog : Program} {w : World} {A : Around} {E : Value → Shared → Prop} {s : Shared}
/-- what is left of a tuple's walk -/
theorem left_walk (hh : A.handled = none) {it t : Addr} (ne : t ≠ it) (items : Array Value) (k n : Nat) (hn : k + n = items.size) :
    WalksS prog w A it [it, t] [it] (fun a b => a = b) n (fun i v => items[k + i]? = some v) (fun i s => s.heap.IsTupleIter it t (k + i) ∧ s.heap.IsTuple t items) := by
  have W := Walks.tuple (prog := prog) (w := w) hh it t ne items
  have mv : ∀ {s : Shared} {h' : Heap}, (∀ b o, b ≠ it → s.heap.get? b = some o → h'.get? b = some o) → Moved [it] (fun a b => a = b) s { s with heap := h' } := fun kp =>
    ⟨fun b o n e => kp b o (fun z => n (by simp [z])) e, rfl, rfl, rfl, Nat.le_refl _⟩
  refine ⟨W.sub, fun _ => rfl, fun _ _ _ h1 h2 => h1.trans h2, fun i s h' tk st _ kp => W.frame _ _ _ st kp, fun i s Q E hi st q => ?_, fun s Q E st q => ?_, fun i s Q E st q => W.self _ s Q E st q⟩
  · have hx : items[k + i]? = some items[k + i] := Array.getElem?_eq_getElem (by omega)
    exact wpAny_pyNext_tuple_item st.1 st.2 hx fun h' h1 h2 => q _ _ hx ⟨h1, st.2.extBut h2.extBut ne⟩ (mv fun b o n e => h2.extBut b o n e)
  · exact wpAny_pyNext_tuple_end hh st.1 st.2 (by simp; omega) fun h' h2 => q _ (mv fun b o n e => h2 b o n e)
/-- n targets, the k-th with the star -/
theorem unpack_star {t : Addr} {items : Array Value} {n k : Nat} {Q : List Value → Shared → Prop} (hh : A.handled = none) (ht : IsTup s.heap t items) (hk : k < n) (hn : n ≤ items.size + 1) (sz : items.size ≤ sizeLine)
    (fin : ∀ (h' : Heap) (tk : Nat), (∀ b o, s.heap.get? b = some o → h'.get? b = some o) → s.toks ≤ tk →
      Q (items.toList.take k ++ [.ref h'.objs.size] ++ items.toList.drop (items.size - (n - 1 - k))) { s with heap := h'.push { cls := .type "list", data := .seq ((items.toList.drop k).take (items.size - (n - 1))).toArray }, toks := tk }) :
    wpAny (model prog w) A (unpackItems (.ref t) n (some k)) Q E s := by
  have ne : t ≠ s.heap.objs.size := by obtain ⟨o, ho, _⟩ := ht; exact Nat.ne_of_lt (Heap.lt_size ho)
  unfold unpackItems notIterableAtAll
  refine wpAny_bind (wpAny_bind (wpAny_specialOf ht.typeIs slot_tuple_iter.lookup (wpAny_pure ?_)))
  simp only [Bool.false_eq_true, if_false]
  refine wpAny_bind (wpAny_holding (iter_tuple ht ?_))
  refine wpAny_bind (wpAny_holding (draw_tuple ne k 0 _ _ ⟨_, Heap.get?_push_size _ rfl, rfl, rfl⟩ (ht.push _) (by omega) fun h1 hi1 hs1 => ?_))
  have ht1 : IsTup h1 t items := (ht.push _).extBut hs1.extBut ne
  have lk : (List.take k (List.drop 0 items.toList)).length = k := by rw [List.drop_zero, List.length_take]; simp; omega
  rw [if_neg (by rw [lk]; omega)]
  have W := left_walk (prog := prog) (w := w) (A := A.in1) hh ne items k (items.size - k) (by omega)
  have hs1' : s.heap.objs.size < h1.objs.size := by obtain ⟨o, ho, _⟩ := hi1; exact Heap.lt_size ho
  have fp : ∀ b ∈ [s.heap.objs.size, t], b < h1.objs.size := fun b hb => by
    rcases List.mem_cons.mp hb with rfl | hb
    · exact hs1'
    · rw [List.mem_singleton.mp hb]; exact ht1.lt
  rw [Nat.zero_add] at hi1
  refine wpAny_bind (wpAny_holding (wpAny_collect_iter (s := { s with heap := h1 }) (.inr (.inr (.inr rfl))) W (fun i s' st => st.1.typeIs) ⟨hi1, ht1⟩ fp (by simp) (fun s2 acc mv ac => ?_) (by omega)))
  have ea : acc.toList = items.toList.drop k := by
    apply List.ext_getElem?
    intro j
    rw [List.getElem?_drop, Array.getElem?_toList, Array.getElem?_toList]
    cases e : acc[j]? with
    | some v => exact (ac.2 j v e).symm
    | none =>
      have : acc.size ≤ j := by simpa using e
      rw [ac.1] at this
      exact (Array.getElem?_eq_none (by omega)).symm
  rw [ea]
  have ld : (items.toList.drop k).length = items.size - k := by rw [List.length_drop]; simp
  rw [if_neg (by rw [ld]; omega)]
  obtain ⟨hp2, g2, d2, t2, os2⟩ := s2
  obtain ⟨m1, m2, m3, m4, m5⟩ := mv
  have e1 : s.gens = g2 := m2
  have e2 : d2 = s.drawn := m3
  have e3 : os2 = s.os := m4
  subst e1 e2 e3
  have kp : ∀ b o, s.heap.get? b = some o → hp2.get? b = some o := fun b o e => by
    have nb : b ≠ s.heap.objs.size := Nat.ne_of_lt (Heap.lt_size e)
    exact m1 b o (by simpa using nb) (hs1.extBut b o nb (Heap.get?_push_of_some _ e))
  refine wpAny_bind (wpAny_newList (wpAny_pure ?_) ?_)
  · have q := fin hp2 t2 kp m5
    have a1 : items.size - k - (n - 1 - k) = items.size - (n - 1) := by omega
    have a2 : items.toList.drop (items.size - (n - 1 - k)) = (items.toList.drop k).drop (items.size - (n - 1)) := by rw [List.drop_drop]; congr 1; omega
    rw [a2] at q
    rw [ld, a1, List.drop_zero]
    exact q
  · rw [List.length_take, ld]; omega
end
section
open L2
variable {X : Cx} {e : Expr} {es : List Expr} {t : TG} {u : TGs} {pos p : Pos}
theorem pgs_star (h1 : PG X e t) (h2 : PGs X es u) (hs : (assignEach (.Starred e p :: es) X.env).map (·.2) = assign e X.env :: (assignEach es X.env).map (·.2) := by rfl) : PGs X (.Starred e p :: es) (gCons t u) := by
  refine ⟨fun pins s σ H vs us Q I r h => ?_⟩
  obtain ⟨v, vr, rfl, h⟩ := h
  cases r with
  | cons r rr =>
    rw [hs]
    refine assignInOrder_cons (thn (h1.run pins s σ H _ _ _ I r h) fun _ s1 ⟨σ1, H1, I1, q1⟩ => h2.run pins s1 σ1 H1 _ _ Q I1 rr q1)
/-- n targets, the k-th takes what is left -/
def gStar (K : PySem.W.Frag) (n k : Nat) (u : TGs) : TG := fun v σ H Q => ∃ a xs, v = .ref a ∧ SqT K H a xs ∧ n ≤ xs.length + 1 ∧
  ∀ l, H l = none → u (xs.take k ++ [.ref l] ++ xs.drop (xs.length - (n - 1 - k))) σ (upd H l (.lst ((xs.drop k).take (xs.length - (n - 1))))) Q
theorem vals_cut : ∀ {xs : List V} {us : List Value} (k : Nat), Vals xs us → Vals (xs.take k) (us.take k) ∧ Vals (xs.drop k) (us.drop k)
  | _, _, 0, r => ⟨by rw [List.take_zero, List.take_zero]; exact .nil, by rw [List.drop_zero, List.drop_zero]; exact r⟩
  | _, _, k + 1, .nil => ⟨by rw [List.take_nil, List.take_nil]; exact .nil, by rw [List.drop_nil, List.drop_nil]; exact .nil⟩
  | _, _, k + 1, .cons a r => by
    obtain ⟨h1, h2⟩ := vals_cut k r
    exact ⟨.cons a h1, h2⟩
theorem pg_star {n k kk : Nat} (hc : X.calm = true) (h : PGs X es u) (hn : (assignEach es X.env).length = n := by rfl) (hk : (assignEach es X.env).findIdx? (·.1) = some k := by rfl) (hkn : k < n := by decide) : PG X (.Tuple es kk pos) (gStar X.K n k u) := by
  refine ⟨fun pins s σ H v x Q I r hw => ?_⟩
  obtain ⟨a, xs, rfl, hq, hl, hw⟩ := hw
  cases r
  obtain ⟨its, rv, ht, hz⟩ := I.tuple hq
  have el : xs.length = its.length := rv.length
  rw [assign_Tuple]
  unfold unpack
  refine wpAny_bind (wpAny_standAt (wpAny_bind (wpAny_holding ?_)))
  rw [hn, hk]
  refine unpack_star (I.ok.hd hc) ht hkn (by simp; omega) (by simp; omega) fun h' tk kp _ => ?_
  have I1 : Inv X pins σ H { s with heap := h', toks := tk } := I.kept (t' := tk) kp
  have ez : its.toArray.size = its.length := by simp
  have rm : Vals ((xs.drop k).take (xs.length - (n - 1))) ((its.drop k).take (its.length - (n - 1))) := by rw [el]; exact (vals_cut _ (vals_cut k rv).2).1
  have I2 : Inv X pins σ (upd H h'.objs.size (.lst ((xs.drop k).take (xs.length - (n - 1))))) { s with heap := h'.push { cls := .type "list", data := .seq ((its.drop k).take (its.length - (n - 1))).toArray }, toks := tk } :=
    I1.lnew (t' := tk) rm (by rw [List.length_take, List.length_drop]; omega)
  have rr : Vals (xs.take k ++ [.ref h'.objs.size] ++ xs.drop (xs.length - (n - 1 - k))) (its.take k ++ [.ref h'.objs.size] ++ its.drop (its.length - (n - 1 - k))) := by
    rw [el]
    have r1 : Vals [V.ref h'.objs.size] [Value.ref h'.objs.size] := .cons (show RelV (V.ref h'.objs.size) (Value.ref h'.objs.size) from rfl) .nil
    exact ((vals_cut k rv).1.append r1).append (vals_cut _ rv).2
  have q := h.run pins _ σ _ _ _ Q I2 rr (hw _ I1.fresh)
  simpa using q
end
end ST

/-! ### zip of a tuple and a list -/
namespace ZM
open PySem PyProof.Rows L2
/-- the tuple at a and the list at b as they stand at each turn, their items in new pairs -/
def ItzM (K : PySem.W.Frag) (a b : Addr) : It :=
  ⟨fun i H => ∃ (xs ys : List V) (x y : V), SqT K H a xs ∧ SqL K H b ys ∧ xs[i]? = some x ∧ ys[i]? = some y,
    fun i H v H' => ∃ p x y, v = .ref p ∧ H p = none ∧ H' = upd H p (.tup [x, y]) ∧ (∀ xs, SqT K H a xs → xs[i]? = some x) ∧ ∀ ys, SqL K H b ys → ys[i]? = some y,
    fun i H => ∃ xs ys : List V, SqT K H a xs ∧ SqL K H b ys ∧ i = min xs.length ys.length⟩
theorem sep_of {z TI TO i1 i2 a b : Addr} (D : ZipApart z TI TO i1 i2 a b) : ZipSep2 z TI TO i1 i2 [i1, a] [i2, b] :=
  ⟨D.TIz, D.TOz, D.TITO, D.TIi1, by simp, by simp [D.i1z.symm, D.l1z.symm], by simp [D.TOi1, D.l1TO.symm], D.TIi2, by simp, by simp [D.i2z.symm, D.l2z.symm], by simp [D.TOi2, D.l2TO.symm], by simp [D.i12, D.l2i1.symm], by simp [D.i12.symm, D.l1i2.symm]⟩
theorem turn_m {P : Program} {w : World} {K : PySem.W.Frag} {elts : List Expr} {kk : Nat} {tpos : Pos} {a b z TI TO i1 i2 : Addr} (D : ZipApart z TI TO i1 i2 a b) :
    Turn P w K (.Tuple elts kk tpos) (ItzM K a b) [z, TI, TO, i1, i2] z (fun i h => IsZip h z TI TO .none ∧ IsPair h TI (.ref i1) (.ref i2) ∧ (∃ x y, IsPair h TO x y) ∧ h.IsTupleIter i1 a i ∧ h.IsListIter i2 b i) where
  mem := by simp
  obj := fun i h st c hc => by
    obtain ⟨hz, h1, ⟨x, y, h2⟩, ⟨o1, e1, _, d1⟩, h3⟩ := st
    obtain ⟨o2, e2, _, d2⟩ := h3
    simp only [List.mem_cons, List.not_mem_nil, or_false] at hc
    rcases hc with rfl | rfl | rfl | rfl | rfl
    · exact ⟨_, hz, fun v q => nomatch q⟩
    · exact ⟨_, h1, fun v q => nomatch q⟩
    · exact ⟨_, h2, fun v q => nomatch q⟩
    · exact ⟨o1, e1, fun v q => by rw [d1] at q; cases q⟩
    · exact ⟨o2, e2, fun v q => by rw [d2] at q; cases q⟩
  keep := fun i h h' st k => by
    obtain ⟨hz, h1, ⟨x, y, h2⟩, h3, h4⟩ := st
    exact ⟨k z (by simp) _ hz, k TI (by simp) _ h1, ⟨x, y, k TO (by simp) _ h2⟩, h3.at fun o q => k i1 (by simp) o q, h4.at fun o q => k i2 (by simp) o q⟩
  item := by
    intro X hP hw hK hc i pins s σ H E I hf st hg
    subst hP hw hK
    obtain ⟨hz, hTI, ⟨x0, y0, hTO⟩, h1, h2⟩ := st
    obtain ⟨xs, ys, x, y, hqx, hqy, hx, hy⟩ := hg
    obtain ⟨its, rv, p, _⟩ := I.tuple hqx
    obtain ⟨its2, rv2, p2, _⟩ := I.list hqy
    obtain ⟨u, hu, ru⟩ := rv.get hx
    obtain ⟨u2, hu2, ru2⟩ := rv2.get hy
    have hzl : z < s.heap.objs.size := Heap.lt_size hz
    have b1 : i < its.toArray.size := by simpa using (List.getElem?_eq_some_iff.mp hu).1
    have b2 : i < its2.toArray.size := by simpa using (List.getElem?_eq_some_iff.mp hu2).1
    have hh : X.A.in1.handled = none := I.ok.hd hc
    refine wpAny_pyNext_zipD2_item (sep_of D) (Draws.tuple (A := X.A.in1) hh i1 a D.l1i1 its.toArray) (Draws.list (A := X.A.in1) hh i2 b D.l2i2 its2.toArray) hz hTI hTO ⟨h1, p⟩ ⟨h2, p2.isList⟩ b1 b2 fun v1 v2 h' tk q1 q2 z' TO' g1 g2 hT hsz hk => ?_
    obtain rfl : v1 = u := by
      have q1 : its.toArray[i]? = some v1 := q1
      have e : its.toArray[i]? = some u := by simpa using hu
      exact Option.some.inj (q1.symm.trans e)
    obtain rfl : v2 = u2 := by
      have q2 : its2.toArray[i]? = some v2 := q2
      have e : its2.toArray[i]? = some u2 := by simpa using hu2
      exact Option.some.inj (q2.symm.trans e)
    refine ⟨_, rfl, wpAny_letOwnedTupleGo_zip (s := { s with heap := h', toks := tk }) z' fun h'' z'' sb => ?_⟩
    have hT2 : h''.get? s.heap.objs.size = some { cls := .type "tuple", data := .seq #[v1, v2] } := (sb.2 _ (Nat.ne_of_gt hzl)).trans hT
    have new : ObjOk X.prog X.w (upd H s.heap.objs.size (.tup [x, y])) h'' s.heap.objs.size (.tup [x, y]) := ⟨by show 2 ≤ sizeLine; decide, [v1, v2], .cons ru (.cons ru2 .nil), ⟨_, hT2, rfl, _, rfl⟩⟩
    have I1 : Inv X pins σ (upd H s.heap.objs.size (.tup [x, y])) { s with heap := h'', toks := tk } := by
      refine I.turnedNew (t' := tk) (ch := [z, TI, TO, i1, i2]) (fun c o hb q => ?_) hf (Nat.le_refl _) new
      have nn : ∀ d, d ∈ [z, TI, TO, i1, i2] → c ≠ d := fun d hd e => hb (e ▸ hd)
      exact (sb.2 c (nn z (by simp))).trans (hk c o (nn z (by simp)) (nn TO (by simp)) (nn i1 (by simp)) (nn i2 (by simp)) q)
    refine ⟨.ref s.heap.objs.size, _, I1, rfl, ⟨_, x, y, rfl, I.fresh, rfl, fun l hl => by rw [I.tuple_inj hl hqx]; exact hx, fun l hl => by rw [I.list_inj hl hqy]; exact hy⟩, ⟨z'', ?_, ⟨v1, v2, ?_⟩, ?_, ?_⟩, fun c hm => ?_⟩
    · exact (sb.2 _ D.TIz).trans (hk _ _ D.TIz D.TITO D.TIi1 D.TIi2 hTI)
    · exact (sb.2 _ D.TOz).trans TO'
    · exact g1.1.at fun o q => (sb.2 _ D.i1z).trans q
    · exact g2.1.at fun o q => (sb.2 _ D.i2z).trans q
    · have lt : c < s.heap.objs.size := by
        simp only [List.mem_cons, List.not_mem_nil, or_false] at hm
        obtain ⟨_, e1, _⟩ := h1
        obtain ⟨_, e2, _⟩ := h2
        rcases hm with rfl | rfl | rfl | rfl | rfl
        · exact hzl
        · exact Heap.lt_size hTI
        · exact Heap.lt_size hTO
        · exact Heap.lt_size e1
        · exact Heap.lt_size e2
      rw [upd_ne (Nat.ne_of_lt lt)]
      exact (hf c hm).1
  done := by
    intro X hP hw hK hc i pins s σ H E I hf st hg
    subst hP hw hK
    obtain ⟨hz, hTI, ⟨x0, y0, hTO⟩, h1, h2⟩ := st
    obtain ⟨xs, ys, hqx, hqy, hend⟩ := hg
    obtain ⟨its, rv, p, _⟩ := I.tuple hqx
    obtain ⟨its2, rv2, p2, _⟩ := I.list hqy
    have l1 : its.toArray.size = xs.length := by simpa using rv.length.symm
    have l2 : its2.toArray.size = ys.length := by simpa using rv2.length.symm
    have hh : X.A.in1.handled = none := I.ok.hd hc
    refine wpAny_pyNext_zipD2_end (sep_of D) (Draws.tuple (A := X.A.in1) hh i1 a D.l1i1 its.toArray) (Draws.list (A := X.A.in1) hh i2 b D.l2i2 its2.toArray) hz hTI hTO ⟨h1, p⟩ ⟨h2, p2.isList⟩ (by omega) (by omega) (by omega) fun h' tk hk => ⟨rfl, ?_⟩
    refine I.turnedL (t' := tk) (ch := [z, TI, TO, i1, i2]) (fun c o hb q => ?_) hf
    have nn : ∀ d, d ∈ [z, TI, TO, i1, i2] → c ≠ d := fun d hd e => hb (e ▸ hd)
    exact hk c o (nn z (by simp)) (nn TO (by simp)) (nn i1 (by simp)) (nn i2 (by simp)) q
  self := fun A i s Q E st h => wpAny_pyIter_zip st.1 h
def iZipM (K : PySem.W.Frag) (ta : TA) : TI := fun σ H R => ta σ H fun vs H1 => ∃ a b xs ys, vs = [.ref a, .ref b] ∧ SqT K H1 a xs ∧ SqL K H1 b ys ∧ R (ItzM K a b) H1
theorem pi_zipM {X : Cx} {e e2 : Expr} {ta : TA} {p pos tpos : Pos} {elts : List Expr} {kk : Nat} (hg : Gl X "zip") (hm : X.mg "zip" = none) (ha : PA X [e, e2] ta) (hs : starEach [e, e2] X.env = (false, eval e X.env) :: starEach [e2] X.env := by rfl) (hpl : (backTo pos (starEach [e2] X.env)).any (·.1) = false := by rfl) :
    PI X (.Tuple elts kk tpos) (.Call (.Name "zip" p) [e, e2] [] pos) (iZipM X.K ta) := by
  refine ⟨fun pins s σ H R I h => ?_⟩
  refine Call_ (ld_blt I hg hm boot_zip (callWith_type1 (thn (ha.run pos pins s σ H _ I h) fun us s1 ⟨vs, H1, I1, r1, a, b, xs, ys, ex, hqx, hqy, q⟩ => ?_) hs hpl))
  subst ex
  obtain ⟨u, v, rfl, rfl, rfl⟩ : ∃ u v, us = [u, v] ∧ u = Value.ref a ∧ v = Value.ref b := by
    cases r1 with
    | cons r rr =>
      cases rr with
      | cons r' rr => cases rr; exact ⟨_, _, rfl, r, r'⟩
  obtain ⟨its, rv, p1, _⟩ := I1.tuple hqx
  obtain ⟨its2, rv2, p2, _⟩ := I1.list hqy
  have la : a < s1.heap.objs.size := by obtain ⟨o, e, _⟩ := id p1; exact Heap.lt_size e
  refine zip_begins2 (begins_tuple a its.toArray) (begins_list b its2.toArray) p1 p2.isList fun h' hz hTI hTO h1 h2 hsz hk => wpAny_pyIter_zip hz ?_
  have I2 : Inv X pins σ H1 { s1 with heap := h' } := I1.kept (t' := s1.toks) hk
  have D := PySem.W.ktu_apart s1.heap.objs.size a b la p2.lt
  refine ⟨s1.heap.objs.size + 4, [s1.heap.objs.size + 4, s1.heap.objs.size + 2, s1.heap.objs.size + 3, s1.heap.objs.size, s1.heap.objs.size + 1], _, _, H1, rfl, I2, turn_m D, ⟨hz, hTI, ⟨_, _, hTO⟩, ⟨_, h1, rfl, rfl⟩, ⟨_, h2, rfl, rfl⟩⟩, fun c hm => ?_, q⟩
  have le : s1.heap.objs.size ≤ c := by
    simp only [List.mem_cons, List.not_mem_nil, or_false] at hm
    rcases hm with rfl | rfl | rfl | rfl | rfl
    · exact Nat.le_add_right _ _
    · exact Nat.le_add_right _ _
    · exact Nat.le_add_right _ _
    · exact Nat.le_refl _
    · exact Nat.le_add_right _ _
  exact I1.fpOk le (I1.hok.fresh le)
theorem walk_m {K : PySem.W.Frag} {a b : Addr} {xs ys : List V} {n : Nat} (hn : n = min xs.length ys.length) : Walk (ItzM K a b) n (fun H => SqT K H a xs ∧ SqL K H b ys) (YPair (fun i => xs[i]?) (fun i => ys[i]?)) := by
  subst hn
  refine ⟨fun i H hi q => ?_, fun H q => ⟨xs, ys, q.1, q.2, rfl⟩, fun i H v H' hi q y => ?_⟩
  · exact ⟨xs, ys, _, _, q.1, q.2, List.getElem?_eq_getElem (by omega), List.getElem?_eq_getElem (by omega)⟩
  · obtain ⟨p, x, y, e1, e2, e3, e4, e5⟩ := y
    exact ⟨p, x, y, e1, e2, e3, e4 xs q.1, e5 ys q.2⟩
end ZM

/-! ### len of an object whose class has its own __len__; try with several clauses, named and not -/
namespace L2.MX
open PySem PySem.Spec PyProof.Rows
section
variable {X : Cx} {k : Nat} {C f : Addr} {fd : FuncData} {sp : Sp}
def rLenO (C : Addr) (sp : Sp) : List V → Hp → VK → Prop := fun xs H Q => ∃ (a dx : Addr) (fs : List (Str × V)), xs = [.ref a] ∧ H a = some (.ins C dx fs) ∧ sp [.ref a] H (fun v H2 => ∃ n : Int, v = .int n ∧ (0 ≤ n ∧ n < 2 ^ 63) ∧ Q (.int n) H2) (fun _ _ _ => False)
theorem call_lenO (F : FnOk X.prog X.w X.K X.mg X.base (fun _ _ _ _ _ _ => False) k f fd ["self"] sp) (hr : Room (k + 1) X.A) (hb : Binds X.K fd ["self"] []) (m : Meth X.K C "__len__" f) : CallR X (.builtin "len") (rLenO C sp) := by
  intro pins s σ H xs us Q I r h
  obtain ⟨a, dx, fs, rfl, ea, h⟩ := h
  have r' := r
  rw [Vals.ref1 r]
  obtain ⟨mA, O, _⟩ := ins_get I.hok ea
  obtain ⟨od, J, _⟩ := O.look
  obtain ⟨m', fr⟩ := I.fr
  refine PySem.W.len_K fr I.ok.mod.kin J m.at_ m.fn ?_
  have e0 : Env0 X.prog X.w X.K X.mg X.base X.A.in1 X.stack s H := ⟨I.env0.frames, I.env0.mod, I.env0.bs, I.env0.bsz, I.env0.funs, I.env0.frf, I.env0.hok, I.env0.bare⟩
  have rr : Vals [V.ref a] [Value.ref a] := .cons rfl .nil
  refine wpAny_call (codeAny_mono (F.run X.A.in1 X.stack s H ⟨[.ref a], []⟩ [.ref a] [.ref a] _ _ hr.in1 e0 (by have b := hb s [.ref a] I.kIn rfl; exact b) rr h) fun rs s' hq => ?_)
  cases rs with
  | error e => exact False.elim hq
  | ok fl =>
    cases fl with
    | ret u =>
      obtain ⟨v, H', I', rv, n, rfl, hn, q⟩ := I.after hq
      obtain ⟨t, rfl⟩ := rv
      exact ⟨hn, .int n, H', I'.tok _, ⟨_, rfl⟩, q⟩
    | next => exact False.elim hq
    | brk => exact False.elim hq
    | cont => exact False.elim hq
end
/-- what the suite may end with, its name unbound -/
def wEnds : Option Nat → Ends → Ends
  | none, D => D
  | some i, D => { nx := fun σ H => D.nx (σ.set i none) H, rt := D.rt, bk := fun σ H => D.bk (σ.set i none) H, ct := fun σ H => D.ct (σ.set i none) H }
def wSt : Option Nat → St → Addr → St
  | none, σ, _ => σ
  | some i, σ, a => σ.set i (some (.ref a))
abbrev Cl : Type := Value × Option Nat × (Addr → Value → Option Addr → TS)
def wMix (K : PySem.W.Frag) (Wout : WX) (D : Ends) : List Cl → WX
  | [] => Wout
  | (c, oi, ts) :: r => fun cls d σ H => ∃ b, PySem.W.exmOne K cls c = some b ∧ (b = true → ∀ a, H a = none → ts a cls d (wEnds oi D) (wSt oi σ a) H) ∧ (b = false → wMix K Wout D r cls d σ H)
inductive HdsM (X : Cx) : List ExceptHandler → List Cl → Prop
  | nil : HdsM X [] []
  | plain {x : Str} {c : Value} {ts : Addr → Value → Option Addr → TS} {b₀ : Stmt} {suite : List Stmt} {np pos' : Pos} {hds : List ExceptHandler} {l : List Cl} (hc : Names X x c)
      (hsu : ∀ (a : Addr) (oe : Obj) (cls : Value) (d : Option Addr) (pn : List (Addr × Obj)), Zc cls d oe → (∃ vs, oe.data = .fields vs) → PSs (X.suite a ((a, oe) :: pn)) (b₀ :: suite) (ts a cls d)) (r : HdsM X hds l) :
      HdsM X (.ExceptHandler (some (.Name x np)) none (b₀ :: suite) pos' :: hds) ((c, none, ts) :: l)
  | named {x n : Str} {c : Value} {i : Nat} {ts : Addr → Value → Option Addr → TS} {b₀ : Stmt} {suite : List Stmt} {np pos' : Pos} {hds : List ExceptHandler} {l : List Cl} (hN : X.N.Nodup) (hi : X.N[i]? = some n) (hln : X.env.kindOf n = some .local) (hc : Names X x c)
      (hsu : ∀ (a : Addr) (oe : Obj) (cls : Value) (d : Option Addr) (pn : List (Addr × Obj)), Zc cls d oe → (∃ vs, oe.data = .fields vs) → PSs (X.suite a ((a, oe) :: pn)) (b₀ :: suite) (ts a cls d)) (r : HdsM X hds l) :
      HdsM X (.ExceptHandler (some (.Name x np)) (some n) (b₀ :: suite) pos' :: hds) ((c, some i, ts) :: l)
section
variable {X : Cx} {body : List Stmt} {h₀ : ExceptHandler} {hds : List ExceptHandler} {l : List Cl} {pos : Pos} {tb : WX → TS} {Wout : WX}
theorem ps_try_mix (hs : X.stack = X.env :: X.outer) (hf : X.env.frame = some X.env.locals) (tk : Takes X Wout)
    (hb : ∀ (W : WX) (pn : List (Addr × Obj)) (xe : Value → Shared → Prop), Takes (X.tr pn xe) W → PassesOwn (model X.prog X.w) X.A X.env xe → PSs (X.tr pn xe) body (tb W))
    (hh : HdsM X (h₀ :: hds) l) : PS X (.Try body (h₀ :: hds) [] [] pos) (fun D σ H => tb (wMix X.K Wout D l) D σ H) := by
  refine ⟨fun pins s σ H D I h => ?_⟩
  have ok := I.ok
  have hfr : X.A.frames = some (X.env :: X.outer) := by rw [ok.frames, hs]
  refine wpAny_Try_except ?_
  refine wpAny_mono ((hb (wMix X.K Wout D l) (X.pn ++ pins) (fun e s₁ => wpAny (model X.prog X.w) X.A (noteFrame e X.env) (fun _ s₂ => wpAny (model X.prog X.w) X.A (setFlight e none) (fun _ s₃ =>
    wpAny (model X.prog X.w) X.A (handleBy e X.env (h₀ :: hds)) (SP X pins D) X.xe s₃) X.xe s₂) X.xe s₁) (fun u s' xx => ?_) PassesOwn.looking).run [] s σ H D (I.toTry _) h) (fun f s1 hsp => ?_) (fun e s1 he => he)
  · obtain ⟨a, B, sI, pins', σ', H', cls, d, rfl, J', nb, up, sky, na, os, ag, wi⟩ := xx
    have J : Inv X pins σ' H' sI := J'.ofTry ok
    have sky' : Sky B (X.env :: X.outer) a (Zc cls d) X.env.locals s'.heap := by rw [← hs]; exact sky
    show wpAny (model X.prog X.w) X.A (noteFrame (.ref a) X.env) _ _ _
    refine Sky.land Zc.steady hfr hf sky' fun h3 fl3 up3 => ?_
    have J3 : Inv X pins σ' H' { s' with heap := h3 } := J.landed nb fl3.1 (up.trans up3) os ag
    obtain ⟨oe3, vs3, he3, hz3, hd3⟩ := fl3.there
    have notFr : ∀ {h : Heap} {o : Obj} {vs : Array Value}, h.FunFrames B (X.env :: X.outer) → h.get? a = some o → o.data = .fields vs → a ∉ frs (X.env :: X.outer) := fun {h o vs} ff e dd hm => by
      obtain ⟨_, o', e', hnf⟩ := ff.mem hm
      rw [e] at e'; cases e'
      exact hnf _ dd
    have nfr := notFr fl3.2.2.1 he3 hd3
    have nL : a ≠ X.env.locals := fun z => nfr (List.mem_filterMap.mpr ⟨X.env, List.mem_cons_self, by rw [hf, z]⟩)
    have nF : a ∉ X.fs := fun hm => by
      obtain ⟨e, he, q⟩ := List.mem_filterMap.mp hm
      exact nfr (List.mem_filterMap.mpr ⟨e, List.mem_cons_of_mem _ he, q⟩)
    have S3 := J3.suite he3 hd3 na nL nF
    have LT : PySem.W.Looks (model X.prog X.w) h3 (typeOf (.ref a)) cls := fun A Q E s k q => wpAny_typeOf_ref (k _ _ he3) (by rw [hz3.1]; exact q)
    have test : ∀ {x : Str} {c : Value} {np : Pos} {Q : Value → Shared → Prop} {E : Value → Shared → Prop}, Names X x c → Q c { s' with heap := h3 } → wpAny (model X.prog X.w) (X.A.mark (some (.ref a))) (eval (.Name x np) X.env) Q E { s' with heap := h3 } := fun {x c np Q E} hc q => by
      obtain ⟨hg, hdbg, hm | ⟨hm, hv, hnn⟩⟩ := hc
      · exact ld_glob (X := X.suite a ((a, oe3) :: (X.pn ++ pins))) S3 hg hm q hdbg
      · exact ld_blt (X := X.suite a ((a, oe3) :: (X.pn ++ pins))) S3 hg hm hv q hnn hdbg
    have go : ∀ {hds' : List ExceptHandler} {l' : List Cl}, HdsM X hds' l' → wMix X.K Wout D l' cls d σ' H' →
        wpAny (model X.prog X.w) X.A (handleBy (.ref a) X.env hds') (SP X pins D) X.xe { s' with heap := h3 } := by
      intro hds' l' hk
      induction hk with
      | nil =>
        intro wi
        refine wpAny_handleBy_nil ?_
        obtain ⟨k1, k2, k3, oe, vs, T, oT, ts', he, hz, hd, h1, hr⟩ := id fl3
        unfold PySem.passOn
        refine wpAny_bind (wpAny_field he hd h1 ?_)
        rw [if_neg (show ¬ ((Value.ref T == Value.none) = true) from by simp)]
        have fin : wpAny (model X.prog X.w) X.A (setFlight (.ref a) X.env.frame) (fun _ s4 => wpAny (model X.prog X.w) X.A (throw (.ref a) : Sem Flow) (SP X pins D) X.xe s4) X.xe { s' with heap := h3 } := by
          rw [hf]
          refine HandSPX.setFlight_upZ fl3 fun h4 hh4 up4 => wpAny_throw (tk _ _ ?_)
          exact ⟨a, B, sI, pins, σ', H', cls, d, rfl, J, nb, (up.trans up3).trans up4, .inr (.inr (by rw [hs]; exact hh4)), na, os, ag, wi⟩
        first
          | exact wpAny_bind (wpAny_pure (wpAny_bind fin))
          | exact wpAny_bind fin
      | @plain x c ts b₀ suite np pos' hds2 l2 hc hsu r ih =>
        intro wi
        obtain ⟨b, hb1, hyes, hno⟩ := wi
        refine wpAny_handleBy_cons (codeAny_handlers_test ?_) (by intro q; cases q)
        refine test hc ((PySem.W.exm_one (M := model X.prog X.w) (J3.kIn) LT hb1).here ?_)
        cases b with
        | true =>
          refine codeAny_handlers_suite ?_
          refine HandSPX.lands_againZ fl3 fun h4 fl4 up4 => ?_
          have J4 : Inv X pins σ' H' { s' with heap := h4 } := J.landed nb fl4.1 ((up.trans up3).trans up4) os ag
          obtain ⟨oe4, vs4, he4, hz4, hd4⟩ := fl4.there
          have S4 := J4.suite he4 hd4 na nL nF
          refine wpAny_mono ((hsu a oe4 cls d (X.pn ++ pins) hz4 ⟨_, hd4⟩).run [] _ _ H' _ S4 (hyes rfl a na)) (fun f s6 hsp => ?_) (fun _ _ z => False.elim z)
          cases f with
          | next =>
            obtain ⟨σ6, H6, S6, q6⟩ := hsp
            exact ⟨_, _, S6.unsuite ok, q6⟩
          | brk =>
            obtain ⟨σ6, H6, S6, q6⟩ := hsp
            exact ⟨_, _, S6.unsuite ok, q6⟩
          | cont =>
            obtain ⟨σ6, H6, S6, q6⟩ := hsp
            exact ⟨_, _, S6.unsuite ok, q6⟩
          | ret u =>
            obtain ⟨v6, σ6, H6, S6, r6, q6⟩ := hsp
            exact ⟨_, _, _, S6.unsuite ok, r6, q6⟩
        | false =>
          show wpAny _ X.A (handleBy (.ref a) X.env hds2) _ _ _
          exact ih (hno rfl)
      | @named x n c i ts b₀ suite np pos' hds2 l2 hN hi hln hc hsu r ih =>
        intro wi
        obtain ⟨b, hb1, hyes, hno⟩ := wi
        refine wpAny_handleBy_cons (codeAny_handlers_test ?_) (by intro q; cases q)
        refine test hc ((PySem.W.exm_one (M := model X.prog X.w) (J3.kIn) LT hb1).here ?_)
        cases b with
        | true =>
          refine codeAny_handlers_suite_as ?_
          refine HandSPX.lands_againZ fl3 fun h4 fl4 up4 => ?_
          have J4 : Inv X pins σ' H' { s' with heap := h4 } := J.landed nb fl4.1 ((up.trans up3).trans up4) os ag
          obtain ⟨oe4, vs4, he4, hz4, hd4⟩ := fl4.there
          have S4 := J4.suite he4 hd4 na nL nF
          refine store_ok (X := X.suite a ((a, oe4) :: (X.pn ++ pins))) (v := .ref a) S4 hN hi (.inl hln) rfl (fun s5 S5 => ?_) (.inr hln)
          refine wpAny_mono ((hsu a oe4 cls d (X.pn ++ pins) hz4 ⟨_, hd4⟩).run [] s5 _ H' _ S5 (hyes rfl a na)) (fun f s6 hsp => ?_) (fun _ _ z => False.elim z)
          have end_ : ∀ {σ6 : St} {H6 : Hp} {Q : Shared → Prop}, Inv (X.suite a ((a, oe4) :: (X.pn ++ pins))) [] σ6 H6 s6 → (∀ s7, Inv X pins (σ6.set i none) H6 s7 → Q s7) →
              wpAny (model X.prog X.w) X.A (do bindName X.env n .none; unbindBehindTheSuite X.env n pos') (fun _ s7 => Q s7) X.xe s6 := fun {σ6 H6 Q} S6 hq => gone_ok (S6.unsuite ok) hN hi hln hq
          cases f with
          | next =>
            obtain ⟨σ6, H6, S6, q6⟩ := hsp
            exact end_ S6 fun s7 J7 => ⟨_, _, J7, q6⟩
          | brk =>
            obtain ⟨σ6, H6, S6, q6⟩ := hsp
            exact end_ S6 fun s7 J7 => ⟨_, _, J7, q6⟩
          | cont =>
            obtain ⟨σ6, H6, S6, q6⟩ := hsp
            exact end_ S6 fun s7 J7 => ⟨_, _, J7, q6⟩
          | ret u =>
            obtain ⟨v6, σ6, H6, S6, r6, q6⟩ := hsp
            exact end_ S6 fun s7 J7 => ⟨_, _, _, J7, r6, q6⟩
        | false =>
          show wpAny _ X.A (handleBy (.ref a) X.env hds2) _ _ _
          exact ih (hno rfl)
    exact go hh wi
  · cases f with
    | next =>
      obtain ⟨σ', H', J', q⟩ := hsp
      exact wpAny_execs_nil ⟨σ', H', J'.ofTry ok, q⟩
    | brk =>
      obtain ⟨σ', H', J', q⟩ := hsp
      exact ⟨σ', H', J'.ofTry ok, q⟩
    | cont =>
      obtain ⟨σ', H', J', q⟩ := hsp
      exact ⟨σ', H', J'.ofTry ok, q⟩
    | ret u =>
      obtain ⟨v, σ', H', J', r, q⟩ := hsp
      exact ⟨v, σ', H', J'.ofTry ok, r, q⟩
end
/-! ### a method, a class called in a try's body: what is let out is told with the slots -/
def tMethE (C : Addr) (m : Str) (sp : Sp) (dvs : List V) (E : St → XK) (ta : TE) (t : TA) : TE := fun σ H Q => ta σ H fun x H1 => ∃ a dx fs, x = .ref a ∧ H1 a = some (.ins C dx fs) ∧ fs.lookup m = none ∧ t σ H1 fun vs H2 => sp (.ref a :: (vs ++ dvs)) H2 Q (E σ)
section
variable {X : Cx} {CX : CXT} {k : Nat} {f C : Addr} {fd : FuncData} {ps : List Str} {sp : Sp} {dvs : List V} {ds : List Value} {E : St → XK} {x m : Str} {p pos apos : Pos} {e o : Expr} {es : List Expr} {ta : TE} {t : TA}
theorem pe_methE {pl : Sem Bool} (he : PE X o ta) (c : Cls X.K C) (hm : Meth X.K C m f) (F : FnOk X.prog X.w X.K X.mg X.base CX k f fd ps sp) (hr : Room k X.A) (hb : Binds X.K fd ps ds) (hd : Vals dvs ds) (hx : ∀ σ, PassesAt CX X σ (E σ)) (ha : PA X (e :: es) t)
    (hst : starEach (e :: es) X.env = (false, eval e X.env) :: starEach es X.env := by rfl) (hpl : (backTo pos (starEach es X.env)).any (·.1) = false := by rfl)
    (ht : eval (.Call (.Attribute o m apos) (e :: es) [] pos) X.env = (do
      let ov ← eval o X.env
      standAt apos.atName
      let (f, first) ← holding [ov] (getMethod ov m pl)
      callWith pos f first (backTo pos (starEach (e :: es) X.env)) (backToKw pos (keywordEach [] X.env))) := by rfl) :
    PE X (.Call (.Attribute o m apos) (e :: es) [] pos) (tMethE C m sp dvs E ta t) := by
  refine ⟨fun pins s σ H Q I h => ?_⟩
  refine PySem.W.methodCall_KW (pl := pl) (thn (he.run pins s σ H _ I h) fun u s1 ⟨x, H1, I1, rx, a, dx, fs, ex, ea, l, q⟩ => ?_) ht
  subst ex
  obtain rfl : u = Value.ref a := rx
  refine getmeth_ok I1 ea c hm l ?_
  refine PySem.W.callWith_K (first := [.ref a]) (h₀ := X.base) I.ok.mod.kin hm.kp (thn (ha.run pos pins s1 σ H1 _ I1 q) fun us s2 ⟨vs, H2, I2, r, q2⟩ => ⟨I2.kIn, ?_⟩) hst hpl
  exact run_fnSD (us := .ref a :: us) (vs := .ref a :: vs) F hr hb hd (hx σ) I2 (.cons rfl r) q2
/-- C(k = v, ..) -/
def tMakeE (C : Addr) (n m : Nat) (sp : Sp) (gV : List V → List V → List V) (E : St → XK) (t tk : TA) : TE := fun σ H Q => t σ H fun vs H1 => tk σ H1 fun zs H2 => vs.length = n ∧ zs.length = m ∧ ∀ x dx, H2 x = none → H2 dx = none → dx ≠ x →
  sp (gV (.ref x :: vs) zs) (upd (upd H2 dx (.own x)) x (.ins C dx [])) (fun v H3 => v = .non ∧ Q (.ref x) H3) (E σ)
variable {n : Nat} {ks : List Str} {kws : List Keyword} {tk : TA} {g : List Value → List Value → List Value} {gV : List V → List V → List V}
theorem pe_makeE0 (M : Mk X.K C f) (F : FnOk X.prog X.w X.K X.mg X.base CX k f fd ps sp) (hr : Room (k + 1) X.A) (hg : Gl X x) (hm : X.mg x = some (.ref C)) (hb : KBn X.K fd ps 1 ks g gV) (hx : ∀ σ, PassesAt CX X σ (E σ)) (hkw : PK X kws tk)
    (hall : (backToKw pos (keywordEach kws X.env)).all (·.1.isSome) = true := by rfl) (hks : (backToKw pos (keywordEach kws X.env)).filterMap (·.1) = ks := by rfl) (hdb : (x == ("__debug__" : Str)) = false := by decide)
    (hpl : ((backTo pos (starEach [] X.env)).any (·.1) || (backToKw pos (keywordEach kws X.env)).any (·.1.isNone)) = false := by rfl) :
    PE X (.Call (.Name x p) [] kws pos) (tMakeE C 0 ks.length sp gV E tNil tk) := by
  refine ⟨fun pins s σ H Q I h => ?_⟩
  refine wpAny_Call_Name_kw (ld_glob I hg hm ?_ hdb)
  refine PySem.W.callWith_KW0 (h₀ := X.base) I.ok.mod.kin M.kp hall ?_ hpl
  refine thn (hkw.run pos pins s σ H _ I h) fun ws s2 ⟨zs, H2, I2, rz, l1, l2, q2⟩ => ⟨I2.kIn, ?_⟩
  rw [hks]
  have hq := q2 (s2.heap.objs.size + 1) s2.heap.objs.size (I2.hok.fresh (Nat.le_succ _)) (I2.hok.fresh (Nat.le_refl _)) (Nat.ne_of_lt (Nat.lt_succ_self _))
  have I3 := Inv.made (C := C) I2
  have r1 : Vals [V.ref (s2.heap.objs.size + 1)] [Value.ref (s2.heap.objs.size + 1)] := .cons rfl .nil
  have r2 := hb.rel r1 rz
  refine wpAny_call (make_map (f := f) I2.kIn M.makes M.init (beq_iff_eq.mp M.fn) (codeAny_mono (F.run _ X.stack _ _ ⟨[Value.ref (s2.heap.objs.size + 1)], ks.zip ws⟩ (g [Value.ref (s2.heap.objs.size + 1)] ws) _ _ (E σ) (hr.make C [] (ks.zip ws))
    (I3.env0.make C [] (ks.zip ws)) (hb.to _ [Value.ref (s2.heap.objs.size + 1)] ws I3.kIn rfl (rz.length.symm.trans l2)) r2 hq) fun r s' hq' => ?_))
  cases r with
  | error e => exact hx σ pins _ _ e s' I3 hq'
  | ok fl =>
    cases fl with
    | ret u =>
      obtain ⟨v, H', I4, rv, ev, q3⟩ := I3.after hq'
      subst ev
      exact ⟨rv, ⟨V.ref (s2.heap.objs.size + 1), H', I4, rfl, q3⟩⟩
    | next => exact False.elim hq'
    | brk => exact False.elim hq'
    | cont => exact False.elim hq'
end
end L2.MX

/-! ### promises that know that no repr is under way; repr of data within them -/
namespace L2.GD
open PySem PySem.Spec PyProof.Rows
abbrev C0 : CXT := fun _ _ _ _ _ _ => False
structure FnOkG (P : Program) (w : World) (K : PySem.W.Frag) (mg : Str → Option Value) (base : Heap) (k : Nat) (f : Addr) (fd : FuncData) (ps : List Str) (sp : Sp) : Prop where
  len : ∀ vs H Q E, sp vs H Q E → vs.length = ps.length
  run : ∀ (A : Around) (outer : List Env) (s : Shared) (H : Hp) (args : Args) (us : List Value) (vs : List V) (Q : VK) (E : XK), A.guards = some [] → Room k A → Env0 P w K mg base A outer s H → BindsTo s fd args (ps.zip us) → Vals vs us → sp vs H Q E →
    codeAny (model P w) A (.call (.ref f) args) (CR C0 outer P w H s Q E) s
section
variable {P : Program} {w : World} {K : PySem.W.Frag} {mg : Str → Option Value} {base : Heap}
/-- the body is walked in a room free of reprs -/
theorem okG {x qual : Str} {st : Stmt} {f : Addr} {fd : FuncData} {N ps : List Str} {k : Nat} {sp : Sp} (F : Fun K x qual st f fd) (S : FnScope N ps (defScope st)) (len : ∀ vs H Q E, sp vs H Q E → vs.length = ps.length)
    (hbody : ∀ (cdv : Value) (A : Around) (outer : List Env) (s : Shared) (H : Hp) (vs : List V) (Q : VK) (E : XK), A.guards = some [] → Room k (A.deeper (envOfC qual (defScope st) s.heap.objs.size f cdv)) → sp vs H Q E →
      ∃ t, PSs (cxOf C0 P w K mg base N qual (defScope st) f cdv A outer s H E).nox (defBody st) t ∧ t { nx := fun _ H' => Q .non H', rt := Q } (start N vs) H) : FnOkG P w K mg base (k + 1) f fd ps sp := by
  obtain ⟨oc, od, kV, doc, pm, an, cdv, ct, osl, rfl, lk, hcd⟩ := F.ex
  refine ⟨len, fun A outer s H args us vs Q E hg hr e0 hb r hsp => ?_⟩
  have hl := len _ _ _ _ hsp
  have KX : K.In s.heap := e0.mod.kin.keeps fun b o e => (e0.bs b o e).1
  have lim : s.heap.NoLimit := e0.mod.nolimit.keeps fun b o e => (e0.bs b o e).1
  have hkind : ∀ y ∈ ps.zip us, (defScope st).names.lookup y.1 = some .local ∨ ((defScope st).names.lookup y.1 = some .cell ∧ ((cellsFrom (s.heap.objs.size + 1) (defScope st).names []).lookup y.1).isSome = true) := fun y hy => by
    rcases S.par y.1 (List.of_mem_zip (a := y.1) (b := y.2) hy).1 with q | q
    · exact .inl q
    · exact .inr ⟨q, PySem.W.cellsFrom_some _ _ _ (.inl q)⟩
  refine codeAny_call_function hr.depth (KX _ _ lk) rfl S.co S.gen rfl (PySem.W.codeRec_of KX hcd) (hb _ _ _ _ ?_)
  refine wpAny_newFunctionEnv_cells S.kind hkind fun env he s1 x => ?_
  subst he
  refine ⟨lim.keeps x.toInCall.keep, codeAny_func ?_⟩
  obtain ⟨t, ht, hq⟩ := hbody cdv A outer s H vs Q E hg (hr.deeper _) hsp
  have I := inv_start (CX := C0) (P := P) (w := w) (mg := mg) (qual := qual) (f := f) (cd := cdv) (A := A) (E := E) S hr.hd e0 hl r x
  refine wpAny_mono (ht.nox.run [] s1 (start N vs) H _ I hq) (fun fl s' hs => ?_) fun e s' hs => hs
  have fin : ∀ {σ' : St} {H' : Hp} {v : V} {u : Value}, Inv (cxOf C0 P w K mg base N qual (defScope st) f cdv A outer s H E) [] σ' H' s' → RelV v u → Q v H' → CE outer P w H s Q u s' :=
    fun {σ' H' v u} J rv q => ⟨v, H', J.os, J.bare, J.base, J.hok, rv, q⟩
  cases fl with
  | ret u =>
    obtain ⟨v, σ', H', J, rv, q⟩ := hs
    exact fin J rv q
  | next =>
    obtain ⟨σ', H', J, q⟩ := hs
    exact fin (v := V.non) (u := Value.none) J rfl q
  | brk =>
    obtain ⟨_, _, _, q⟩ := hs
    exact False.elim q
  | cont =>
    obtain ⟨_, _, _, q⟩ := hs
    exact False.elim q
end
section
variable {X : Cx} {k : Nat} {f : Addr} {fd : FuncData} {ps : List Str} {sp : Sp} {dvs : List V} {ds : List Value} {x : Str} {p pos : Pos} {e : Expr} {es : List Expr} {t : TA}
/-- such a def is called where no repr is under way -/
theorem pe_callG (hgd : X.A.guards = some []) (F : FnOkG X.prog X.w X.K X.mg X.base k f fd ps sp) (hr : Room k X.A) (hg : Gl X x) (hm : X.mg x = some (.ref f)) (hk : PySem.W.keepIn X.K (.ref f) = true) (hb : Binds X.K fd ps ds) (hd : Vals dvs ds)
    (ha : PA X (e :: es) t) (hdb : (x == ("__debug__" : Str)) = false := by decide) (he : starEach (e :: es) X.env = (false, eval e X.env) :: starEach es X.env := by rfl) (hpl : (backTo pos (starEach es X.env)).any (·.1) = false := by rfl) :
    PE X (.Call (.Name x p) (e :: es) [] pos) (tCall sp dvs (fun _ _ _ => False) t) := by
  refine ⟨fun pins s σ H Q I h => ?_⟩
  refine wpAny_Call_Name_kw (ld_glob I hg hm ?_ hdb)
  refine PySem.W.callWith_K (h₀ := X.base) I.ok.mod.kin hk (thn (ha.run pos pins s σ H _ I h) fun us s2 ⟨vs, H2, I2, r, q⟩ => ⟨I2.kIn, ?_⟩) he hpl
  have r2 : Vals (vs ++ dvs) (us ++ ds) := r.append hd
  have hl : (us ++ ds).length = ps.length := by rw [← r2.length]; exact F.len _ _ _ _ q
  refine wpAny_call (codeAny_mono (F.run X.A X.stack s2 H2 ⟨us, []⟩ (us ++ ds) (vs ++ dvs) Q _ hgd hr I2.env0 (hb s2 us I2.kIn hl) r2 q) fun rs s' hq => ?_)
  cases rs with
  | error e => exact False.elim hq
  | ok fl =>
    cases fl with
    | ret u => exact I2.after hq
    | next => exact False.elim hq
    | brk => exact False.elim hq
    | cont => exact False.elim hq
/-- repr of data -/
def rReprD (K : PySem.W.Frag) : List V → Hp → VK → Prop := fun xs H Q => ∃ (x : V) (d : PyData), xs = [x] ∧ Dp K H x d ∧ d.showable = true ∧ d.hasDict = false ∧ d.depth ≤ 60 ∧ d.shown.length ≤ 1000000 ∧ Q (.str d.shown) H
theorem call_reprD (hgd : X.A.guards = some []) (hu : X.A.units + 64 < cLine) : CallR X (.builtin "repr") (rReprD X.K) := by
  intro pins s σ H xs us Q I r h
  obtain ⟨x, d, rfl, hd, hs, hn, hdp, hz, q⟩ := h
  obtain ⟨u, rfl, rx⟩ := vals1 r
  have hsz : d.shown.length ≤ sizeLine := Nat.le_trans hz (by rw [sizeLine_eq]; decide)
  cases hd with
  | non =>
    obtain rfl : u = Value.none := rx
    exact PySem.P.repr_of_none ⟨.str _, H, I.tok _, ⟨_, rfl⟩, q⟩
  | bl b =>
    obtain rfl : u = Value.bool b := rx
    exact PySem.P.repr_of_bool ⟨.str _, H, I.tok _, ⟨_, rfl⟩, q⟩
  | int i =>
    obtain ⟨t, rfl⟩ := rx
    exact PySem.P.repr_of_int (by simpa [PyData.showable] using hs) ⟨.str _, H, I.tok _, ⟨_, rfl⟩, q⟩
  | str z =>
    obtain ⟨t, rfl⟩ := rx
    exact PySem.P.repr_of_str (hsz := hsz) ⟨.str _, H, I.tok _, ⟨_, rfl⟩, q⟩
  | lst h1 h2 =>
    rename_i a ys es
    obtain rfl : u = Value.ref a := rx
    obtain ⟨as, rd⟩ := Dp.reads I _ _ _ (Dp.lst h1 h2) (show RelV (V.ref a) (Value.ref a) from rfl)
    refine repr_of_reads' rd hs (fun e => by rw [hn] at e; cases e) hgd (by omega) (fun _ _ e => e) (fun h' u' tk hk => ?_) hsz
    exact ⟨.str _, H, I.kept (t' := tk) hk, ⟨_, rfl⟩, q⟩
  | tup h1 h2 =>
    rename_i a ys es
    obtain rfl : u = Value.ref a := rx
    obtain ⟨as, rd⟩ := Dp.reads I _ _ _ (Dp.tup h1 h2) (show RelV (V.ref a) (Value.ref a) from rfl)
    refine repr_of_reads' rd hs (fun e => by rw [hn] at e; cases e) hgd (by omega) (fun _ _ e => e) (fun h' u' tk hk => ?_) hsz
    exact ⟨.str _, H, I.kept (t' := tk) hk, ⟨_, rfl⟩, q⟩
end
/-- the law's promise, at the heap behind the top: where it is called no repr is under way -/
theorem law_callG {P : Program} {w : World} {K : PySem.W.Frag} {mg mb : Str → Option Value} {k : Nat} {fa a : Addr} {fd : FuncData} {x : Str} {sp : Sp} {s₁ : Shared} {vs : List Value} {ns : List Int}
    (KX : K.In s₁.heap) (hns : s₁.heap.Ns mainGlobals mg) (hb : s₁.heap.Ns builtinsNs mb) (hbb : ∀ x : Str, x ≠ "__name__" → mb x = bootBuiltins x) (hlim : s₁.heap.NoLimit) (hg : s₁.gens = #[])
    (ha : s₁.heap.get? a = some { cls := .type "list", data := .seq vs.toArray }) (hi : IntsAre vs ns) (hl : ns.length ≤ sizeLine) (hr : Room k callerA)
    (F : ∀ base : Heap, K.In base → base.Ns mainGlobals mg → FnOkG P w K mg base k fa fd [x] sp) (hbind : ∀ (s : Shared) (u : Value), BindsTo s fd ⟨[u], []⟩ [(x, u)])
    (hsp : ∀ H : Hp, Only H → SqL K H a (ns.map V.int) → sp [.ref a] H (fun v _ => v = .bl true) fun _ _ _ => False) :
    codeAny (model P w) callerA (.call (.ref fa) ⟨[.ref a], []⟩) (fun r s' => r = .ok (.ret (.bool true)) ∧ OldK s₁.heap s'.heap ∧ s'.os = s₁.os ∧ AllBare s'.gens) s₁ := by
  have rv := vals_ints hi
  have core : ∀ H : Hp, Only H → SqL K H a (ns.map V.int) → HOk P w H s₁.heap → (∀ b, H b ≠ none → b = a) → (H a ≠ none → K.lookup a = none) →
      codeAny (model P w) callerA (.call (.ref fa) ⟨[.ref a], []⟩) (fun r s' => r = .ok (.ret (.bool true)) ∧ OldK s₁.heap s'.heap ∧ s'.os = s₁.os ∧ AllBare s'.gens) s₁ := by
    intro H hO hS hok hA hK
    -- no dict is tracked, nothing of the module's is
    have free : ∀ {b : Addr} {o : Obj}, s₁.heap.get? b = some o → ((∃ es ep, o.data = .dict es ep) ∨ K.lookup b = some o) → H b = none := fun {b o} e z => by
      cases q : H b with
      | none => rfl
      | some u =>
        have e' : b = a := hA b (by rw [q]; simp)
        subst e'
        rcases z with ⟨es, ep, d⟩ | z
        · rw [ha] at e; cases e; cases (show Data.seq vs.toArray _ = Data.dict es ep from d)
        · rw [hK (by rw [q]; simp)] at z; cases z
    have ns_ : ∀ {b : Addr} {m : Str → Option Value}, s₁.heap.Ns b m → (hidT s₁.heap H).Ns b m := fun {b m} ⟨o, es, ep, e, d, r⟩ => ⟨o, es, ep, hidT_get e (free e (.inl ⟨es, ep, d⟩)), d, r⟩
    have hKb : K.In (hidT s₁.heap H) := fun b o e => hidT_get (KX b o e) (free (KX b o e) (.inr e))
    obtain ⟨mc, l1, l2⟩ := hlim
    have hM : Mod K mg (hidT s₁.heap H) := ⟨hKb, ns_ hns, ⟨mb, ns_ hb, hbb⟩, mc, ns_ l1, l2⟩
    have e0 : Env0 P w K mg (hidT s₁.heap H) callerA [] s₁ H := ⟨rfl, hM, fun b o e => of_hidT e, Nat.le_of_eq (hidT_size _ _), trivial, fun b hb => absurd (show b ∈ ([] : List Addr) from hb) (by simp), hok, .of_eq hg⟩
    refine codeAny_mono ((F _ hKb (ns_ hns)).run callerA [] s₁ H ⟨[.ref a], []⟩ [.ref a] [.ref a] _ _ rfl hr e0 (hbind s₁ (.ref a)) (.cons rfl .nil) (hsp H hO hS)) fun r s' h => ?_
    cases r with
    | error e => exact False.elim h
    | ok fl =>
      cases fl with
      | next => exact False.elim h
      | brk => exact False.elim h
      | cont => exact False.elim h
      | ret u =>
        obtain ⟨v, H', os, bare, un, hok', r', q⟩ := h
        have q' : v = .bl true := q
        subst q'
        obtain rfl : u = Value.bool true := r'
        refine ⟨rfl, OldK.of_keep fun b o e => ?_, os, bare⟩
        rcases hO b with z | ⟨ob, xs, z⟩
        · exact un.keep b o e z (by intro z; exact absurd (show b ∈ ([] : List Addr) from z) (by simp)) (by simp)
        · obtain ⟨e1, _⟩ := hok b _ z
          obtain ⟨e2, _⟩ := hok' b _ (un.frzs b ob _ z)
          rw [e] at e1; cases e1
          exact e2
  cases hk : K.lookup a with
  | some o =>
    have e := KX a o hk
    rw [ha] at e
    cases e
    refine core (fun _ => none) (fun _ => .inl rfl) (.inr ⟨_, vs.toArray, _, hk, rfl, rfl, rfl, by rw [List.size_toArray, hi.length]; exact hl, by simpa using rv⟩) (fun b u z => by cases (show (none : Option HO) = some u from z)) (fun b z => absurd rfl z) fun z => absurd rfl z
  | none =>
    refine core (fun b => if b = a then some (.frz { cls := .type "list", data := .seq vs.toArray } (.lst (ns.map V.int))) else none) (fun b => ?_) (.inl (.inr ⟨{ cls := .type "list", data := .seq vs.toArray }, if_pos rfl⟩)) (fun b u z => ?_) (fun b z => ?_) fun _ => hk
    · by_cases hb : b = a
      · exact .inr ⟨_, _, if_pos hb⟩
      · exact .inl (if_neg hb)
    · by_cases hb : b = a
      · cases (if_pos hb).symm.trans z
        subst hb
        exact ⟨ha, by rw [List.length_map]; exact hl, vs, _, rv, ha⟩
      · cases (if_neg hb).symm.trans z
    · by_cases hb : b = a
      · exact hb
      · exact absurd (if_neg hb) z
theorem walk_ofG {l : PySem.W.OpenLaw} {n k : Nat} {q : Program} {loose : List Str} {XP : (Str → Option Value) → Heap → Prop} {YP : World → Heap → Prop} {d : DefRec} {K : Params → PySem.W.Frag} {sp : World → Sp} {x : Str}
    (hn : l.most = some n) (hn2 : n ≤ sizeLine) (hdf : d.params.defaults = []) (hr : Room k callerA)
    (hY : ∀ (w : World) (h : Heap), YP w h → (K w.params).In h)
    (F : ∀ (w : World) (mg : Str → Option Value) (fa : Addr) (h : Heap), (K w.params).In h → h.Ns mainGlobals mg → mg d.name = some (.ref fa) →
      ∃ fd : FuncData, (∀ (s : Shared) (u : Value), BindsTo s fd ⟨[u], []⟩ [(x, u)]) ∧ ∀ base : Heap, (K w.params).In base → base.Ns mainGlobals mg → FnOkG l.prog w (K w.params) mg base k fa fd [x] (sp w))
    (hsp : ∀ (w : World) (H : Hp) (a : Addr) (ns : List Int), ns.length ≤ n → Only H → SqL (K w.params) H a (ns.map V.int) → sp w [.ref a] H (fun v _ => v = .bl true) fun _ _ _ => False) :
    PySem.W.WalkO q loose XP YP l.row.toRowW d [] (fun f vs => PySem.call f vs) := by
  refine Att.attach_call hn hdf fun w s₀ s₁ mg mb fa o pm cd doc a vs ns G Y ho hd hcd hmg hobj hints hlen hg => ?_
  have KX := hY w _ Y
  obtain ⟨fd, hb, hF⟩ := F w mg fa _ KX G.T.g hmg
  exact law_callG KX G.T.g G.T.b G.T.builtins G.T.nolimit hg hobj hints (Nat.le_trans hlen hn2) hr hF hb (fun H hO hS => hsp w H a ns hlen hO hS)
end L2.GD

namespace LawK08
open PySem L2
def top (i : Nat) : Stmt := PySem.Challenge.pw_deltaboughs_k08_whole_stores_apart.main.body.getD i (.Pass ⟨0, 0, 0, 0⟩)
abbrev s_NoSize_init : Stmt := inClass (top 3) 0
abbrev s_NoRoom_init : Stmt := inClass (top 4) 0
abbrev s_NoSlot_init : Stmt := inClass (top 5) 0
abbrev s_Full_init : Stmt := inClass (top 6) 0
abbrev s_is_whole : Stmt := top 12
abbrev s_is_key : Stmt := top 13
abbrev s_is_number : Stmt := top 14
abbrev s_are_rows : Stmt := top 15
abbrev s_are_bounds : Stmt := top 16
abbrev s_is_leaf : Stmt := top 17
abbrev s_is_bough : Stmt := top 18
abbrev s_is_record : Stmt := top 20
abbrev s_look_at_most : Stmt := top 23
abbrev s_least_free : Stmt := top 24
abbrev s_Store_init : Stmt := inClass (top 25) 0
abbrev s_Store_look_at_room : Stmt := inClass (top 25) 1
abbrev s_Store_look_at_slot : Stmt := inClass (top 25) 2
abbrev s_Store_look_at_free : Stmt := inClass (top 25) 3
abbrev s_Store_put_in : Stmt := inClass (top 25) 4
abbrev s_Store_let_go : Stmt := inClass (top 25) 6
abbrev s_Store_new_slot : Stmt := inClass (top 25) 7
abbrev s_Store_drop : Stmt := inClass (top 25) 9
abbrev s_Store_swap : Stmt := inClass (top 25) 10
abbrev s_Store_rooms : Stmt := inClass (top 25) 11
abbrev s_Store_heads : Stmt := inClass (top 25) 12
abbrev s_Store_twin : Stmt := inClass (top 25) 14
abbrev s_Store___len__ : Stmt := inClass (top 25) 15
abbrev s_pool : Stmt := top 27
abbrev s_take : Stmt := top 28
abbrev s_key : Stmt := top 29
abbrev s_number : Stmt := top 30
abbrev s_value : Stmt := top 31
abbrev s_drawn_base : Stmt := top 32
abbrev s_drawn_record : Stmt := top 33
abbrev s_look : Stmt := top 34
abbrev s_deed : Stmt := top 35
abbrev s_is_full : Stmt := top 36
abbrev s_law : Stmt := top 37
abbrev n_NoSize_init : List Str := ["self", "word"]
abbrev n_NoRoom_init : List Str := ["self", "room"]
abbrev n_NoSlot_init : List Str := ["self", "slot"]
abbrev n_Full_init : List Str := ["self", "many"]
abbrev n_is_whole : List Str := ["thing"]
abbrev n_is_key : List Str := ["thing"]
abbrev n_is_number : List Str := ["thing"]
abbrev n_are_rows : List Str := ["thing", "low", "high", "keys", "row", "one", "other"]
abbrev n_are_bounds : List Str := ["low", "high", "right"]
abbrev n_is_leaf : List Str := ["thing", "key", "value"]
abbrev n_is_bough : List Str := ["thing", "key", "slot"]
abbrev n_is_record : List Str := ["thing", "word", "parts", "is_fit", "part"]
abbrev n_look_at_most : List Str := ["most"]
abbrev n_least_free : List Str := ["taken", "found"]
abbrev n_Store_init : List Str := ["self", "most"]
abbrev n_Store_look_at_room : List Str := ["self", "room"]
abbrev n_Store_look_at_slot : List Str := ["self", "slot"]
abbrev n_Store_look_at_free : List Str := ["self", "many"]
abbrev n_Store_put_in : List Str := ["self", "record", "room"]
abbrev n_Store_let_go : List Str := ["self", "room"]
abbrev n_Store_new_slot : List Str := ["self", "head", "slot"]
abbrev n_Store_drop : List Str := ["self", "slot"]
abbrev n_Store_swap : List Str := ["self", "slot", "old", "new"]
abbrev n_Store_rooms : List Str := ["self", "room"]
abbrev n_Store_heads : List Str := ["self", "slot"]
abbrev n_Store_twin : List Str := ["self", "other"]
abbrev n_Store___len__ : List Str := ["self"]
abbrev n_pool : List Str := ["_law_script", "_law_k", "_law_cell", "_law_seed"]
abbrev n_take : List Str := ["_law_pool_here", "_law_many", "_law_found"]
abbrev n_key : List Str := ["_law_pool_here"]
abbrev n_number : List Str := ["_law_pool_here"]
abbrev n_value : List Str := ["_law_pool_here"]
abbrev n_drawn_base : List Str := ["_law_pool_here", "_law_word", "_law_first", "_law_keys", "_law_k", "_law_end", "_law_beside", "_law_rows", "_law_key_here"]
abbrev n_drawn_record : List Str := ["_law_pool_here", "_law_words", "_law_word"]
abbrev n_look : List Str := ["_law_store"]
abbrev n_deed : List Str := ["_law_pool_here", "_law_store", "_law_own", "_law_way", "_law_rooms", "_law_heads", "_law_record", "_law_room", "_law_spot"]
abbrev n_is_full : List Str := ["_law_store", "_law_other", "_law_found", "_law_turn", "e"]
abbrev n_law : List Str := ["_law_script", "_law_stores", "_law_owns", "_law_k", "_law_pool_here", "_law_at", "_law_told", "_law_seen", "_law_store", "_law_own"]
theorem sc_NoSize_init : FnScope n_NoSize_init ["self", "word"] (defScope s_NoSize_init) := ⟨rfl, rfl, rfl, by decide +kernel, rfl, by decide +kernel, by decide +kernel⟩
theorem sc_NoRoom_init : FnScope n_NoRoom_init ["self", "room"] (defScope s_NoRoom_init) := ⟨rfl, rfl, rfl, by decide +kernel, rfl, by decide +kernel, by decide +kernel⟩
theorem sc_NoSlot_init : FnScope n_NoSlot_init ["self", "slot"] (defScope s_NoSlot_init) := ⟨rfl, rfl, rfl, by decide +kernel, rfl, by decide +kernel, by decide +kernel⟩
theorem sc_Full_init : FnScope n_Full_init ["self", "many"] (defScope s_Full_init) := ⟨rfl, rfl, rfl, by decide +kernel, rfl, by decide +kernel, by decide +kernel⟩
theorem sc_is_whole : FnScope n_is_whole ["thing"] (defScope s_is_whole) := ⟨rfl, rfl, rfl, by decide +kernel, rfl, by decide +kernel, by decide +kernel⟩
theorem sc_is_key : FnScope n_is_key ["thing"] (defScope s_is_key) := ⟨rfl, rfl, rfl, by decide +kernel, rfl, by decide +kernel, by decide +kernel⟩
theorem sc_is_number : FnScope n_is_number ["thing"] (defScope s_is_number) := ⟨rfl, rfl, rfl, by decide +kernel, rfl, by decide +kernel, by decide +kernel⟩
theorem sc_are_rows : FnScope n_are_rows ["thing", "low", "high"] (defScope s_are_rows) := ⟨rfl, rfl, rfl, by decide +kernel, rfl, by decide +kernel, by decide +kernel⟩
theorem sc_are_bounds : FnScope n_are_bounds ["low", "high", "right"] (defScope s_are_bounds) := ⟨rfl, rfl, rfl, by decide +kernel, rfl, by decide +kernel, by decide +kernel⟩
theorem sc_is_leaf : FnScope n_is_leaf ["thing"] (defScope s_is_leaf) := ⟨rfl, rfl, rfl, by decide +kernel, rfl, by decide +kernel, by decide +kernel⟩
theorem sc_is_bough : FnScope n_is_bough ["thing"] (defScope s_is_bough) := ⟨rfl, rfl, rfl, by decide +kernel, rfl, by decide +kernel, by decide +kernel⟩
theorem sc_is_record : FnScope n_is_record ["thing"] (defScope s_is_record) := ⟨rfl, rfl, rfl, by decide +kernel, rfl, by decide +kernel, by decide +kernel⟩
theorem sc_look_at_most : FnScope n_look_at_most ["most"] (defScope s_look_at_most) := ⟨rfl, rfl, rfl, by decide +kernel, rfl, by decide +kernel, by decide +kernel⟩
theorem sc_least_free : FnScope n_least_free ["taken"] (defScope s_least_free) := ⟨rfl, rfl, rfl, by decide +kernel, rfl, by decide +kernel, by decide +kernel⟩
theorem sc_Store_init : FnScope n_Store_init ["self", "most"] (defScope s_Store_init) := ⟨rfl, rfl, rfl, by decide +kernel, rfl, by decide +kernel, by decide +kernel⟩
theorem sc_Store_look_at_room : FnScope n_Store_look_at_room ["self", "room"] (defScope s_Store_look_at_room) := ⟨rfl, rfl, rfl, by decide +kernel, rfl, by decide +kernel, by decide +kernel⟩
theorem sc_Store_look_at_slot : FnScope n_Store_look_at_slot ["self", "slot"] (defScope s_Store_look_at_slot) := ⟨rfl, rfl, rfl, by decide +kernel, rfl, by decide +kernel, by decide +kernel⟩
theorem sc_Store_look_at_free : FnScope n_Store_look_at_free ["self", "many"] (defScope s_Store_look_at_free) := ⟨rfl, rfl, rfl, by decide +kernel, rfl, by decide +kernel, by decide +kernel⟩
theorem sc_Store_put_in : FnScope n_Store_put_in ["self", "record"] (defScope s_Store_put_in) := ⟨rfl, rfl, rfl, by decide +kernel, rfl, by decide +kernel, by decide +kernel⟩
theorem sc_Store_let_go : FnScope n_Store_let_go ["self", "room"] (defScope s_Store_let_go) := ⟨rfl, rfl, rfl, by decide +kernel, rfl, by decide +kernel, by decide +kernel⟩
theorem sc_Store_new_slot : FnScope n_Store_new_slot ["self", "head"] (defScope s_Store_new_slot) := ⟨rfl, rfl, rfl, by decide +kernel, rfl, by decide +kernel, by decide +kernel⟩
theorem sc_Store_drop : FnScope n_Store_drop ["self", "slot"] (defScope s_Store_drop) := ⟨rfl, rfl, rfl, by decide +kernel, rfl, by decide +kernel, by decide +kernel⟩
theorem sc_Store_swap : FnScope n_Store_swap ["self", "slot", "old", "new"] (defScope s_Store_swap) := ⟨rfl, rfl, rfl, by decide +kernel, rfl, by decide +kernel, by decide +kernel⟩
theorem sc_Store_rooms : FnScope n_Store_rooms ["self"] (defScope s_Store_rooms) := ⟨rfl, rfl, rfl, by decide +kernel, rfl, by decide +kernel, by decide +kernel⟩
theorem sc_Store_heads : FnScope n_Store_heads ["self"] (defScope s_Store_heads) := ⟨rfl, rfl, rfl, by decide +kernel, rfl, by decide +kernel, by decide +kernel⟩
theorem sc_Store_twin : FnScope n_Store_twin ["self"] (defScope s_Store_twin) := ⟨rfl, rfl, rfl, by decide +kernel, rfl, by decide +kernel, by decide +kernel⟩
theorem sc_Store___len__ : FnScope n_Store___len__ ["self"] (defScope s_Store___len__) := ⟨rfl, rfl, rfl, by decide +kernel, rfl, by decide +kernel, by decide +kernel⟩
theorem sc_pool : FnScope n_pool ["_law_script", "_law_k"] (defScope s_pool) := ⟨rfl, rfl, rfl, by decide +kernel, rfl, by decide +kernel, by decide +kernel⟩
theorem sc_take : FnScope n_take ["_law_pool_here", "_law_many"] (defScope s_take) := ⟨rfl, rfl, rfl, by decide +kernel, rfl, by decide +kernel, by decide +kernel⟩
theorem sc_key : FnScope n_key ["_law_pool_here"] (defScope s_key) := ⟨rfl, rfl, rfl, by decide +kernel, rfl, by decide +kernel, by decide +kernel⟩
theorem sc_number : FnScope n_number ["_law_pool_here"] (defScope s_number) := ⟨rfl, rfl, rfl, by decide +kernel, rfl, by decide +kernel, by decide +kernel⟩
theorem sc_value : FnScope n_value ["_law_pool_here"] (defScope s_value) := ⟨rfl, rfl, rfl, by decide +kernel, rfl, by decide +kernel, by decide +kernel⟩
theorem sc_drawn_base : FnScope n_drawn_base ["_law_pool_here", "_law_word"] (defScope s_drawn_base) := ⟨rfl, rfl, rfl, by decide +kernel, rfl, by decide +kernel, by decide +kernel⟩
theorem sc_drawn_record : FnScope n_drawn_record ["_law_pool_here"] (defScope s_drawn_record) := ⟨rfl, rfl, rfl, by decide +kernel, rfl, by decide +kernel, by decide +kernel⟩
theorem sc_look : FnScope n_look ["_law_store"] (defScope s_look) := ⟨rfl, rfl, rfl, by decide +kernel, rfl, by decide +kernel, by decide +kernel⟩
theorem sc_deed : FnScope n_deed ["_law_pool_here", "_law_store", "_law_own"] (defScope s_deed) := ⟨rfl, rfl, rfl, by decide +kernel, rfl, by decide +kernel, by decide +kernel⟩
theorem sc_is_full : FnScope n_is_full ["_law_store"] (defScope s_is_full) := ⟨rfl, rfl, rfl, by decide +kernel, rfl, by decide +kernel, by decide +kernel⟩
theorem sc_law : FnScope n_law ["_law_script"] (defScope s_law) := ⟨rfl, rfl, rfl, by decide +kernel, rfl, by decide +kernel, by decide +kernel⟩
/-- an error of the class at S is what «except S» names -/
theorem exm_self {K : PySem.W.Frag} {S : Addr} (h1 : PySem.W.subIn K (.ref S) (.type "BaseException") = some true) (h2 : PySem.W.isClsIn K S = true) (h3 : PySem.W.typeIn K (.ref S) = some (.type "type")) (h4 : PySem.W.subIn K (.ref S) (.ref S) = some true) :
    PySem.W.exmOne K (.ref S) (.ref S) = some true := by
  have e1 : (PySem.W.subIn K (.ref S) (.type "BaseException") == some true) = true := by rw [h1] <;> rfl
  have e2 : ((PySem.W.clsIn K S).isSome && PySem.W.typeIn K (.ref S) == some (.type "type")) = true := by
    have h2' : (PySem.W.clsIn K S).isSome = true := h2
    rw [h2', h3] <;> rfl
  show (if (PySem.W.subIn K (.ref S) (.type "BaseException") == some true) = true then (if ((PySem.W.clsIn K S).isSome && PySem.W.typeIn K (.ref S) == some (.type "type")) = true then PySem.W.subIn K (.ref S) (.ref S) else none) else none) = some true
  rw [if_pos e1, if_pos e2]
  exact h4
theorem exm_pair {K : PySem.W.Frag} {S C : Addr} {b : Bool} (h1 : PySem.W.subIn K (.ref S) (.type "BaseException") = some true) (h2 : PySem.W.isClsIn K S = true) (h3 : PySem.W.typeIn K (.ref S) = some (.type "type")) (h4 : PySem.W.subIn K (.ref C) (.ref S) = some b) :
    PySem.W.exmOne K (.ref C) (.ref S) = some b := by
  have e1 : (PySem.W.subIn K (.ref S) (.type "BaseException") == some true) = true := by rw [h1] <;> rfl
  have e2 : ((PySem.W.clsIn K S).isSome && PySem.W.typeIn K (.ref S) == some (.type "type")) = true := by
    have h2' : (PySem.W.clsIn K S).isSome = true := h2
    rw [h2', h3] <;> rfl
  show (if (PySem.W.subIn K (.ref S) (.type "BaseException") == some true) = true then (if ((PySem.W.clsIn K S).isSome && PySem.W.typeIn K (.ref S) == some (.type "type")) = true then PySem.W.subIn K (.ref C) (.ref S) else none) else none) = some b
  rw [if_pos e1, if_pos e2]
  exact h4

/-! ### a cut: what stands between a statement and the rest, said once -/
structure Cut (t u : TS) (D : Ends) (σ : St) (H : Hp) : Prop where
  ex : ∃ Mid : St → Hp → Prop, t { D with nx := Mid } σ H ∧ ∀ σ' H', Mid σ' H' → u D σ' H'
theorem cutAt {X : Cx} {st : Stmt} {rest : List Stmt} {t u : TS} (h1 : PS X st t) (h2 : PSs X rest u) : PSs X (st :: rest) (Cut t u) := by
  constructor
  intro pins s σ H D I h
  obtain ⟨Mid, a, b⟩ := h.ex
  apply wpAny_execs_cons
  refine thn (h1.run pins s σ H { D with nx := Mid } I a) ?_
  intro f s1 q
  match f, q with
  | .next, ⟨σ', H', I', m⟩ => exact h2.run pins s1 σ' H' D I' (b σ' H' m)
  | .ret _, q => exact q
  | .brk, q => exact q
  | .cont, q => exact q
theorem un_upd {H : Hp} {a b : Addr} {o : HO} (h : upd H a o b = none) : b ≠ a ∧ H b = none := by
  have n : b ≠ a := fun e => by rw [e, upd_same] at h; cases h
  exact ⟨n, by rwa [upd_ne n] at h⟩
theorem same_upd {H H' : Hp} {a : Addr} {o : HO} (s : Same H H') (h : H a = none) : Same H (upd H' a o) := fun b u e => by
  rw [upd_ne (ne_of_none e h)]; exact s b u e
theorem same_new {H : Hp} {a : Addr} {o : HO} (h : H a = none) : Same H (upd H a o) := same_upd (Same.refl H) h
/-- d[k] = v as one of several targets -/
theorem set_dict {X : Cx} (hu : X.A.units + 1 < cLine) : PSet X (fun o i v H Q => ∃ a H', o = .ref a ∧ DPut H a i v H' ∧ Q H') := by
  intro pins s σ H o i v ov iv u Q I ro ri rv h
  obtain ⟨a, H', rfl, g, q⟩ := h
  cases ro
  exact d_setItem hu I g ri rv fun s' J => ⟨H', J, q⟩
/-- behind i turns of a comprehension that touches nothing that stood: S i is what stands in the new list -/
structure CP (H1 : Hp) (D : Addr) (S : Nat → List V) (i : Nat) (H : Hp) : Prop where
  fr : H1 D = none
  sm : Same H1 H
  at_ : H D = some (.lst (S i))
section
variable {H1 H H' : Hp} {D : Addr} {S : Nat → List V} {i : Nat} {y : V}
theorem CP.start (hD : H1 D = none) (h0 : S 0 = []) : CP H1 D S 0 (upd H1 D (.lst [])) := ⟨hD, same_new hD, by rw [h0]; exact upd_same⟩
theorem CP.push (c : CP H1 D S i H) (s : Same H H') (e : S (i + 1) = S i ++ [y]) : CP H1 D S (i + 1) (upd H' D (.lst (S i ++ [y]))) :=
  ⟨c.fr, same_upd (c.sm.trans s) c.fr, by rw [e]; exact upd_same⟩
theorem CP.skip (c : CP H1 D S i H) (s : Same H H') (e : S (i + 1) = S i) : CP H1 D S (i + 1) H' := ⟨c.fr, c.sm.trans s, by rw [e]; exact s _ _ c.at_⟩
end
theorem Paired.at {α β : Type} {F : α → β → Prop} : ∀ {l : List α} {r : List β} {i : Nat} {x : α}, Paired F l r → l[i]? = some x → ∃ y, r[i]? = some y ∧ F x y
  | _, _, _, _, .nil, e => by simp at e
  | _, _, 0, _, .cons f _, e => by simp at e; subst e; exact ⟨_, rfl, f⟩
  | _, _, i + 1, x, .cons _ t, e => by
    obtain ⟨y, e1, e2⟩ := Paired.at (i := i) (x := x) t (by simpa using e)
    exact ⟨y, by simpa using e1, e2⟩
theorem take_snoc {α : Type} {l : List α} {i : Nat} {x : α} (h : l[i]? = some x) : l.take (i + 1) = l.take i ++ [x] := by
  rw [List.take_add_one, h]; rfl
/-! ### places where a reading is taken up by hand: "go" stops there -/
structure Wrap (p : Prop) : Prop where
  ex : p
theorem pi_w {X : Cx} {tg iter : Expr} {wi : TI} (h : PI X tg iter wi) : PI X tg iter (fun σ H R => wi σ H fun J H1 => Wrap (R J H1)) := by
  refine ⟨fun pins s σ H R I hw => ?_⟩
  refine thn (h.run pins s σ H _ I hw) fun v s1 a => thn a fun itv s2 b => ?_
  obtain ⟨it, fp, tn, J, H', e, I2, T, st, f, r⟩ := b
  exact ⟨it, fp, tn, J, H', e, I2, T, st, f, r.ex⟩
theorem pe_lk {X : Cx} {e : Expr} {t : TE} (h : PE X e t) : PE X e (fun σ H Q => Wrap (tLockE t σ H Q)) :=
  ⟨fun pins s σ H Q I hw => (pe_lock h).run pins s σ H Q I hw.ex⟩
theorem ps_lk {X : Cx} {st : Stmt} {t : TS} (h : PS X st t) : PS X st (fun D σ H => Wrap (tLock t D σ H)) :=
  ⟨fun pins s σ H D I hw => (ps_lock h).run pins s σ H D I hw.ex⟩
/-! ### within a comprehension's block: what is read is said over the def's own context -/
theorem viaE {X : Cx} {e : Expr} {t t' : TE} (h : PE X e t) (q : t = t') : PE X e t' := q ▸ h
theorem viaT {X : Cx} {es : List Expr} {t t' : TT} (h : PTs X es t) (q : t = t') : PTs X es t' := q ▸ h
theorem viaG {X : Cx} {e : Expr} {t t' : TG} (h : PG X e t) (q : t = t') : PG X e t' := q ▸ h
theorem then_ {c : Bool} {A B : Prop} (h : c = true) (a : A) : if c = true then A else B := by rw [if_pos h]; exact a
theorem else_ {c : Bool} {A B : Prop} (h : c = false) (b : B) : if c = true then A else B := by rw [h]; exact b
theorem by2 {c : Bool} {A B : Prop} (h1 : c = true → A) (h2 : c = false → B) : if c = true then A else B := by
  cases c with
  | true => exact h1 rfl
  | false => exact h2 rfl
theorem fm_yes {α β : Type} {ws : List α} {f : α → Bool} {g : α → β} {j : Nat} {x : α} (h : ws[j]? = some x) (c : f x = true) : ((ws.take (j + 1)).filter f).map g = ((ws.take j).filter f).map g ++ [g x] := by
  rw [take_snoc h, List.filter_append, List.map_append, List.filter_cons, if_pos c]; rfl
theorem fm_no {α β : Type} {ws : List α} {f : α → Bool} {g : α → β} {j : Nat} {x : α} (h : ws[j]? = some x) (c : f x = false) : ((ws.take (j + 1)).filter f).map g = ((ws.take j).filter f).map g := by
  rw [take_snoc h, List.filter_append, List.map_append, List.filter_cons, if_neg (by simp [c])]
  show _ ++ [] = _; rw [List.append_nil]
theorem Paired.snoc {α β : Type} {F : α → β → Prop} : ∀ {l : List α} {r : List β} {x : α} {y : β}, Paired F l r → F x y → Paired F (l ++ [x]) (r ++ [y])
  | _, _, _, _, .nil, f => .cons f .nil
  | _, _, _, _, .cons g t, f => .cons g (Paired.snoc t f)
theorem walk_upto {n : Nat} : Walk (Itr 0 n) n (fun _ => True) (YFn fun i => .int (i : Nat)) :=
  walk_range.mono (fun _ h => h) fun i H x H' _ _ h => by
    obtain ⟨h1, h2⟩ := h
    refine ⟨h1, h2.trans ?_⟩
    show V.int (0 + (i : Int)) = V.int i
    rw [Int.zero_add]
/-- an if whose test comes out as b, the heap as it was -/
theorem ifS {tc : TT} {t u : TS} {D : Ends} {σ : St} {H : Hp} (b : Bool) (h : ∀ Q : Bool → Hp → Prop, Q b H → tc σ H Q) (h1 : b = true → t D σ H) (h2 : b = false → u D σ H) : tIfS tc t u D σ H :=
  h _ (by
    cases b with
    | true => exact h1 rfl
    | false => exact h2 rfl)
theorem andQ {a b : Bool} {Q : Bool → Hp → Prop} {H : Hp} {u : Prop} (h : Q (a && b) H) (hu : a = true → Q b H → u) : if a = true then u else Q false H := by
  cases a with
  | true => exact hu rfl h
  | false => exact h
theorem dec_v {i j : Int} : decide (V.int i = V.int j) = decide (i = j) := by simp
theorem map_set_same {α β : Type} {l : List α} {j : Nat} {x y : α} {f : α → β} (h : l[j]? = some x) (e : f y = f x) : (l.set j y).map f = l.map f := by
  apply List.ext_getElem?
  intro n
  rw [List.getElem?_map, List.getElem?_map, List.getElem?_set]
  by_cases c : j = n
  · subst c
    obtain ⟨hl, _⟩ := List.getElem?_eq_some_iff.mp h
    rw [if_pos rfl, if_pos hl, h]
    exact congrArg some e
  · rw [if_neg c]
/-! ### a dict that a call has made, walked: it is locked once it stands, and never let go -/
def tSeal (t : TE) : TE := fun σ H Q => t σ H fun x H1 => ∃ d kvs, x = .ref d ∧ H1 d = some (.dK kvs) ∧ ∀ od, Q x (upd H1 d (.frz od (.dK kvs)))
theorem pe_seal {X : Cx} {e : Expr} {t : TE} (h : PE X e t) : PE X e (tSeal t) := by
  refine ⟨fun pins s σ H Q I hw => ?_⟩
  refine thn (h.run pins s σ H _ I hw) fun v s1 ⟨x, H1, I1, r, d, kvs, ex, hd, q⟩ => ?_
  obtain ⟨od, I2⟩ := I1.lock hd True.intro
  exact ⟨x, _, I2, r, q od⟩
theorem viaS {X : Cx} {l : List Stmt} {t t' : TS} (h : PSs X l t) (q : t = t') : PSs X l t' := q ▸ h

/-! ### tactics: "arith" and "fact" close a side condition, "hp" looks an object up, "ne" parts two addresses, "go" steps through a reading as far as equations and known facts lead -/
local macro_rules | `(tactic| walk_at "arith") => `(tactic| first
  | omega
  | (dsimp only; omega)
  | exact Nat.le_of_ble_eq_true rfl
  | decide
  | exact ⟨by omega, by omega⟩
  | exact Or.inl ⟨by omega, by omega⟩
  | exact Or.inr ⟨by omega, by omega⟩
  | exact ⟨by omega, by omega, by omega, by omega⟩)
local macro_rules | `(tactic| walk_at "ne") => `(tactic| first
  | (with_reducible assumption)
  | (apply Ne.symm; with_reducible assumption)
  | exact ne_of_none (by assumption) (by assumption)
  | exact Ne.symm (ne_of_none (by assumption) (by assumption)))
local macro_rules | `(tactic| walk_at "hp") => `(tactic| first
  | (with_reducible assumption)
  | (with_reducible exact upd_same)
  | ((with_reducible apply Eq.trans (upd_ne (by walk_at "ne"))); walk_at "hp"))
local macro_rules | `(tactic| walk_at "fact") => `(tactic| first
  | apply Eq.refl
  | (with_reducible assumption)
  | ((with_reducible apply SqL.of); walk_at "hp")
  | ((with_reducible apply SqT.of); walk_at "hp")
  | ((with_reducible apply Or.inl); (with_reducible apply SqL.of); walk_at "hp")
  | ((with_reducible apply Or.inr); (with_reducible apply SqT.of); walk_at "hp")
  | walk_at "hp"
  | ((with_reducible apply Rd.of); walk_at "hp")
  | ((with_reducible show tyV _ _ _ _); exact Or.inl ⟨rfl, _, SqL.of (by walk_at "hp")⟩)
  | ((with_reducible show tyV _ _ _ _); exact Or.inr (Or.inr (Or.inl ⟨rfl, Or.inl ⟨_, by walk_at "hp"⟩⟩)))
  | ((with_reducible show IsD _ _); exact Or.inl ⟨_, Or.inl (by walk_at "hp")⟩)
  | ((with_reducible show SqL _ _ _ _); assumption)
  | ((with_reducible show SqT _ _ _ _); assumption)
  | ((with_reducible show SqL _ _ _ _ ∨ _); apply Or.inl; assumption)
  | ((with_reducible show SqL _ _ _ _ ∨ _); apply Or.inr; assumption)
  | ((with_reducible show ∃ xs, SqL _ _ _ xs); apply Exists.intro; first | (apply SqL.of; walk_at "hp") | assumption)
  | ((with_reducible show ∃ xs, SqT _ _ _ xs); apply Exists.intro; first | (apply SqT.of; walk_at "hp") | assumption)
  | walk_at "arith"
  | assumption)
local macro_rules | `(tactic| walk_at "go1") => `(tactic| first
  | apply Exists.intro
  | (apply And.intro; focus (walk_at "fact")))
local macro_rules | `(tactic| walk_at "go") => `(tactic| repeat (walk_at "go1"))
local macro_rules | `(tactic| walk_at "x_then") => `(tactic| ((with_reducible refine then_ ?_ ?_); focus (first | rfl | assumption | (simp; done))))
local macro_rules | `(tactic| walk_at "x_else") => `(tactic| ((with_reducible refine else_ ?_ ?_); focus (first | rfl | assumption | (simp; done))))

/-! ### data that == looks at, flat -/
theorem dp_ints {K : PySem.W.Frag} {H : Hp} : ∀ ns : List Int, DpAll K H (ns.map V.int) (ns.map PyData.int)
  | [] => .nil
  | n :: r => .cons (.int n) (dp_ints r)
theorem lay_ints : ∀ ns : List Int, PyData.canLayAll0 (ns.map PyData.int) = true ∧ PyData.depthAll (ns.map PyData.int) = 0
  | [] => ⟨rfl, rfl⟩
  | n :: r => by
    obtain ⟨a, b⟩ := lay_ints r
    rw [List.map_cons, PyData.canLayAll0, PyData.depthAll, a, b]
    exact ⟨rfl, rfl⟩
theorem shaped_ints (ns : List Int) : SeqAt.shaped (.list (ns.map PyData.int)) = true := by
  obtain ⟨a, b⟩ := lay_ints ns
  unfold SeqAt.shaped
  rw [PyData.canLay0, PyData.depth, a, b]
  rfl
theorem can_ints (ns : List Int) : (PyData.list (ns.map PyData.int)).canLay0 = true := by
  rw [PyData.canLay0, (lay_ints ns).1]
/-! ### dicts: an entry at its place -/
section
variable {κ : Type} [DecidableEq κ]
theorem valV_at : ∀ {kvs : List (κ × V)} {j : Nat} {kv : κ × V}, (kvs.map (·.1)).Nodup → kvs[j]? = some kv → valV kvs kv.1 = some kv.2
  | [], _, _, _, h => by simp at h
  | p :: r, 0, kv, _, h => by
    have e : p = kv := Option.some.inj h
    subst e; exact valV_pos rfl
  | p :: r, j + 1, kv, nd, h => by
    have nd' : p.1 ∉ r.map (·.1) ∧ (r.map (·.1)).Nodup := List.nodup_cons.mp nd
    have h' : r[j]? = some kv := by simpa using h
    have ne : ¬ p.1 = kv.1 := fun e => nd'.1 (by rw [e]; exact List.mem_map_of_mem (List.mem_of_getElem? h'))
    rw [valV_neg ne]; exact valV_at nd'.2 h'
theorem valV_of_not {kvs : List (κ × V)} {k : κ} (h : k ∉ kvs.map (·.1)) : valV kvs k = none := by
  cases e : valV kvs k with
  | none => rfl
  | some v => exact (h (valV_in e)).elim
theorem putK_at {kvs : List (κ × V)} {j : Nat} {kv : κ × V} (v : V) (nd : (kvs.map (·.1)).Nodup) (h : kvs[j]? = some kv) : putK kvs kv.1 v = kvs.set j (kv.1, v) := by
  unfold putK
  rw [if_pos (by rw [valV_any, valV_at nd h]; rfl)]
  apply List.ext_getElem?
  intro i
  rw [List.getElem?_map, List.getElem?_set]
  by_cases e : j = i
  · subst e
    have hl : j < kvs.length := (List.getElem?_eq_some_iff.mp h).1
    rw [if_pos rfl, if_pos hl, h]; simp
  · rw [if_neg e]
    cases hi : kvs[i]? with
    | none => rfl
    | some x =>
      have ne : ¬ x.1 = kv.1 := fun q => e (nd_ix (l := kvs.map (·.1)) (x := kv.1) nd (by rw [List.getElem?_map, h]; rfl) (by rw [List.getElem?_map, hi]; exact congrArg some q))
      simp [ne]
end

/-! ### == and != of data of any nesting: lists, dicts, tuples -/
section
open PySem.SeqAt PySem.AutoSeq1 PySem.MeetsSeq PySem.MeetsSeq2 PySem.MeetsSeq3
theorem tup_ne_same {prog : Program} {w : World} (l b : Addr) (xs ys : Array Value)
    (hz : xs.size = ys.size) (n m : Nat) (dx dy : Option Addr) (sx sy : Array (Option Value)) :
    MeetsIn prog w (Builtin.«tuple.__ne__» ⟨[.ref l, .ref b], []⟩) (fun A R s =>
      s.heap.get? l = some ⟨.type "tuple", dx, .seq xs n, sx⟩ ∧
      s.heap.get? b = some ⟨.type "tuple", dy, .seq ys m, sy⟩ ∧
      (∀ q ∈ xs.toList.zip ys.toList, EqIn prog w A.in1 s q.1 q.2 true) ∧
      R (.ok (.ret (.bool false))) s) :=
  .of_wp fun A R s h => by
    obtain ⟨hp, g, d, tk, os⟩ := s
    obtain ⟨h1, h2, h3, h4⟩ := h
    have f := AutoSeq1.sub_tuple_tuple
    wp_walk using wpAny_loadPart' h1, wpAny_loadPart' h2, wpAny_forIn_list _ (fun rest b s' => b.1 = none ∧ s' = ⟨hp, g, d, tk, os⟩ ∧
      ∀ q ∈ rest, EqIn prog w A.in1 ⟨hp, g, d, tk, os⟩ q.1 q.2 true) _
    case turn =>
      rintro ⟨y, x⟩ rest b s' ⟨_, rfl, k⟩
      refine wpAny_bind (k (y, x) List.mem_cons_self _ _ ?_)
      wp_walk
      exact ⟨rfl, rfl, fun q m => k q (List.mem_cons_of_mem _ m)⟩
    case fin =>
      rintro ⟨b1, b2⟩ s' ⟨hb, rfl, _⟩
      simp only at hb
      subst hb
      wp_walk
      exact ⟨_, rfl, by simpa [Builtin.Tuple.tupleCompareSizes, hz] using h4⟩
    case h => exact ⟨rfl, rfl, h3⟩
theorem ne_tuples {prog : Program} {w : World} {A : Around} {s : Shared} {l b : Addr} {xs ys : Array Value} (h1 : s.heap.IsTuple l xs) (h2 : s.heap.IsTuple b ys) (hz : xs.size = ys.size) (hu : A.units < cLine)
    (he : ∀ q ∈ xs.toList.zip ys.toList, EqIn prog w A.in1 s q.1 q.2 true) (E Q : Value → Shared → Prop) (h : Q (.bool false) s) : wpAny (model prog w) A (richCompare .NotEq (.ref l) (.ref b)) Q E s := by
  obtain ⟨⟨c1, d1, e1, sl1⟩, o1, k1, n1, z1⟩ := id h1
  obtain ⟨⟨c2, d2, e2, sl2⟩, o2, k2, n2, z2⟩ := id h2
  simp only at k1 z1 k2 z2
  subst k1 z1 k2 z2
  have t1 : s.TypeIs (.ref l) "tuple" := ⟨_, o1, rfl⟩
  have t2 : s.TypeIs (.ref b) "tuple" := ⟨_, o2, rfl⟩
  refine wpAny_richCompare_same_room (op := .NotEq) t1 t2 F.slot_tuple_ne ?_ hu
  refine call_meetsIn F.slot_tuple_ne t1 F.entry_tuple_ne (F.args_tuple_ne_2 _ _) (tup_ne_same l b xs ys hz n1 n2 d1 d2 sl1 sl2) ⟨o1, o2, he, ?_⟩
  exact ⟨(fun x => nomatch x), h⟩
end
/-- two tuples of equal items -/
def EqT (K : PySem.W.Frag) (H : Hp) (E : V → V → Prop) (x y : V) : Prop := ∃ a b xs ys, x = .ref a ∧ y = .ref b ∧ SqT K H a xs ∧ SqT K H b ys ∧ Paired E xs ys
/-- equal, of nesting below n -/
def EqW (K : PySem.W.Frag) (H : Hp) : Nat → V → V → Prop
  | 0 => fun _ _ => False
  | n + 1 => fun x y => (x = y ∧ flatB x = true) ∨ (∃ a, x = .ref a ∧ y = .ref a) ∨ EqR K H (EqW K H n) x y ∨ EqT K H (EqW K H n) x y
section
variable {X : Cx} {pins : List (Addr × Obj)} {σ : St} {H : Hp} {s : Shared}
theorem zip_run {F : V → V → Prop} {G : Value → Value → Prop} (ih : ∀ x y v u, F x y → RelV x v → RelV y u → G v u) {xs ys : List V} (hp : Paired F xs ys) :
    ∀ {us ws : List Value}, Vals xs us → Vals ys ws → ∀ q ∈ us.zip ws, G q.1 q.2 := by
  induction hp with
  | nil =>
    intro us ws r1 _ q m
    cases r1
    simp at m
  | cons h _ k =>
    intro us ws r1 r2 q m
    cases r1 with
    | cons a1 b1 =>
      cases r2 with
      | cons a2 b2 =>
        rcases List.mem_cons.mp m with rfl | m
        · exact ih _ _ _ _ h a1 a2
        · exact k b1 b2 q m
theorem eqT_ne (I : Inv X pins σ H s) {A : Around} {F : V → V → Prop} (hu : A.units < cLine) (ih : ∀ x y v u, F x y → RelV x v → RelV y u → SeqAt.EqP X.prog X.w A.in1 s v u true) {x y : V} {v u : Value} (h : EqT X.K H F x y) (rx : RelV x v) (ry : RelV y u)
    (E Q : Value → Shared → Prop) (q : Q (.bool false) s) : wpAny (model X.prog X.w) A (richCompare .NotEq v u) Q E s := by
  obtain ⟨a, b, xs, ys, rfl, rfl, ha, hb, hp⟩ := h
  cases (show v = Value.ref a from rx)
  cases (show u = Value.ref b from ry)
  obtain ⟨us, r1, p1, _⟩ := I.tuple ha
  obtain ⟨ws, r2, p2, _⟩ := I.tuple hb
  refine ne_tuples p1 p2 ?_ hu ?_ E Q q
  · rw [List.size_toArray, List.size_toArray, ← r1.length, ← r2.length]
    exact hp.length
  · intro z m
    exact zip_run (G := fun v u => SeqAt.EqIn X.prog X.w A.in1 s v u true) (fun x y v u h r1 r2 => ih x y v u h r1 r2) hp r1 r2 z (by simpa using m)
theorem eqT_run (I : Inv X pins σ H s) {A : Around} {F : V → V → Prop} (hu : A.units < cLine) (ih : ∀ x y v u, F x y → RelV x v → RelV y u → SeqAt.EqP X.prog X.w A.in1 s v u true) {x y : V} {v u : Value} (h : EqT X.K H F x y) (rx : RelV x v) (ry : RelV y u)
    (E Q : Value → Shared → Prop) (q : Q (.bool true) s) : wpAny (model X.prog X.w) A (richCompare .Eq v u) Q E s := by
  obtain ⟨a, b, xs, ys, rfl, rfl, ha, hb, hp⟩ := h
  cases (show v = Value.ref a from rx)
  cases (show u = Value.ref b from ry)
  obtain ⟨us, r1, p1, _⟩ := I.tuple ha
  obtain ⟨ws, r2, p2, _⟩ := I.tuple hb
  have hz : us.toArray.size = ws.toArray.size := by
    rw [List.size_toArray, List.size_toArray, ← r1.length, ← r2.length]
    exact hp.length
  refine SeqAt.rcIn_tuples (e := fun _ => true) p1 p2 hu (fun j h1 h2 => items_run ih hp r1 r2 j (by simpa using h1) (by simpa using h2)) ?_
  rw [List.all_eq_true.mpr fun _ _ => rfl, hz]
  simpa using q
theorem eqW_run (I : Inv X pins σ H s) : ∀ (n : Nat) (A : Around), A.units + n < cLine → ∀ (x y : V) (v u : Value), EqW X.K H n x y → RelV x v → RelV y u → SeqAt.EqP X.prog X.w A s v u true
  | 0, _, _, _, _, _, _, h, _, _ => (show False from h).elim
  | n + 1, A, hu, x, y, v, u, h, rx, ry => by
    have ih := eqW_run I n A.in1 (by show A.units + 1 + n < cLine; omega)
    have two : ∀ {a b : Addr}, x = .ref a → y = .ref b → (∀ E Q : Value → Shared → Prop, Q (.bool true) s → wpAny (model X.prog X.w) A (richCompare .Eq v u) Q E s) → SeqAt.EqP X.prog X.w A s v u true := fun {a b} e1 e2 step => by
      subst e1; subst e2
      cases (show v = Value.ref a from rx)
      cases (show u = Value.ref b from ry)
      by_cases e : a = b
      · subst e; exact (SeqAt.EqAt.same _).eqP
      · exact SeqAt.eqP_refs e step
    rcases h with ⟨rfl, f⟩ | ⟨a, rfl, rfl⟩ | h | h
    · exact (eqAt_same rx ry f).eqP
    · cases (show v = Value.ref a from rx)
      cases (show u = Value.ref a from ry)
      exact (SeqAt.EqAt.same _).eqP
    · have step := eqR_run I (A := A) (by omega) ih h rx ry
      rcases h with ⟨a, b, _, _, e1, e2, _⟩ | ⟨a, b, _, _, e1, e2, _⟩
      · exact two e1 e2 step
      · exact two e1 e2 step
    · have step := eqT_run I (A := A) (by omega) ih h rx ry
      obtain ⟨a, b, _, _, e1, e2, _⟩ := h
      exact two e1 e2 step
end
section
variable {X : Cx}
/-- a != b, two tuples that are equal -/
def rNeW (K : PySem.W.Frag) : R2 := fun x y H Q => ∃ n, n ≤ 60 ∧ EqT K H (EqW K H n) x y ∧ Q (.bl false) H
theorem op_neW (hu : X.A.units + 64 < cLine) : OpR X (compareOp .NotEq) (rNeW X.K) := by
  intro pins s σ H x y v u Q I rx ry h
  obtain ⟨n, hn, h, q⟩ := h
  exact eqT_ne I (A := X.A) (by omega) (eqW_run I n X.A.in1 (by show X.A.units + 1 + n < cLine; omega)) h rx ry _ _ ⟨.bl false, H, I, rfl, q⟩
end
section
variable {X : Cx}
/-- a == b, two tuples that are equal -/
def rEqW (K : PySem.W.Frag) : R2 := fun x y H Q => ∃ n, n ≤ 60 ∧ EqT K H (EqW K H n) x y ∧ Q (.bl true) H
theorem op_eqW (hu : X.A.units + 64 < cLine) : OpR X (compareOp .Eq) (rEqW X.K) := by
  intro pins s σ H x y v u Q I rx ry h
  obtain ⟨n, hn, h, q⟩ := h
  exact eqT_run I (A := X.A) (by omega) (eqW_run I n X.A.in1 (by show X.A.units + 1 + n < cLine; omega)) h rx ry _ _ ⟨.bl true, H, I, rfl, q⟩
end

/-! ### dicts compared: the very same values; and a dict beside an empty one -/
section
def sameB : V → Bool
  | .ref _ => true
  | v => flatB v
theorem eqAt_sm {A : Around} {s : Shared} {v : V} {u u' : Value} (r : RelV v u) (r' : RelV v u') (f : sameB v = true) : SeqAt.EqAt A s u u' true := by
  cases v with
  | ref a =>
    cases (show u = Value.ref a from r)
    cases (show u' = Value.ref a from r')
    exact SeqAt.EqAt.same _
  | _ => exact eqAt_same r r' f
theorem hits_sm {A : Around} {s : Shared} {kvs : List (Key × V)} {vb : List (Key × Value)} (rb : KV kvs vb) {ks : List (Key × V)} {va : List (Key × Value)} (ra : KV ks va) :
    (∀ p ∈ ks, valV kvs p.1 = some p.2 ∧ sameB p.2 = true) → PySem.W.KeqHits A s vb va true := by
  unfold KV at ra
  induction ra with
  | nil => intro _; exact .nil
  | @cons p q ps qs h t ih =>
    intro hp
    obtain ⟨h1, h2⟩ := h
    obtain ⟨e, f⟩ := hp p List.mem_cons_self
    have rr : RelO (some p.2) (valueAt vb p.1) := by rw [← e]; exact rb.val p.1
    obtain ⟨y, hy, ry⟩ := rr.some_of
    obtain ⟨k, v⟩ := q
    have h1' : p.1 = k := h1
    rw [h1'] at hy
    show PySem.W.KeqHits A s vb ((k, v) :: qs) (true && true)
    exact .hit hy (eqAt_sm h2 ry f) (ih fun p' hm => hp p' (List.mem_cons_of_mem _ hm))
end
section
variable {X : Cx}
def rEqDS : R2 := fun x y H Q => ∃ a b ks ls, x = .ref a ∧ y = .ref b ∧ H a = some (.dK ks) ∧ H b = some (.dK ls) ∧ ks.length = ls.length ∧ (∀ p ∈ ks, valV ls p.1 = some p.2 ∧ sameB p.2 = true) ∧ Q (.bl true) H
def rNeDS : R2 := fun x y H Q => ∃ a b ks ls, x = .ref a ∧ y = .ref b ∧ H a = some (.dK ks) ∧ H b = some (.dK ls) ∧ ks.length = ls.length ∧ (∀ p ∈ ks, valV ls p.1 = some p.2 ∧ sameB p.2 = true) ∧ Q (.bl false) H
theorem op_eqDS (hu : X.A.units < cLine) : OpR X (compareOp .Eq) rEqDS := by
  intro pins s σ H x y v u Q I rx ry h
  obtain ⟨a, b, ks, ls, rfl, rfl, ea, eb, hlen, hp, q⟩ := h
  obtain rfl : v = Value.ref a := rx
  obtain rfl : u = Value.ref b := ry
  obtain ⟨_, ya, va, ra, da⟩ := (show ObjOk X.prog X.w H s.heap a (.dK ks) from I.hok a _ ea)
  obtain ⟨_, yb, vb, rb, db⟩ := (show ObjOk X.prog X.w H s.heap b (.dK ls) from I.hok b _ eb)
  have hl : va.length = vb.length := by rw [← ra.length, ← rb.length]; exact hlen
  exact PySem.W.keq_eq (knd := mixKind X.prog X.w) (r := true) ya yb da db hu (fun _ => hits_sm rb ra hp) (fin_bl I q (by simp [hl]))
theorem op_neDS (hu : X.A.units < cLine) : OpR X (compareOp .NotEq) rNeDS := by
  intro pins s σ H x y v u Q I rx ry h
  obtain ⟨a, b, ks, ls, rfl, rfl, ea, eb, hlen, hp, q⟩ := h
  obtain rfl : v = Value.ref a := rx
  obtain rfl : u = Value.ref b := ry
  obtain ⟨_, ya, va, ra, da⟩ := (show ObjOk X.prog X.w H s.heap a (.dK ks) from I.hok a _ ea)
  obtain ⟨_, yb, vb, rb, db⟩ := (show ObjOk X.prog X.w H s.heap b (.dK ls) from I.hok b _ eb)
  have hl : va.length = vb.length := by rw [← ra.length, ← rb.length]; exact hlen
  exact PySem.W.keq_ne (knd := mixKind X.prog X.w) (r := true) ya yb da db hu (fun _ => hits_sm rb ra hp) (fin_bl I q (by simp [hl]))
def rEqD0 : R2 := fun x y H Q => ∃ a b ks, x = .ref a ∧ y = .ref b ∧ H a = some (.dK ks) ∧ H b = some (.dK []) ∧ Q (.bl ks.isEmpty) H
def rNeD0 : R2 := fun x y H Q => ∃ a b ks, x = .ref a ∧ y = .ref b ∧ H a = some (.dK ks) ∧ H b = some (.dK []) ∧ Q (.bl (!ks.isEmpty)) H
theorem kv_empty {ks : List (Key × V)} {va vb : List (Key × Value)} (ra : KV ks va) (rb : KV ([] : List (Key × V)) vb) : (va.length == vb.length && true) = ks.isEmpty := by
  have h1 := ra.length
  have h2 := rb.length
  cases ks with
  | nil => rw [← h1, ← h2]; rfl
  | cons p r =>
    rw [← h1, ← h2]
    rfl
theorem op_eqD0 (hu : X.A.units < cLine) : OpR X (compareOp .Eq) rEqD0 := by
  intro pins s σ H x y v u Q I rx ry h
  obtain ⟨a, b, ks, rfl, rfl, ea, eb, q⟩ := h
  obtain rfl : v = Value.ref a := rx
  obtain rfl : u = Value.ref b := ry
  obtain ⟨_, ya, va, ra, da⟩ := (show ObjOk X.prog X.w H s.heap a (.dK ks) from I.hok a _ ea)
  obtain ⟨_, yb, vb, rb, db⟩ := (show ObjOk X.prog X.w H s.heap b (.dK []) from I.hok b _ eb)
  refine PySem.W.keq_eq (knd := mixKind X.prog X.w) (r := true) ya yb da db hu (fun e => ?_) (fin_bl I q (kv_empty ra rb).symm)
  have h2 := rb.length
  have : va = [] := List.length_eq_zero_iff.mp (by rw [e, ← h2]; rfl)
  subst this
  exact .nil
theorem op_neD0 (hu : X.A.units < cLine) : OpR X (compareOp .NotEq) rNeD0 := by
  intro pins s σ H x y v u Q I rx ry h
  obtain ⟨a, b, ks, rfl, rfl, ea, eb, q⟩ := h
  obtain rfl : v = Value.ref a := rx
  obtain rfl : u = Value.ref b := ry
  obtain ⟨_, ya, va, ra, da⟩ := (show ObjOk X.prog X.w H s.heap a (.dK ks) from I.hok a _ ea)
  obtain ⟨_, yb, vb, rb, db⟩ := (show ObjOk X.prog X.w H s.heap b (.dK []) from I.hok b _ eb)
  refine PySem.W.keq_ne (knd := mixKind X.prog X.w) (r := true) ya yb da db hu (fun e => ?_) (fin_bl I q (by rw [kv_empty ra rb]))
  have h2 := rb.length
  have : va = [] := List.length_eq_zero_iff.mp (by rw [e, ← h2]; rfl)
  subst this
  exact .nil
end

/-! ### calls by keyword alone -/
theorem kb_of {K : PySem.W.Frag} {x qual : Str} {st : Stmt} {f : Addr} {fd : FuncData} {ps ks : List Str} {n : Nat} (F : Fun K x qual st f fd) (g : {α : Type} → List α → List α → List α)
    (h0 : ∀ {vs zs : List V} {us ws : List Value}, Vals vs us → Vals zs ws → Vals (g vs zs) (g us ws))
    (h : ∀ (kV doc pm : Value) (an : Option Addr) (cdv ct : Value) (us ws : List Value), us.length = n → ws.length = ks.length → bindArgs (PySem.W.fnOf x qual (defArgs st) (defBody st) (defScope st) .none kV doc pm an cdv ct) ⟨us, ks.zip ws⟩ = pure (ps.zip (g us ws))) :
    KBn K fd ps n ks g g := by
  obtain ⟨oc, od, kV, doc, pm, an, cdv, ct, osl, rfl, lk, hcd⟩ := F.ex
  exact ⟨fun s us ws X l1 l2 => .of_eq (h kV doc pm an cdv ct us ws l1 l2), fun r1 r2 => h0 r1 r2⟩
theorem pe_callK0 {X : Cx} {CX : CXT} {k : Nat} {f : Addr} {fd : FuncData} {ps ks : List Str} {sp : Sp} {E : XK} {x : Str} {p pos : Pos} {kws : List Keyword} {tk : TA} {g : List Value → List Value → List Value} {gV : List V → List V → List V}
    (F : FnOk X.prog X.w X.K X.mg X.base CX k f fd ps sp) (hr : Room k X.A) (hg : Gl X x) (hm : X.mg x = some (.ref f)) (hk : PySem.W.keepIn X.K (.ref f) = true) (hb : KBn X.K fd ps 0 ks g gV) (hx : Passes CX X E) (hkw : PK X kws tk)
    (hall : (backToKw pos (keywordEach kws X.env)).all (·.1.isSome) = true := by rfl) (hks : (backToKw pos (keywordEach kws X.env)).filterMap (·.1) = ks := by rfl) (hd : (x == ("__debug__" : Str)) = false := by decide)
    (hpl : ((backTo pos (starEach [] X.env)).any (·.1) || (backToKw pos (keywordEach kws X.env)).any (·.1.isNone)) = false := by rfl) :
    PE X (.Call (.Name x p) [] kws pos) (tCallN 0 ks.length sp gV E tNil tk) := by
  refine ⟨fun pins s σ H Q I h => ?_⟩
  refine wpAny_Call_Name_kw (ld_glob I hg hm (PySem.W.callWith_KW0 (h₀ := X.base) I.ok.mod.kin hk hall ?_ hpl) hd)
  refine thn (hkw.run pos pins s σ H _ I h) fun ws s2 ⟨zs, H2, I2, rz, _, l2, q⟩ => ⟨I2.kIn, ?_⟩
  rw [hks]
  exact run_fnN (us := []) (vs := []) F hr hb hx I2 .nil rz rfl l2 q
/-- one keyword-only parameter, left out: its default -/
theorem bd_kw {K : PySem.W.Frag} {x qual : Str} {st : Stmt} {D : Addr} {doc pm cdv ct : Value} {an : Option Addr} {ps : List Str} {k : Str} {u : Value} {n : Nat} (hn : PySem.W.nsIn K D k = some (some u)) (hps : ps.length = n + 1)
    (h : ∀ us : List Value, us.length = n → KwChain D [(k, u)] (bindArgs (PySem.W.fnOf x qual (defArgs st) (defBody st) (defScope st) .none (.ref D) doc pm an cdv ct) ⟨us, []⟩) (ps.zip (us ++ [u]))) :
    Binds K (PySem.W.fnOf x qual (defArgs st) (defBody st) (defScope st) .none (.ref D) doc pm an cdv ct) ps [u] := fun s us X hl =>
  BindsTo.of_looks fun M => KwChain.looks X (fun q hq => by rw [List.mem_singleton.mp hq]; exact hn) (h us (by rw [List.length_append, hps] at hl; exact Nat.succ.inj hl))

/-! ### a method called by keywords alone -/
theorem paired_rev {α β : Type} {F : α → β → Prop} : ∀ {l : List α} {r : List β}, Paired F l r → Paired F l.reverse r.reverse
  | _, _, .nil => .nil
  | _ :: _, _ :: _, .cons a t => by
    rw [List.reverse_cons, List.reverse_cons]
    exact (paired_rev t).snoc a
def tMethK (C : Addr) (m : Str) (n : Nat) (sp : Sp) (gV : List V → List V → List V) (E : XK) (ta : TE) (tk : TA) : TE := fun σ H Q => ta σ H fun x H1 => ∃ a dx fs, x = .ref a ∧ H1 a = some (.ins C dx fs) ∧ fs.lookup m = none ∧ tk σ H1 fun zs H2 => zs.length = n ∧ sp (gV [.ref a] zs) H2 Q E
theorem pe_methK0 {X : Cx} {CX : CXT} {k : Nat} {f C : Addr} {fd : FuncData} {ps ks : List Str} {sp : Sp} {E : XK} {m : Str} {pos apos : Pos} {o : Expr} {ta : TE} {kws : List Keyword} {tk : TA} {g : List Value → List Value → List Value} {gV : List V → List V → List V} {pl : Sem Bool} (he : PE X o ta) (c : Cls X.K C) (hm : Meth X.K C m f)
    (F : FnOk X.prog X.w X.K X.mg X.base CX k f fd ps sp) (hr : Room k X.A) (hb : KBn X.K fd ps 1 ks g gV) (hx : Passes CX X E) (hkw : PK X kws tk)
    (hall : (backToKw pos (keywordEach kws X.env)).all (·.1.isSome) = true := by rfl) (hks : (backToKw pos (keywordEach kws X.env)).filterMap (·.1) = ks := by rfl)
    (hpl : ((backTo pos (starEach [] X.env)).any (·.1) || (backToKw pos (keywordEach kws X.env)).any (·.1.isNone)) = false := by rfl)
    (ht : eval (.Call (.Attribute o m apos) [] kws pos) X.env = (do
      let ov ← eval o X.env
      standAt apos.atName
      let (f, first) ← holding [ov] (getMethod ov m pl)
      callWith pos f first (backTo pos (starEach [] X.env)) (backToKw pos (keywordEach kws X.env))) := by rfl) :
    PE X (.Call (.Attribute o m apos) [] kws pos) (tMethK C m ks.length sp gV E ta tk) := by
  refine ⟨fun pins s σ H Q I h => ?_⟩
  refine PySem.W.methodCall_KW (pl := pl) (thn (he.run pins s σ H _ I h) fun u s1 ⟨x, H1, I1, rx, a, dx, fs, ex, ea, l, q⟩ => ?_) ht
  subst ex
  obtain rfl : u = Value.ref a := rx
  refine getmeth_ok I1 ea c hm l ?_
  refine PySem.W.callWith_KW0 (first := [.ref a]) (h₀ := X.base) I.ok.mod.kin hm.kp hall ?_ hpl
  refine thn (hkw.run pos pins s1 σ H1 _ I1 q) fun ws s2 ⟨zs, H2, I2, rz, l2, q2⟩ => ⟨I2.kIn, ?_⟩
  rw [hks]
  exact run_fnN (us := [.ref a]) (vs := [.ref a]) F hr hb hx I2 (.cons rfl .nil) rz rfl l2 q2

/-! ### t != (), t == (): a tuple of any items beside an empty one -/
section
variable {X : Cx}
def rNeT0 (K : PySem.W.Frag) : R2 := fun x y H Q => ∃ a b xs, x = .ref a ∧ y = .ref b ∧ SqT K H a xs ∧ SqT K H b [] ∧ Q (.bl (!decide (xs = []))) H
def rEqT0 (K : PySem.W.Frag) : R2 := fun x y H Q => ∃ a b xs, x = .ref a ∧ y = .ref b ∧ SqT K H a xs ∧ SqT K H b [] ∧ Q (.bl (decide (xs = []))) H
theorem size0 {xs : List V} {its : List Value} (r : Vals xs its) : (its.toArray.size == (#[] : Array Value).size) = decide (xs = []) := by
  cases r with
  | nil => rfl
  | cons _ _ => simp
theorem op_neT0 (hu : X.A.units + 64 < cLine) : OpR X (compareOp .NotEq) (rNeT0 X.K) := by
  intro pins s σ H x y v u Q I rx ry h
  obtain ⟨a, b, xs, rfl, rfl, ha, hb, q⟩ := h
  cases rx
  cases ry
  obtain ⟨its, r1, p1, _⟩ := I.tuple ha
  obtain ⟨its2, r2, p2, _⟩ := I.tuple hb
  cases r2
  refine SeqAt.RcNeAt.tuples (e := fun _ => true) p1 p2 (by omega) (fun j h1 h2 => absurd h2 (by simp)) X.prog X.w _ _ ?_
  refine ⟨.bl (!decide (xs = [])), H, I, ?_, q⟩
  show _ = _
  rw [← size0 r1, List.all_eq_true.mpr fun _ _ => rfl, Bool.true_and]
theorem op_eqT0 (hu : X.A.units + 64 < cLine) : OpR X (compareOp .Eq) (rEqT0 X.K) := by
  intro pins s σ H x y v u Q I rx ry h
  obtain ⟨a, b, xs, rfl, rfl, ha, hb, q⟩ := h
  cases rx
  cases ry
  obtain ⟨its, r1, p1, _⟩ := I.tuple ha
  obtain ⟨its2, r2, p2, _⟩ := I.tuple hb
  cases r2
  refine SeqAt.RcAt.tuples (e := fun _ => true) p1 p2 (by omega) (fun j h1 h2 => absurd h2 (by simp)) X.prog X.w _ _ ?_
  refine ⟨.bl (decide (xs = [])), H, I, ?_, q⟩
  show _ = _
  rw [← size0 r1, List.all_eq_true.mpr fun _ _ => rfl, Bool.true_and]
end

/-! ### a dict of the module: its keys texts, its values by name -/
def Keyed (P : Params) : List DictEntry → List (Str × Value) → Prop
  | [], [] => True
  | e :: r, p :: q => ((∃ t, e.key = .str p.1 t) ∧ e.hash = PyData.keyHash P p.1 ∧ e.val = p.2) ∧ Keyed P r q
  | _, _ => False
def lookS : List (Str × Value) → Str → Option Value
  | [], _ => none
  | p :: r, z => if p.1 = z then some p.2 else lookS r z
structure KdAt (K : PySem.W.Frag) (P : Params) (d : Addr) (kvs : List (Str × Value)) : Prop where
  ex : ∃ es n, K.lookup d = some ⟨.type "dict", none, .dict es n, #[]⟩ ∧ Keyed P es.toList kvs ∧ (d == sysModules) = false
theorem keyed_lit {P : Params} : ∀ {l : List DictEntry} {kvs : List (Str × Value)}, Keyed P l kvs → PySem.W.KeysLit P l
  | [], _, _ => trivial
  | e :: r, [], h => h.elim
  | e :: r, p :: q, ⟨⟨⟨t, h1⟩, h2, _⟩, h3⟩ => ⟨⟨p.1, t, h1, h2⟩, keyed_lit h3⟩
theorem keyed_find {P : Params} (z : Str) : ∀ {l : List DictEntry} {kvs : List (Str × Value)}, Keyed P l kvs → (l.find? (·.key.isStr z)).map (·.val) = lookS kvs z
  | [], [], _ => rfl
  | [], _ :: _, h => h.elim
  | e :: r, [], h => h.elim
  | e :: r, p :: q, ⟨⟨⟨t, h1⟩, h2, h3⟩, h4⟩ => by
    have ih := keyed_find z h4
    unfold lookS
    rw [List.find?_cons]
    by_cases c : p.1 = z
    · have e1 : e.key.isStr z = true := by rw [h1, c]; exact beq_self_eq_true z
      rw [if_pos c, e1, ← h3]; rfl
    · have e1 : e.key.isStr z = false := by rw [h1]; exact beq_eq_false_iff_ne.mpr c
      rw [if_neg c, e1]; exact ih
theorem keyed_any {P : Params} : ∀ {l : List DictEntry} {kvs : List (Str × Value)}, Keyed P l kvs → l.any (·.refKey) = false
  | [], [], _ => rfl
  | [], _ :: _, h => h.elim
  | e :: r, [], h => h.elim
  | e :: r, p :: q, ⟨⟨⟨t, h1⟩, h2, h3⟩, h4⟩ => by
    have ih := keyed_any h4
    have e1 : e.refKey = false := by unfold DictEntry.refKey; rw [h1]
    rw [List.any_cons, e1, ih]; rfl
theorem KdAt.kd {K : PySem.W.Frag} {w : World} {d : Addr} {kvs : List (Str × Value)} (h : KdAt K w.params d kvs) : ∃ es n, KDict K w d es n ∧ ∀ z, PySem.W.nsIn K d z = some (lookS kvs z) := by
  obtain ⟨es, n, h1, h2, h3⟩ := h.ex
  refine ⟨es, n, ⟨h1, keyed_lit h2, h3⟩, fun z => ?_⟩
  have e := keyed_find z h2
  unfold PySem.W.nsIn
  rw [h1]
  dsimp only
  cases q : es.toList.find? (·.key.isStr z) with
  | some en => rw [q] at e; exact congrArg some e
  | none =>
    rw [q] at e
    have e2 := keyed_any h2
    dsimp only
    rw [e2]
    exact congrArg some e
theorem kt_sq {K : PySem.W.Frag} {a : Addr} {xs : List V} {us : Array Value} {n : Nat} {dd : Option Addr} {sl : Array (Option Value)} (h : K.lookup a = some ⟨.type "tuple", dd, .seq us n, sl⟩) (hs : us.size ≤ sizeLine) (r : Vals xs us.toList) : ∀ H, SqT K H a xs :=
  fun _ => .inr ⟨_, us, n, h, rfl, rfl, hs, r⟩
/-! ### a local name's value is called: the promise goes with the address -/
def tCallH (P : Program) (w : World) (K : PySem.W.Frag) (mg : Str → Option Value) (base : Heap) (k i : Nat) (t : TA) : TE := fun σ H Q => ∃ f sp, σ[i]? = some (some (.ref f)) ∧ Held P w K mg base k f sp ∧ t σ H fun vs H1 => sp vs H1 Q (fun _ _ _ => False)
theorem pe_callH {X : Cx} {k : Nat} (i : Nat) {x : Str} {p pos : Pos} {e : Expr} {es : List Expr} {t : TA} (hr : Room k X.A) (ha : PA X (e :: es) t) (hN : X.N[i]? = some x := by rfl) (hv : Vis X.env.scope x := by first | exact Or.inl rfl | exact Or.inr (Or.inl rfl) | exact Or.inr (Or.inr rfl))
    (hdb : (x == ("__debug__" : Str)) = false := by decide) (hcd : (x == ("__classdict__" : Str)) = false := by decide)
    (he : starEach (e :: es) X.env = (false, eval e X.env) :: starEach es X.env := by rfl) (hpl : (backTo pos (starEach es X.env)).any (·.1) = false := by rfl) : PE X (.Call (.Name x p) (e :: es) [] pos) (tCallH X.prog X.w X.K X.mg X.base k i t) := by
  refine ⟨fun pins s σ H Q I h => ?_⟩
  obtain ⟨f, sp, hs, hS, ht⟩ := h
  refine (pe_callA (i := i) (S := fun a => if a = f then some sp else none) (fun f' sp' e => ?_) hr hN hv ha hdb hcd he hpl).run pins s σ H Q I ⟨f, sp, hs, if_pos rfl, ht⟩
  by_cases c : f' = f
  · rw [if_pos c] at e
    cases e
    rw [c]; exact hS
  · rw [if_neg c] at e; cases e

/-! ### the drawing: a pool is a list of two numbers; what is drawn is below what is asked -/
def PoolAt (H : Hp) (q : Addr) : Prop := ∃ c s : Int, H q = some (.lst [.int c, .int s]) ∧ 0 ≤ c ∧ 0 ≤ s ∧ s < 2147483648
def spPool (K : PySem.W.Frag) : Sp := fun vs H Q _ => ∃ (a : Addr) (ns : List Int) (k : Nat), vs = [.ref a, .int k] ∧ SqL K H a (ns.map V.int) ∧ ns.length ≤ 63 ∧ k ≤ 63 ∧
  ∀ (p : Addr) (c s : Int), H p = none → 0 ≤ c → 0 ≤ s → s < 2147483648 → Q (.ref p) (upd H p (.lst [.int c, .int s]))
def spTake : Sp := fun vs H Q _ => ∃ (q : Addr) (m : Int), vs = [.ref q, .int m] ∧ PoolAt H q ∧ 0 < m ∧ m < 1073741824 ∧
  ∀ (r c s : Int), 0 ≤ r → r < m → 0 ≤ c → 0 ≤ s → s < 2147483648 → Q (.int r) (upd H q (.lst [.int c, .int s]))

/-! ### records as data: the mirror in plain Lean -/
def tyD : PyData → String
  | .none => "NoneType"
  | .bool _ => "bool"
  | .int _ => "int"
  | .str _ => "str"
  | .list _ => "list"
  | .tuple _ => "tuple"
  | .dict _ => "dict"
def isD (T : String) (d : PyData) : Bool := tyD d == T || (T == "int" && tyD d == "bool")
def nonD : PyData → Bool
  | .none => true
  | _ => false
def wholeD : PyData → Bool
  | .int _ => true
  | _ => false
def keyD : PyData → Bool
  | .int i => decide (0 ≤ i) && decide (i ≤ 999999)
  | _ => false
def numD : PyData → Bool
  | .int i => decide (0 ≤ i)
  | _ => false
def okT (T : String) : Bool := T == "int" || T == "bool" || T == "tuple" || T == "str" || T == "dict" || T == "list"
theorem kit_isD {K : PySem.W.Frag} {T : String} (h : okT T = true) (d : PyData) : PySem.W.kitOne K (.type (tyD d)) (.type T) = some (isD T d) := by
  have c : T = "int" ∨ T = "bool" ∨ T = "tuple" ∨ T = "str" ∨ T = "dict" ∨ T = "list" := by
    unfold okT at h
    simpa [or_assoc] using h
  rcases c with rfl | rfl | rfl | rfl | rfl | rfl <;> cases d <;> exact kit_ty (by dsimp only [isD, tyD]; decide +kernel)
theorem tyX_of {K : PySem.W.Frag} {H : Hp} {v : V} {d : PyData} (h : Dp K H v d) : TyX K H v (.type (tyD d)) := by
  cases h with
  | non => exact .base .non
  | bl b => exact .base (.bl b)
  | int i => exact .base (.int i)
  | str x => exact .base (.str x)
  | lst hs _ =>
    rcases hs with (e | ⟨o, e⟩) | ⟨o, _, _, e, c, _⟩
    · exact .base (.lst e)
    · exact .base (.frz e)
    · exact .kList e c
  | tup hs _ =>
    rcases hs with (e | ⟨o, e⟩) | ⟨o, _, _, e, c, _⟩
    · exact .base (.tup e)
    · exact .fTuple e
    · exact .kTuple e c
/-- isinstance(x, T), x data, T a built-in class -/
def rIsD (K : PySem.W.Frag) : List V → Hp → VK → Prop := fun xs H Q => ∃ (x : V) (T : String) (d : PyData), xs = [x, .ty T] ∧ okT T = true ∧ Dp K H x d ∧ Q (.bl (isD T d)) H
theorem call_isD {X : Cx} : CallR X (.builtin "isinstance") (rIsD X.K) := by
  intro pins s σ H xs us Q I r h
  obtain ⟨x, T, d, rfl, hT, hd, q⟩ := h
  exact call_isi pins s σ H _ us Q I r ⟨x, .ty T, _, _, _, rfl, .ty T, tyX_of hd, kit_isD hT d, q⟩
theorem sqT_same {K : PySem.W.Frag} {H H' : Hp} {a : Addr} {xs : List V} (s : Same H H') (h : SqT K H a xs) : SqT K H' a xs := by
  rcases h with (e | ⟨o, e⟩) | e
  · exact .inl (.inl (s _ _ e))
  · exact .inl (.inr ⟨o, s _ _ e⟩)
  · exact .inr e

def spData (K : PySem.W.Frag) (f : PyData → Bool) : Sp := fun vs H Q _ => ∃ (x : V) (d : PyData), vs = [x] ∧ Dp K H x d ∧ Q (.bl (f d)) H
def ltD : PyData → PyData → Bool
  | .int i, .int j => decide (i < j)
  | _, _ => false
def boundsD (a b c : PyData) : Bool := keyD a && (if nonD b then nonD c else keyD b && (ltD a b && numD c))
def spBounds (K : PySem.W.Frag) : Sp := fun vs H Q _ => ∃ (x y z : V) (a b c : PyData), vs = [x, y, z] ∧ Dp K H x a ∧ Dp K H y b ∧ Dp K H z c ∧ Q (.bl (boundsD a b c)) H
theorem whole_eq {d : PyData} (h : isD "int" d = true) : wholeD d = !isD "bool" d := by cases d <;> simp_all [isD, tyD, wholeD]
theorem whole_no {d : PyData} (h : isD "int" d = false) : wholeD d = false := by cases d <;> simp_all [isD, tyD, wholeD]
theorem whole_int {d : PyData} (h : wholeD d = true) : ∃ i, d = .int i := by
  cases d with
  | int i => exact ⟨i, rfl⟩
  | _ => cases (show false = true from h)
theorem key_int {d : PyData} (h : keyD d = true) : ∃ i, d = .int i ∧ 0 ≤ i ∧ i ≤ 999999 := by
  cases d with
  | int i =>
    have h : (decide (0 ≤ i) && decide (i ≤ 999999)) = true := h
    simp at h
    exact ⟨i, rfl, h.1, h.2⟩
  | _ => cases (show false = true from h)
theorem num_int {d : PyData} (h : numD d = true) : ∃ i, d = .int i ∧ 0 ≤ i := by
  cases d with
  | int i => exact ⟨i, rfl, of_decide_eq_true h⟩
  | _ => cases (show false = true from h)
theorem key_no {d : PyData} (h : wholeD d = false) : keyD d = false := by
  cases d with
  | int i => cases (show true = false from h)
  | _ => rfl
theorem num_no {d : PyData} (h : wholeD d = false) : numD d = false := by
  cases d with
  | int i => cases (show true = false from h)
  | _ => rfl
theorem dp_int {K : PySem.W.Frag} {H : Hp} {x : V} {i : Int} (h : Dp K H x (.int i)) : x = .int i := by cases h; rfl
theorem dp_non {K : PySem.W.Frag} {H : Hp} {x : V} {d : PyData} (h : Dp K H x d) : decide (x = V.non) = nonD d := by cases h <;> simp [nonD]
theorem non_eq {d : PyData} (h : nonD d = true) : d = .none := by cases d <;> first | rfl | cases (show false = true from h)
/-! ### rows -/
def rowD : PyData → Bool
  | .tuple [a, _] => keyD a
  | _ => false
def keyOf : PyData → Int
  | .tuple (.int k :: _) => k
  | _ => 0
def rises : List Int → Bool
  | a :: b :: r => decide (a < b) && rises (b :: r)
  | _ => true
def pastB (hi : PyData) (z : Int) : Bool := match hi with
  | .int j => decide (j ≤ z)
  | _ => false
def outB (ks : List Int) (lo : Int) (hi : PyData) : Bool := match ks, ks.getLast? with
  | a :: _, some z => decide (a < lo) || pastB hi z
  | _, _ => false
def rowsD (d : PyData) (lo : Int) (hi : PyData) : Bool := match d with
  | .tuple rs => decide (rs.length ≤ 400) && (rs.all rowD && (!outB (rs.map keyOf) lo hi && rises (rs.map keyOf)))
  | _ => false
def spRows (K : PySem.W.Frag) : Sp := fun vs H Q _ => ∃ (x h : V) (lo : Int) (d hi : PyData), vs = [x, .int lo, h] ∧ Dp K H x d ∧ Dp K H h hi ∧ (hi = .none ∨ ∃ j, hi = .int j) ∧ ∀ H', Same H H' → Q (.bl (rowsD d lo hi)) H'
theorem row_tuple {d : PyData} (h : isD "tuple" d = true) : ∃ ds, d = .tuple ds := by
  cases d with
  | tuple ds => exact ⟨ds, rfl⟩
  | _ => simp [isD, tyD] at h
theorem rowD_no {d : PyData} (h : isD "tuple" d = false) : rowD d = false := by
  cases d with
  | tuple ds => simp [isD, tyD] at h
  | _ => rfl
theorem rowsD_no {d : PyData} {lo : Int} {hi : PyData} (h : isD "tuple" d = false) : rowsD d lo hi = false := by
  cases d with
  | tuple ds => simp [isD, tyD] at h
  | _ => rfl
theorem dp_tup {K : PySem.W.Frag} {H : Hp} {x : V} {ds : List PyData} (h : Dp K H x (.tuple ds)) : ∃ a xs, x = .ref a ∧ SqT K H a xs ∧ DpAll K H xs ds := by
  cases h with
  | tup h1 h2 => exact ⟨_, _, rfl, h1, h2⟩
theorem dpAll_len {K : PySem.W.Frag} {H : Hp} : ∀ {xs : List V} {ds : List PyData}, DpAll K H xs ds → xs.length = ds.length
  | _, _, .nil => rfl
  | _, _, .cons _ t => congrArg (· + 1) (dpAll_len t)
theorem dpAll_at {K : PySem.W.Frag} {H : Hp} : ∀ {xs : List V} {ds : List PyData} {i : Nat} {x : V}, DpAll K H xs ds → xs[i]? = some x → ∃ d, ds[i]? = some d ∧ Dp K H x d
  | _, _, 0, _, .cons a _, e => by simp at e; subst e; exact ⟨_, rfl, a⟩
  | _, _, i + 1, x, .cons _ t, e => by
    obtain ⟨d, e1, e2⟩ := dpAll_at (i := i) (x := x) t (by simpa using e)
    exact ⟨d, by simpa using e1, e2⟩
mutual
theorem dp_same {K : PySem.W.Frag} {H H' : Hp} (s : Same H H') : ∀ {v : V} {d : PyData}, Dp K H v d → Dp K H' v d
  | _, _, .non => .non
  | _, _, .bl b => .bl b
  | _, _, .int i => .int i
  | _, _, .str x => .str x
  | _, _, .lst h a => .lst (s.seq h) (dpAll_same s a)
  | _, _, .tup h a => .tup (by
      rcases h with (e | ⟨o, e⟩) | e
      · exact .inl (.inl (s _ _ e))
      · exact .inl (.inr ⟨o, s _ _ e⟩)
      · exact .inr e) (dpAll_same s a)
theorem dpAll_same {K : PySem.W.Frag} {H H' : Hp} (s : Same H H') : ∀ {vs : List V} {ds : List PyData}, DpAll K H vs ds → DpAll K H' vs ds
  | _, _, .nil => .nil
  | _, _, .cons a t => .cons (dp_same s a) (dpAll_same s t)
end
def adj (ks : List Int) : List Bool := (ks.zip (ks.drop 1)).map fun p => decide (p.1 < p.2)
theorem adj_all : ∀ ks : List Int, (adj ks).all id = rises ks
  | [] => rfl
  | [_] => rfl
  | a :: b :: r => by
    have ih := adj_all (b :: r)
    show (decide (a < b) && (adj (b :: r)).all id) = _
    exact congrArg (decide (a < b) && ·) ih
theorem rowD_two {ds : List PyData} (h : ¬ ds.length = 2) : rowD (.tuple ds) = false := by
  match ds with
  | [] => rfl
  | [_] => rfl
  | [_, _] => exact absurd rfl h
  | _ :: _ :: _ :: _ => rfl
theorem rowD_is {d : PyData} (h : rowD d = true) : ∃ k e, d = .tuple [.int k, e] ∧ keyOf d = k ∧ 0 ≤ k ∧ k ≤ 999999 := by
  match d with
  | .tuple [a, e] =>
    obtain ⟨k, rfl, h1, h2⟩ := key_int (d := a) h
    exact ⟨k, e, rfl, rfl, h1, h2⟩
  | .tuple [] => cases (show false = true from h)
  | .tuple [_] => cases (show false = true from h)
  | .tuple (_ :: _ :: _ :: _) => cases (show false = true from h)
  | .none => cases (show false = true from h)
  | .bool _ => cases (show false = true from h)
  | .int _ => cases (show false = true from h)
  | .str _ => cases (show false = true from h)
  | .list _ => cases (show false = true from h)
  | .dict _ => cases (show false = true from h)
theorem dpAll_two {K : PySem.W.Frag} {H : Hp} {ys : List V} {a b : PyData} (h : DpAll K H ys [a, b]) : ∃ y0 y1, ys = [y0, y1] ∧ Dp K H y0 a ∧ Dp K H y1 b := by
  cases h with
  | cons h1 t =>
    cases t with
    | cons h2 t => cases t; exact ⟨_, _, rfl, h1, h2⟩
theorem eqv_nil (ks : List Int) : PyData.eqv (.list (ks.map PyData.int)) (.list []) = decide (ks = []) := by
  cases ks <;> simp [PyData.eqv, PyData.eqvAll]
theorem outB_cons {a : Int} {r : List Int} {lo z : Int} {hi : PyData} (h : (a :: r).getLast? = some z) : outB (a :: r) lo hi = (decide (a < lo) || pastB hi z) := by
  unfold outB; rw [h]
theorem cut1 (ks : List Int) : cutV (ks.map V.int) (some 1) none = (ks.drop 1).map V.int := by
  cases ks with
  | nil => rfl
  | cons a r =>
    have h1 : HT.sIx ((a :: r).map V.int).length 0 (some 1) = 1 := by
      have h := HT.sIx_nat ((a :: r).map V.int).length 0 1
      refine h.trans ?_
      rw [List.length_map, List.length_cons]; omega
    unfold cutV
    rw [h1, HT.sIx_none]
    show (r.map V.int).take _ = r.map V.int
    apply List.take_of_length_le
    rw [List.length_map, List.length_map, List.length_cons]; omega
/-! ### bases -/
def valOf : PyData → PyData
  | .tuple [_, e] => e
  | _ => .none
def rowsOf : PyData → List PyData
  | .tuple rs => rs
  | _ => []
def loOf : PyData → Int
  | .int i => i
  | _ => 0
def leafD (ds : List PyData) : Bool := match ds with
  | [_, lo, hi, ri, rs] => boundsD lo hi ri && (rowsD rs (loOf lo) hi && (rowsOf rs).all fun r => wholeD (valOf r))
  | _ => false
def spLeaf (K : PySem.W.Frag) (f : List PyData → Bool) : Sp := fun vs H Q _ => ∃ (x : V) (ds : List PyData), vs = [x] ∧ Dp K H x (.tuple ds) ∧ ∀ H', Same H H' → Q (.bl (f ds)) H'
theorem dpAll_nth {K : PySem.W.Frag} {H : Hp} {xs : List V} {ds : List PyData} {i : Nat} {d : PyData} (h : DpAll K H xs ds) (e : ds[i]? = some d) : ∃ x, xs[i]? = some x ∧ Dp K H x d := by
  have hl := dpAll_len h
  have hi : i < xs.length := by rw [hl]; exact (List.getElem?_eq_some_iff.mp e).1
  obtain ⟨d', e1, e2⟩ := dpAll_at h (List.getElem?_eq_getElem hi)
  rw [e] at e1
  cases e1
  exact ⟨_, List.getElem?_eq_getElem hi, e2⟩
theorem leafD_five {ds : List PyData} (h : ¬ ds.length = 5) : leafD ds = false := by
  match ds with
  | [] => rfl
  | [_] => rfl
  | [_, _] => rfl
  | [_, _, _] => rfl
  | [_, _, _, _] => rfl
  | [_, _, _, _, _] => exact absurd rfl h
  | _ :: _ :: _ :: _ :: _ :: _ :: _ => rfl
theorem bounds_is {a b c : PyData} (h : boundsD a b c = true) : (∃ i, a = .int i ∧ 0 ≤ i ∧ i ≤ 999999) ∧ (b = .none ∨ ∃ j, b = .int j) := by
  unfold boundsD at h
  cases ca : keyD a with
  | false => rw [ca] at h; cases (show false = true from h)
  | true =>
    refine ⟨key_int ca, ?_⟩
    cases cb : nonD b with
    | true => exact .inl (non_eq cb)
    | false =>
      rw [ca, cb] at h
      have h : (keyD b && (ltD a b && numD c)) = true := h
      cases c2 : keyD b with
      | false => rw [c2] at h; cases (show false = true from h)
      | true => obtain ⟨j, e, _⟩ := key_int c2; exact .inr ⟨j, e⟩
theorem rows_is {d : PyData} {lo : Int} {hi : PyData} (h : rowsD d lo hi = true) : ∃ rs, d = .tuple rs ∧ rs.length ≤ 400 ∧ rs.all rowD = true := by
  match d with
  | .tuple rs =>
    have h : (decide (rs.length ≤ 400) && (rs.all rowD && (!outB (rs.map keyOf) lo hi && rises (rs.map keyOf)))) = true := h
    obtain ⟨h1, h2⟩ := Bool.and_eq_true_iff.mp h
    exact ⟨rs, rfl, of_decide_eq_true h1, (Bool.and_eq_true_iff.mp h2).1⟩
  | .none => cases (show false = true from h)
  | .bool _ => cases (show false = true from h)
  | .int _ => cases (show false = true from h)
  | .str _ => cases (show false = true from h)
  | .list _ => cases (show false = true from h)
  | .dict _ => cases (show false = true from h)
def levD : PyData → Bool
  | .int i => decide (1 ≤ i) && decide (i ≤ 40)
  | _ => false
def firstD (rs : List PyData) (lo : PyData) : Bool := match rs, lo with
  | r :: _, .int i => decide (keyOf r = i)
  | _, _ => false
def boughD (ds : List PyData) : Bool := match ds with
  | [_, lv, lo, hi, ri, rs] => levD lv && (boundsD lo hi ri && (rowsD rs (loOf lo) hi && (firstD (rowsOf rs) lo && (rowsOf rs).all fun r => numD (valOf r))))
  | _ => false
theorem boughD_six {ds : List PyData} (h : ¬ ds.length = 6) : boughD ds = false := by
  match ds with
  | [] => rfl
  | [_] => rfl
  | [_, _] => rfl
  | [_, _, _] => rfl
  | [_, _, _, _] => rfl
  | [_, _, _, _, _] => rfl
  | [_, _, _, _, _, _] => exact absurd rfl h
  | _ :: _ :: _ :: _ :: _ :: _ :: _ :: _ => rfl
theorem lev_no {d : PyData} (h : wholeD d = false) : levD d = false := by
  cases d with
  | int i => cases (show true = false from h)
  | _ => rfl
/-! ### records -/
inductive Kd | key | whole | num
  deriving DecidableEq
def Kd.is : Kd → PyData → Bool
  | .key => keyD
  | .whole => wholeD
  | .num => numD
def forms : List (Str × List Kd) := [("put", [.key, .whole, .num]), ("take", [.key, .num]), ("part", [.key, .num, .num]), ("entry", [.key, .num, .num]), ("less", [.key, .num]), ("gone", [.num, .num]),
  ("join", [.key, .num, .num, .num]), ("joining", [.key, .num, .num, .num]), ("lowering", [.num, .num]), ("moved", [.num])]
def lookF : List (Str × List Kd) → Str → Option (List Kd)
  | [], _ => none
  | p :: r, z => if p.1 = z then some p.2 else lookF r z
def fitD : List Kd → List PyData → List Bool
  | k :: ks, d :: ds => k.is d :: fitD ks ds
  | _, _ => []
def formD (z : Str) (ps : List PyData) : Bool := match lookF forms z with
  | some ks => decide (ps.length = ks.length) && (fitD ks ps).all id
  | none => false
def recD : PyData → Bool
  | .tuple (.str z :: ps) => if z = "leaf" then leafD (.str z :: ps) else if z = "bough" then boughD (.str z :: ps) else formD z ps
  | _ => false
theorem recD_no {d : PyData} (h : isD "tuple" d = false) : recD d = false := by
  cases d with
  | tuple ds => simp [isD, tyD] at h
  | _ => rfl
theorem str_of {d : PyData} (h : isD "str" d = true) : ∃ z, d = .str z := by
  cases d with
  | str z => exact ⟨z, rfl⟩
  | _ => simp [isD, tyD] at h
theorem dp_str {K : PySem.W.Frag} {H : Hp} {x : V} {z : Str} (h : Dp K H x (.str z)) : x = .str z := by cases h; rfl
theorem recD_nostr {d : PyData} {ps : List PyData} (h : isD "str" d = false) : recD (.tuple (d :: ps)) = false := by
  cases d with
  | str z => simp [isD, tyD] at h
  | _ => rfl
def spRec (K : PySem.W.Frag) : Sp := fun vs H Q _ => ∃ (x : V) (d : PyData), vs = [x] ∧ Dp K H x d ∧ ∀ H', Same H H' → Q (.bl (recD d)) H'
theorem fitD_at {k : Kd} {d : PyData} : ∀ {ks : List Kd} {ps : List PyData} {j : Nat}, ks[j]? = some k → ps[j]? = some d → (fitD ks ps)[j]? = some (k.is d)
  | [], _, _, h, _ => by simp at h
  | _ :: _, [], _, _, h => by simp at h
  | _ :: _, _ :: _, 0, h1, h2 => by simp at h1 h2; subst h1; subst h2; rfl
  | _ :: ks, _ :: ps, j + 1, h1, h2 => by
    have ih := fitD_at (ks := ks) (ps := ps) (j := j) (by simpa using h1) (by simpa using h2)
    exact ih
theorem fitD_len : ∀ {ks : List Kd} {ps : List PyData}, ps.length = ks.length → (fitD ks ps).length = ks.length
  | [], [], _ => rfl
  | [], _ :: _, h => by cases h
  | _ :: _, [], h => by cases h
  | _ :: ks, _ :: ps, h => congrArg (· + 1) (fitD_len (ks := ks) (ps := ps) (Nat.succ.inj h))

structure Adr where
  (a_NoSize_init a_NoRoom_init a_NoSlot_init a_Full_init a_is_whole a_is_key a_is_number a_are_rows a_are_bounds a_is_leaf a_is_bough a_is_record a_look_at_most a_least_free a_Store_init a_Store_look_at_room a_Store_look_at_slot a_Store_look_at_free a_Store_put_in a_Store_let_go a_Store_new_slot a_Store_drop a_Store_swap a_Store_rooms a_Store_heads a_Store_twin a_Store___len__ a_pool a_take a_key a_number a_value a_drawn_base a_drawn_record a_look a_deed a_is_full a_law : Addr)
  (d_NoSize_init d_NoRoom_init d_NoSlot_init d_Full_init d_is_whole d_is_key d_is_number d_are_rows d_are_bounds d_is_leaf d_is_bough d_is_record d_look_at_most d_least_free d_Store_init d_Store_look_at_room d_Store_look_at_slot d_Store_look_at_free d_Store_put_in d_Store_let_go d_Store_new_slot d_Store_drop d_Store_swap d_Store_rooms d_Store_heads d_Store_twin d_Store___len__ d_pool d_take d_key d_number d_value d_drawn_base d_drawn_record d_look d_deed d_is_full d_law : FuncData)
  (c_Store c_NoSize c_NoRoom c_Full c_NoSlot c_NoRecord : Addr)
  (k_FORMS k_FORMS_0 k_FORMS_1 k_FORMS_2 k_FORMS_3 k_FORMS_4 k_FORMS_5 k_FORMS_6 k_FORMS_7 k_FORMS_8 k_FORMS_9 : Addr)
structure Txt (w : World) (K : PySem.W.Frag) (mg : Str → Option Value) (A : Adr) : Prop where
  F_NoSize_init : Fun K "__init__" "NoSize.__init__" s_NoSize_init A.a_NoSize_init A.d_NoSize_init
  b_NoSize_init : Binds K A.d_NoSize_init ["self", "word"] []
  ow_NoSize : ER.Own K A.c_NoSize ER.iV
  mg_NoSize : mg "NoSize" = some (.ref A.c_NoSize)
  ic_NoSize : PySem.W.findIn K (.ref A.c_NoSize) "__init__" = some (some (.ref A.a_NoSize_init))
  ti_NoSize : PySem.W.typeIn K (.ref A.a_NoSize_init) = some (.type "function")
  no_NoSize_word : PySem.W.findIn K (.ref A.c_NoSize) "word" = some none
  F_NoRoom_init : Fun K "__init__" "NoRoom.__init__" s_NoRoom_init A.a_NoRoom_init A.d_NoRoom_init
  b_NoRoom_init : Binds K A.d_NoRoom_init ["self", "room"] []
  ow_NoRoom : ER.Own K A.c_NoRoom ER.iI
  mg_NoRoom : mg "NoRoom" = some (.ref A.c_NoRoom)
  ic_NoRoom : PySem.W.findIn K (.ref A.c_NoRoom) "__init__" = some (some (.ref A.a_NoRoom_init))
  ti_NoRoom : PySem.W.typeIn K (.ref A.a_NoRoom_init) = some (.type "function")
  no_NoRoom_room : PySem.W.findIn K (.ref A.c_NoRoom) "room" = some none
  F_NoSlot_init : Fun K "__init__" "NoSlot.__init__" s_NoSlot_init A.a_NoSlot_init A.d_NoSlot_init
  b_NoSlot_init : Binds K A.d_NoSlot_init ["self", "slot"] []
  ow_NoSlot : ER.Own K A.c_NoSlot ER.iI
  mg_NoSlot : mg "NoSlot" = some (.ref A.c_NoSlot)
  ic_NoSlot : PySem.W.findIn K (.ref A.c_NoSlot) "__init__" = some (some (.ref A.a_NoSlot_init))
  ti_NoSlot : PySem.W.typeIn K (.ref A.a_NoSlot_init) = some (.type "function")
  no_NoSlot_slot : PySem.W.findIn K (.ref A.c_NoSlot) "slot" = some none
  F_Full_init : Fun K "__init__" "Full.__init__" s_Full_init A.a_Full_init A.d_Full_init
  b_Full_init : Binds K A.d_Full_init ["self", "many"] []
  ow_Full : ER.Own K A.c_Full ER.iO
  mg_Full : mg "Full" = some (.ref A.c_Full)
  ic_Full : PySem.W.findIn K (.ref A.c_Full) "__init__" = some (some (.ref A.a_Full_init))
  ti_Full : PySem.W.typeIn K (.ref A.a_Full_init) = some (.type "function")
  no_Full_many : PySem.W.findIn K (.ref A.c_Full) "many" = some none
  F_is_whole : Fun K "is_whole" "is_whole" s_is_whole A.a_is_whole A.d_is_whole
  b_is_whole : Binds K A.d_is_whole ["thing"] []
  m_is_whole : mg "is_whole" = some (.ref A.a_is_whole)
  F_is_key : Fun K "is_key" "is_key" s_is_key A.a_is_key A.d_is_key
  b_is_key : Binds K A.d_is_key ["thing"] []
  m_is_key : mg "is_key" = some (.ref A.a_is_key)
  F_is_number : Fun K "is_number" "is_number" s_is_number A.a_is_number A.d_is_number
  b_is_number : Binds K A.d_is_number ["thing"] []
  m_is_number : mg "is_number" = some (.ref A.a_is_number)
  F_are_rows : Fun K "are_rows" "are_rows" s_are_rows A.a_are_rows A.d_are_rows
  b_are_rows : Binds K A.d_are_rows ["thing", "low", "high"] []
  m_are_rows : mg "are_rows" = some (.ref A.a_are_rows)
  F_are_bounds : Fun K "are_bounds" "are_bounds" s_are_bounds A.a_are_bounds A.d_are_bounds
  b_are_bounds : Binds K A.d_are_bounds ["low", "high", "right"] []
  m_are_bounds : mg "are_bounds" = some (.ref A.a_are_bounds)
  F_is_leaf : Fun K "is_leaf" "is_leaf" s_is_leaf A.a_is_leaf A.d_is_leaf
  m_is_leaf : mg "is_leaf" = some (.ref A.a_is_leaf)
  F_is_bough : Fun K "is_bough" "is_bough" s_is_bough A.a_is_bough A.d_is_bough
  m_is_bough : mg "is_bough" = some (.ref A.a_is_bough)
  F_is_record : Fun K "is_record" "is_record" s_is_record A.a_is_record A.d_is_record
  b_is_record : Binds K A.d_is_record ["thing"] []
  m_is_record : mg "is_record" = some (.ref A.a_is_record)
  F_look_at_most : Fun K "look_at_most" "look_at_most" s_look_at_most A.a_look_at_most A.d_look_at_most
  b_look_at_most : Binds K A.d_look_at_most ["most"] []
  m_look_at_most : mg "look_at_most" = some (.ref A.a_look_at_most)
  F_least_free : Fun K "least_free" "least_free" s_least_free A.a_least_free A.d_least_free
  b_least_free : Binds K A.d_least_free ["taken"] []
  m_least_free : mg "least_free" = some (.ref A.a_least_free)
  F_Store_init : Fun K "__init__" "Store.__init__" s_Store_init A.a_Store_init A.d_Store_init
  mk_Store : Mk K A.c_Store A.a_Store_init
  bd_Store_init : ∃ u, Binds K A.d_Store_init ["self", "most"] [u] ∧ RelV (.int 4000) u
  F_Store_look_at_room : Fun K "look_at_room" "Store.look_at_room" s_Store_look_at_room A.a_Store_look_at_room A.d_Store_look_at_room
  b_Store_look_at_room : Binds K A.d_Store_look_at_room ["self", "room"] []
  me_Store_look_at_room : Meth K A.c_Store "look_at_room" A.a_Store_look_at_room
  F_Store_look_at_slot : Fun K "look_at_slot" "Store.look_at_slot" s_Store_look_at_slot A.a_Store_look_at_slot A.d_Store_look_at_slot
  b_Store_look_at_slot : Binds K A.d_Store_look_at_slot ["self", "slot"] []
  me_Store_look_at_slot : Meth K A.c_Store "look_at_slot" A.a_Store_look_at_slot
  F_Store_look_at_free : Fun K "look_at_free" "Store.look_at_free" s_Store_look_at_free A.a_Store_look_at_free A.d_Store_look_at_free
  b_Store_look_at_free : Binds K A.d_Store_look_at_free ["self", "many"] []
  me_Store_look_at_free : Meth K A.c_Store "look_at_free" A.a_Store_look_at_free
  F_Store_put_in : Fun K "put_in" "Store.put_in" s_Store_put_in A.a_Store_put_in A.d_Store_put_in
  b_Store_put_in : Binds K A.d_Store_put_in ["self", "record"] []
  me_Store_put_in : Meth K A.c_Store "put_in" A.a_Store_put_in
  F_Store_let_go : Fun K "let_go" "Store.let_go" s_Store_let_go A.a_Store_let_go A.d_Store_let_go
  b_Store_let_go : Binds K A.d_Store_let_go ["self", "room"] []
  me_Store_let_go : Meth K A.c_Store "let_go" A.a_Store_let_go
  F_Store_new_slot : Fun K "new_slot" "Store.new_slot" s_Store_new_slot A.a_Store_new_slot A.d_Store_new_slot
  b_Store_new_slot : Binds K A.d_Store_new_slot ["self", "head"] []
  me_Store_new_slot : Meth K A.c_Store "new_slot" A.a_Store_new_slot
  F_Store_drop : Fun K "drop" "Store.drop" s_Store_drop A.a_Store_drop A.d_Store_drop
  b_Store_drop : Binds K A.d_Store_drop ["self", "slot"] []
  me_Store_drop : Meth K A.c_Store "drop" A.a_Store_drop
  F_Store_swap : Fun K "swap" "Store.swap" s_Store_swap A.a_Store_swap A.d_Store_swap
  b_Store_swap : Binds K A.d_Store_swap ["self", "slot", "old", "new"] []
  me_Store_swap : Meth K A.c_Store "swap" A.a_Store_swap
  F_Store_rooms : Fun K "rooms" "Store.rooms" s_Store_rooms A.a_Store_rooms A.d_Store_rooms
  b_Store_rooms : Binds K A.d_Store_rooms ["self"] []
  me_Store_rooms : Meth K A.c_Store "rooms" A.a_Store_rooms
  F_Store_heads : Fun K "heads" "Store.heads" s_Store_heads A.a_Store_heads A.d_Store_heads
  b_Store_heads : Binds K A.d_Store_heads ["self"] []
  me_Store_heads : Meth K A.c_Store "heads" A.a_Store_heads
  F_Store_twin : Fun K "twin" "Store.twin" s_Store_twin A.a_Store_twin A.d_Store_twin
  b_Store_twin : Binds K A.d_Store_twin ["self"] []
  me_Store_twin : Meth K A.c_Store "twin" A.a_Store_twin
  F_Store___len__ : Fun K "__len__" "Store.__len__" s_Store___len__ A.a_Store___len__ A.d_Store___len__
  b_Store___len__ : Binds K A.d_Store___len__ ["self"] []
  me_Store___len__ : Meth K A.c_Store "__len__" A.a_Store___len__
  F_pool : Fun K "_law_pool" "_law_pool" s_pool A.a_pool A.d_pool
  b_pool : Binds K A.d_pool ["_law_script", "_law_k"] []
  m_pool : mg "_law_pool" = some (.ref A.a_pool)
  F_take : Fun K "_law_take" "_law_take" s_take A.a_take A.d_take
  b_take : Binds K A.d_take ["_law_pool_here", "_law_many"] []
  m_take : mg "_law_take" = some (.ref A.a_take)
  F_key : Fun K "_law_key" "_law_key" s_key A.a_key A.d_key
  b_key : Binds K A.d_key ["_law_pool_here"] []
  m_key : mg "_law_key" = some (.ref A.a_key)
  F_number : Fun K "_law_number" "_law_number" s_number A.a_number A.d_number
  b_number : Binds K A.d_number ["_law_pool_here"] []
  m_number : mg "_law_number" = some (.ref A.a_number)
  F_value : Fun K "_law_value" "_law_value" s_value A.a_value A.d_value
  b_value : Binds K A.d_value ["_law_pool_here"] []
  m_value : mg "_law_value" = some (.ref A.a_value)
  F_drawn_base : Fun K "_law_drawn_base" "_law_drawn_base" s_drawn_base A.a_drawn_base A.d_drawn_base
  b_drawn_base : Binds K A.d_drawn_base ["_law_pool_here", "_law_word"] []
  m_drawn_base : mg "_law_drawn_base" = some (.ref A.a_drawn_base)
  F_drawn_record : Fun K "_law_drawn_record" "_law_drawn_record" s_drawn_record A.a_drawn_record A.d_drawn_record
  b_drawn_record : Binds K A.d_drawn_record ["_law_pool_here"] []
  m_drawn_record : mg "_law_drawn_record" = some (.ref A.a_drawn_record)
  F_look : Fun K "_law_look" "_law_look" s_look A.a_look A.d_look
  b_look : Binds K A.d_look ["_law_store"] []
  m_look : mg "_law_look" = some (.ref A.a_look)
  F_deed : Fun K "_law_deed" "_law_deed" s_deed A.a_deed A.d_deed
  b_deed : Binds K A.d_deed ["_law_pool_here", "_law_store", "_law_own"] []
  m_deed : mg "_law_deed" = some (.ref A.a_deed)
  F_is_full : Fun K "_law_is_full" "_law_is_full" s_is_full A.a_is_full A.d_is_full
  b_is_full : Binds K A.d_is_full ["_law_store"] []
  m_is_full : mg "_law_is_full" = some (.ref A.a_is_full)
  F_law : Fun K "law" "law" s_law A.a_law A.d_law
  b_law : Binds K A.d_law ["_law_script"] []
  m_law : mg "law" = some (.ref A.a_law)
  te_NoSize : PySem.W.exmOne K (.ref A.c_NoSize) (.ref A.c_NoSize) = some true
  te_NoRoom : PySem.W.exmOne K (.ref A.c_NoRoom) (.ref A.c_NoRoom) = some true
  te_Full : PySem.W.exmOne K (.ref A.c_Full) (.ref A.c_Full) = some true
  te_NoSlot : PySem.W.exmOne K (.ref A.c_NoSlot) (.ref A.c_NoSlot) = some true
  te_NoRecord : PySem.W.exmOne K (.ref A.c_NoRecord) (.ref A.c_NoRecord) = some true
  ex_NoRecord : PySem.W.excIn K A.c_NoRecord ER.tlV "ValueError.__new__" = true
  mg_NoRecord : mg "NoRecord" = some (.ref A.c_NoRecord)
  kc_NoRecord : PySem.W.keepIn K (.ref A.c_NoRecord) = true
  sb_NoRecord : PySem.W.subIn K (.ref A.c_NoRecord) (.type "BaseException") = some true
  ty_NoRecord : PySem.W.typeIn K (.ref A.c_NoRecord) = some (.type "type")
  cl_Store : Cls K A.c_Store
  mg_Store : mg "Store" = some (.ref A.c_Store)
  no_Store_own_most : NoAttr K A.c_Store "own_most"
  no_Store_own_rooms : NoAttr K A.c_Store "own_rooms"
  no_Store_own_heads : NoAttr K A.c_Store "own_heads"
  n_isinstance : mg "isinstance" = none
  n_int : mg "int" = none
  n_bool : mg "bool" = none
  n_tuple : mg "tuple" = none
  n_str : mg "str" = none
  n_len : mg "len" = none
  n_all : mg "all" = none
  n_zip : mg "zip" = none
  n_ValueError : mg "ValueError" = none
  n_IndexError : mg "IndexError" = none
  n_OverflowError : mg "OverflowError" = none
  n_sorted : mg "sorted" = none
  n_dict : mg "dict" = none
  n_range : mg "range" = none
  n_min : mg "min" = none
  n_max : mg "max" = none
  n_repr : mg "repr" = none
  mk_FORMS : mg "FORMS" = some (.ref A.k_FORMS)
  kd_FORMS : KdAt K w.params A.k_FORMS [("put", .ref A.k_FORMS_0), ("take", .ref A.k_FORMS_1), ("part", .ref A.k_FORMS_2), ("entry", .ref A.k_FORMS_3), ("less", .ref A.k_FORMS_4), ("gone", .ref A.k_FORMS_5), ("join", .ref A.k_FORMS_6), ("joining", .ref A.k_FORMS_7), ("lowering", .ref A.k_FORMS_8), ("moved", .ref A.k_FORMS_9)]
  kt_FORMS_0 : ∀ H, SqT K H A.k_FORMS_0 [.ref A.a_is_key, .ref A.a_is_whole, .ref A.a_is_number]
  kt_FORMS_1 : ∀ H, SqT K H A.k_FORMS_1 [.ref A.a_is_key, .ref A.a_is_number]
  kt_FORMS_2 : ∀ H, SqT K H A.k_FORMS_2 [.ref A.a_is_key, .ref A.a_is_number, .ref A.a_is_number]
  kt_FORMS_3 : ∀ H, SqT K H A.k_FORMS_3 [.ref A.a_is_key, .ref A.a_is_number, .ref A.a_is_number]
  kt_FORMS_4 : ∀ H, SqT K H A.k_FORMS_4 [.ref A.a_is_key, .ref A.a_is_number]
  kt_FORMS_5 : ∀ H, SqT K H A.k_FORMS_5 [.ref A.a_is_number, .ref A.a_is_number]
  kt_FORMS_6 : ∀ H, SqT K H A.k_FORMS_6 [.ref A.a_is_key, .ref A.a_is_number, .ref A.a_is_number, .ref A.a_is_number]
  kt_FORMS_7 : ∀ H, SqT K H A.k_FORMS_7 [.ref A.a_is_key, .ref A.a_is_number, .ref A.a_is_number, .ref A.a_is_number]
  kt_FORMS_8 : ∀ H, SqT K H A.k_FORMS_8 [.ref A.a_is_number, .ref A.a_is_number]
  kt_FORMS_9 : ∀ H, SqT K H A.k_FORMS_9 [.ref A.a_is_number]
  v_MOST_KEY : ∃ t, mg "MOST_KEY" = some (.int 999999 t)
  v_MOST_LEVEL : ∃ t, mg "MOST_LEVEL" = some (.int 40 t)
  v_MOST_ROWS : ∃ t, mg "MOST_ROWS" = some (.int 400 t)
  v_MOST_ROOMS : ∃ t, mg "MOST_ROOMS" = some (.int 9999 t)
  v_ROOMS : ∃ t, mg "ROOMS" = some (.int 4000 t)
section
variable {P : Program} {w : World} {K : PySem.W.Frag} {mg : Str → Option Value} {base : Heap} {A : Adr}
theorem ok_is_whole (T : Txt w K mg A) : FnOk P w K mg base CX0 1 A.a_is_whole A.d_is_whole ["thing"] (spData K wholeD) := by
  refine T.F_is_whole.ok sc_is_whole (fun vs H Q E h => ?_) (fun cdv A' outer s H vs Q E hr h => ?_)
  · obtain ⟨x, d, rfl, _⟩ := h
    rfl
  · obtain ⟨x, d, rfl, hd, k⟩ := h
    refine ⟨_, (pss_one (ps_ret (pe_and (pe_callB call_isD (by rfl) T.n_isinstance (by decide +kernel) (pa_cons (pv 0) (pa_cons (pe_bltn (v := V.ty "int") (by rfl) T.n_int (by decide +kernel) rfl) pa_nil))) (pe_one (pe_not (pe_callB call_isD (by rfl) T.n_isinstance (by decide +kernel) (pa_cons (pv 0) (pa_cons (pe_bltn (v := V.ty "bool") (by rfl) T.n_bool (by decide +kernel) rfl) pa_nil)))))))), ?_⟩
    have hT1 : okT "int" = true := by decide
    have hT2 : okT "bool" = true := by decide
    walk_at "go"
    with_reducible refine by2 (fun c => ?_) (fun c => ?_)
    · walk_at "go"
      rw [← whole_eq c]; exact k
    · rw [whole_no c] at k; exact k
theorem ok_is_key (T : Txt w K mg A) : FnOk P w K mg base CX0 2 A.a_is_key A.d_is_key ["thing"] (spData K keyD) := by
  refine T.F_is_key.ok sc_is_key (fun vs H Q E h => ?_) (fun cdv A' outer s H vs Q E hr h => ?_)
  · obtain ⟨x, d, rfl, _⟩ := h
    rfl
  · obtain ⟨x, d, rfl, hd, k⟩ := h
    obtain ⟨_, v_MOST_KEY⟩ := T.v_MOST_KEY
    refine ⟨_, (pss_one (ps_ret (pe_and (pe_call (ok_is_whole T) (hr.mono (by decide)) rfl T.m_is_whole T.F_is_whole.kp T.b_is_whole .nil pass0 (pa_cons (pv 0) pa_nil)) (pe_one (pe_chain op_le op_le pe_int (pv 0) (pe_glob (v := V.int 999999) rfl v_MOST_KEY ⟨_, rfl⟩)))))), ?_⟩
    walk_at "go"
    with_reducible refine by2 (fun c => ?_) (fun c => ?_)
    · obtain ⟨i, rfl⟩ := whole_int c
      obtain rfl := dp_int hd
      walk_at "go"
      with_reducible refine by2 (fun c1 => ?_) (fun c1 => ?_)
      · walk_at "go"
        have e : keyD (.int i) = decide (i ≤ 999999) := by show (decide (0 ≤ i) && _) = _; rw [c1, Bool.true_and]
        rw [e] at k; exact k
      · have e : keyD (.int i) = false := by show (decide (0 ≤ i) && _) = _; rw [c1, Bool.false_and]
        rw [e] at k; exact k
    · rw [key_no c] at k; exact k
theorem ok_is_number (T : Txt w K mg A) : FnOk P w K mg base CX0 2 A.a_is_number A.d_is_number ["thing"] (spData K numD) := by
  refine T.F_is_number.ok sc_is_number (fun vs H Q E h => ?_) (fun cdv A' outer s H vs Q E hr h => ?_)
  · obtain ⟨x, d, rfl, _⟩ := h
    rfl
  · obtain ⟨x, d, rfl, hd, k⟩ := h
    refine ⟨_, (pss_one (ps_ret (pe_and (pe_call (ok_is_whole T) (hr.mono (by decide)) rfl T.m_is_whole T.F_is_whole.kp T.b_is_whole .nil pass0 (pa_cons (pv 0) pa_nil)) (pe_one (pe_cmpR op_ge (pv 0) pe_int (nomark _)))))), ?_⟩
    walk_at "go"
    with_reducible refine by2 (fun c => ?_) (fun c => ?_)
    · obtain ⟨i, rfl⟩ := whole_int c
      obtain rfl := dp_int hd
      walk_at "go"
      exact k
    · rw [num_no c] at k; exact k
theorem ok_are_bounds (T : Txt w K mg A) : FnOk P w K mg base CX0 3 A.a_are_bounds A.d_are_bounds ["low", "high", "right"] (spBounds K) := by
  refine T.F_are_bounds.ok sc_are_bounds (fun vs H Q E h => ?_) (fun cdv A' outer s H vs Q E hr h => ?_)
  · obtain ⟨x, y, z, a, b, c, rfl, _⟩ := h
    rfl
  · obtain ⟨x, y, z, a, b, c, rfl, ha, hb, hc, k⟩ := h
    refine ⟨_, (pss_cons (ps_if (pt_not (pt_val (pe_call (ok_is_key T) (hr.mono (by decide)) rfl T.m_is_key T.F_is_key.kp T.b_is_key .nil pass0 (pa_cons (pv 0) pa_nil))))
      (pss_one (ps_ret pe_bl))
      pss_nil)
      (pss_cons (ps_if (pt_cmpR op_isN (pv 1) pe_non (nomark _))
      (pss_one (ps_ret (pe_cmpR op_isN (pv 2) pe_non (nomark _))))
      pss_nil)
      (pss_one (ps_ret (pe_and (pe_call (ok_is_key T) (hr.mono (by decide)) rfl T.m_is_key T.F_is_key.kp T.b_is_key .nil pass0 (pa_cons (pv 1) pa_nil)) (pe_and (pe_cmpR op_lt (pv 0) (pv 1) (nomark _)) (pe_one (pe_call (ok_is_number T) (hr.mono (by decide)) rfl T.m_is_number T.F_is_number.kp T.b_is_number .nil pass0 (pa_cons (pv 2) pa_nil))))))))), ?_⟩
    walk_at "go"
    have e1 := dp_non hb
    have e2 := dp_non hc
    cases ca : keyD a with
    | false =>
      have e : boundsD a b c = false := by unfold boundsD; rw [ca, Bool.false_and]
      rw [e] at k
      dsimp only [Bool.not_false]
      walk_at "go"
      exact k
    | true =>
      obtain ⟨i, rfl, i0, i1⟩ := key_int ca
      obtain rfl := dp_int ha
      have eB : boundsD (.int i) b c = (if nonD b then nonD c else keyD b && (ltD (.int i) b && numD c)) := by unfold boundsD; rw [ca, Bool.true_and]
      walk_at "go"
      rw [e1]
      cases cb : nonD b with
      | true =>
        with_reducible refine then_ rfl ?_
        walk_at "go"
        rw [e2]
        rw [eB, cb] at k
        exact k
      | false =>
        rw [cb] at eB
        have eB : boundsD (.int i) b c = (keyD b && (ltD (.int i) b && numD c)) := eB
        rw [eB] at k
        with_reducible refine else_ rfl ?_
        walk_at "go"
        cases cb2 : keyD b with
        | false =>
          rw [cb2] at k
          with_reducible refine else_ rfl ?_
          walk_at "go"
          exact k
        | true =>
          obtain ⟨j, rfl, j0, j1⟩ := key_int cb2
          obtain rfl := dp_int hb
          rw [cb2] at k
          with_reducible refine then_ rfl ?_
          walk_at "go"
          with_reducible refine by2 (fun c1 => ?_) (fun c1 => ?_)
          · have e : ltD (.int i) (.int j) = true := c1
            rw [e] at k
            walk_at "go"
            exact k
          · have e : ltD (.int i) (.int j) = false := c1
            rw [e] at k
            walk_at "go"
            exact k
theorem ok_are_rows (T : Txt w K mg A) : FnOk P w K mg base CX0 3 A.a_are_rows A.d_are_rows ["thing", "low", "high"] (spRows K) := by
  refine T.F_are_rows.ok sc_are_rows (fun vs H Q E h => ?_) (fun cdv A' outer s H vs Q E hr h => ?_)
  · obtain ⟨x, h', lo, d, hi, rfl, _⟩ := h
    rfl
  · obtain ⟨x, y, lo, d, hi, rfl, hd, hh, ho, k⟩ := h
    obtain ⟨_, v_MOST_ROWS⟩ := T.v_MOST_ROWS
    have hT1 : okT "tuple" = true := by decide
    refine ⟨_, (cutAt (ps_if (PW.pt (pw_or (pt_not (pt_val (pe_callB call_isD (by rfl) T.n_isinstance (by decide +kernel) (pa_cons (pv 0) (pa_cons (pe_bltn (v := V.ty "tuple") (by rfl) T.n_tuple (by decide +kernel) rfl) pa_nil))))) (pw_or1 (pt_cmpR op_gt (pe_callB call_len_seq (by rfl) T.n_len PySem.boot_len (pa_cons (pv 0) pa_nil)) (pe_glob (v := V.int 400) rfl v_MOST_ROWS ⟨_, rfl⟩) (nomark _)))))
      (pss_one (ps_ret pe_bl))
      pss_nil)
      (cutAt (ps_if (pt_not (pt_val (pe_callB (cr_all rfl) (by rfl) T.n_all (by decide +kernel) (pa_cons (pe_lc (own := [("row", 4)]) rfl sc_are_rows.nd (pi_w (pi_tup (pv 0))) (blkOk_by (own := [("row", 4)]) (N := n_are_rows) (sc := defScope s_are_rows) (by decide +kernel)) (fun _ _ _ _ _ => viaG (pg_name (i := 4) sc_are_rows.nd rfl (Or.inl rfl)) (by first | rfl | (dsimp only [Cx.blk]; done) | (dsimp only [Cx.blk]; rfl))) (fun _ _ _ _ _ => viaT pts_nil (by first | rfl | (dsimp only [Cx.blk]; done) | (dsimp only [Cx.blk]; rfl))) (fun _ _ _ _ _ => viaE (pe_and (pe_callB call_isD (by rfl) T.n_isinstance (by decide +kernel) (pa_cons (pv 4) (pa_cons (pe_bltn (v := V.ty "tuple") (by rfl) T.n_tuple (by decide +kernel) rfl) pa_nil))) (pe_and (pe_cmpR op_eq (pe_callB call_len_seq (by rfl) T.n_len PySem.boot_len (pa_cons (pv 4) pa_nil)) pe_int (nomark _)) (pe_one (pe_call (ok_is_key T) (hr.mono (by decide)) rfl T.m_is_key T.F_is_key.kp T.b_is_key .nil pass0 (pa_cons (pe_ix ix_tup (pv 4) pe_int (fun _ _ => rfl)) pa_nil))))) (by first | rfl | (dsimp only [Cx.blk]; done) | (dsimp only [Cx.blk]; rfl)))) pa_nil))))
      (pss_one (ps_ret pe_bl))
      pss_nil)
      (pss_cons (ps_setLc (i := 3) (own := [("row", 4)]) rfl sc_are_rows.nd rfl rfl (sw_true rfl rfl rfl (by decide +kernel)) (pi_w (pi_tup (pv 0))) (blkOk_by (own := [("row", 4)]) (N := n_are_rows) (sc := defScope s_are_rows) (by decide +kernel)) (fun _ _ _ _ _ => viaG (pg_name (i := 4) sc_are_rows.nd rfl (Or.inl rfl)) (by first | rfl | (dsimp only [Cx.blk]; done) | (dsimp only [Cx.blk]; rfl))) (fun _ _ _ _ _ => viaT pts_nil (by first | rfl | (dsimp only [Cx.blk]; done) | (dsimp only [Cx.blk]; rfl))) (fun _ _ _ _ _ => viaE (pe_ix ix_tup (pv 4) pe_int (fun _ _ => rfl)) (by first | rfl | (dsimp only [Cx.blk]; done) | (dsimp only [Cx.blk]; rfl))))
      (cutAt (ps_if (PW.pt (pw_and (pt_cmpR (op_neD hr.units) (pv 3) (pe_lst pa_nil) (nomark _)) (pw_and1 (PW.pt (pw_or (pt_cmpR op_lt (pe_ix ix_list (pv 3) pe_int (fun _ _ => rfl)) (pv 1) (nomark _)) (pw_or1 (PW.pt (pw_and (pt_cmpR op_notN (pv 2) pe_non (nomark _)) (pw_and1 (pt_cmpR op_ge (pe_ix ix_list (pv 3) (pe_un un_neg pe_int) (fun _ _ => rfl)) (pv 2) (nomark _)))))))))))
      (pss_one (ps_ret pe_bl))
      pss_nil)
      (pss_one (ps_ret (pe_callB (cr_all rfl) (by rfl) T.n_all (by decide +kernel) (pa_cons (pe_lc (own := [("one", 5), ("other", 6)]) rfl sc_are_rows.nd (pi_w (pi_zip (by rfl) T.n_zip (pa_cons (pv 3) (pa_cons (pe_slice sl_list (pv 3) (po_some pe_int) po_none) pa_nil)))) (blkOk_by (own := [("one", 5), ("other", 6)]) (N := n_are_rows) (sc := defScope s_are_rows) (by decide +kernel)) (fun _ _ _ _ _ => viaG (pg_tup (n := 2) rfl (pgs_cons (pg_name (i := 5) sc_are_rows.nd rfl (Or.inl rfl)) (pgs_cons (pg_name (i := 6) sc_are_rows.nd rfl (Or.inl rfl)) pgs_nil))) (by first | rfl | (dsimp only [Cx.blk]; done) | (dsimp only [Cx.blk]; rfl))) (fun _ _ _ _ _ => viaT pts_nil (by first | rfl | (dsimp only [Cx.blk]; done) | (dsimp only [Cx.blk]; rfl))) (fun _ _ _ _ _ => viaE (pe_cmpR op_lt (pv 5) (pv 6) (nomark _)) (by first | rfl | (dsimp only [Cx.blk]; done) | (dsimp only [Cx.blk]; rfl)))) pa_nil)))))))), ?_⟩
    refine ⟨fun σ H1 => Wrap (σ = [some x, some (.int lo), some y, none, none, none, none] ∧ H1 = H ∧ ∃ rs, d = .tuple rs ∧ rs.length ≤ 400), ?_, ?_⟩
    · walk_at "go"
      cases ct : isD "tuple" d with
      | false =>
        rw [rowsD_no ct] at k
        walk_at "go"
        exact k H (Same.refl H)
      | true =>
        obtain ⟨rs, rfl⟩ := row_tuple ct
        obtain ⟨a, xs, rfl, hs, hds⟩ := dp_tup hd
        have hlen := dpAll_len hds
        walk_at "go"
        with_reducible refine by2 (fun c => ?_) (fun c => ?_)
        · have c : (400 : Int) < (xs.length : Nat) := of_decide_eq_true c
          have e : rowsD (.tuple rs) lo hi = false := by
            show (decide (rs.length ≤ 400) && _) = false
            rw [decide_eq_false (by omega), Bool.false_and]
          rw [e] at k
          walk_at "go"
          exact k H (Same.refl H)
        · have c : ¬ (400 : Int) < (xs.length : Nat) := of_decide_eq_false c
          exact ⟨rfl, rfl, rs, rfl, by omega⟩
    rintro σ H1 ⟨rfl, rfl, rs, rfl, hl4⟩
    obtain ⟨a, xs, rfl, hs, hds⟩ := dp_tup hd
    have hlen := dpAll_len hds
    have hxs : ∃ xs, SqT K H1 a xs := ⟨xs, hs⟩
    have eR : rowsD (.tuple rs) lo hi = (rs.all rowD && (!outB (rs.map keyOf) lo hi && rises (rs.map keyOf))) := by
      show (decide (rs.length ≤ 400) && _) = _
      rw [decide_eq_true hl4, Bool.true_and]
    rw [eR] at k
    refine ⟨fun σ H2 => Wrap (σ = [some (.ref a), some (.int lo), some y, none, none, none, none] ∧ Same H1 H2 ∧ rs.all rowD = true), ?_, ?_⟩
    · walk_at "go"
      refine Wrap.mk fun D hD => ?_
      refine lc_it (walk_tup (xs := xs)) (CP H1 D fun j => ((rs.take j).map rowD).map V.bl) (.start hD rfl) (fun j H2 _ c => ?_) ?_ ?_
      · rcases hs with (e | ⟨o, e⟩) | e
        · exact .inl (.inl (c.sm _ _ e))
        · exact .inl (.inr ⟨o, c.sm _ _ e⟩)
        · exact .inr e
      · rintro j v H2 H3 hj c ⟨rfl, hx⟩
        obtain ⟨dj, hdj, hv0⟩ := dpAll_at hds hx
        have hv := dp_same c.sm hv0
        have hD2 := c.at_
        have hlz : (((rs.take j).map rowD).map V.bl).length < sizeLine := by
          simp only [List.length_map, List.length_take]
          exact small1000 (by omega)
        have push : ∀ b : Bool, b = rowD dj → CP H1 D (fun j => ((rs.take j).map rowD).map V.bl) (j + 1) (upd H3 D (.lst (((rs.take j).map rowD).map V.bl ++ [V.bl b]))) := fun b e => by
          refine c.push (Same.refl _) ?_
          show List.map _ (List.map _ (rs.take (j + 1))) = _
          rw [take_snoc hdj, List.map_append, List.map_append, e]; rfl
        walk_at "go"
        cases ct : isD "tuple" dj with
        | false =>
          walk_at "go"
          exact push false (rowD_no ct).symm
        | true =>
          obtain ⟨ds, rfl⟩ := row_tuple ct
          obtain ⟨b, ys, rfl, hys, hyd⟩ := dp_tup hv
          have hyl := dpAll_len hyd
          walk_at "go"
          by_cases c2 : ds.length = 2
          · have e0 : decide (V.int (ys.length : Nat) = V.int 2) = true := by rw [dec_v]; simp; omega
            rw [e0]
            with_reducible refine then_ rfl ?_
            obtain ⟨d0, d1, rfl⟩ : ∃ d0 d1, ds = [d0, d1] := by
              match ds, c2 with
              | [d0, d1], _ => exact ⟨d0, d1, rfl⟩
            obtain ⟨y0, y1, rfl, hy0, hy1⟩ := dpAll_two hyd
            have a0 : atI [y0, y1] 0 = some y0 := rfl
            walk_at "go"
            exact push _ rfl
          · have e0 : decide (V.int (ys.length : Nat) = V.int 2) = false := by rw [dec_v]; simp; omega
            rw [e0]
            with_reducible refine else_ rfl ?_
            walk_at "go"
            exact push false (rowD_two c2).symm
      · intro H2 c
        have hD2 := c.at_
        rw [hlen, List.take_length] at hD2
        walk_at "go"
        have eh : (rs.map rowD).all id = rs.all rowD := by rw [List.all_map]; rfl
        rw [eh]
        cases ca : rs.all rowD with
        | false =>
          rw [ca, Bool.false_and] at k
          walk_at "go"
          exact k H2 c.sm
        | true =>
          walk_at "go"
          exact ⟨rfl, c.sm, rfl⟩
    · rintro σ H2 ⟨rfl, s2, hall⟩
      rw [hall, Bool.true_and] at k
      have hs2 : SqT K H2 a xs := by
        rcases hs with (e | ⟨o, e⟩) | e
        · exact .inl (.inl (s2 _ _ e))
        · exact .inl (.inr ⟨o, s2 _ _ e⟩)
        · exact .inr e
      have hxs2 : ∃ xs, SqT K H2 a xs := ⟨xs, hs2⟩
      walk_at "go"
      refine Wrap.mk fun D hD => ?_
      refine lc_it (walk_tup (xs := xs)) (CP H2 D fun j => ((rs.take j).map keyOf).map V.int) (.start hD rfl) (fun j H3 _ c => ?_) ?_ ?_
      · rcases hs2 with (e | ⟨o, e⟩) | e
        · exact .inl (.inl (c.sm _ _ e))
        · exact .inl (.inr ⟨o, c.sm _ _ e⟩)
        · exact .inr e
      · rintro j v H3 H4 hj c ⟨rfl, hx⟩
        obtain ⟨dj, hdj, hv0⟩ := dpAll_at hds hx
        have hv := dp_same (s2.trans c.sm) hv0
        obtain ⟨ky, ev, rfl, ek, _, _⟩ := rowD_is (List.all_eq_true.mp hall dj (List.mem_of_getElem? hdj))
        obtain ⟨b, ys, rfl, hys, hyd⟩ := dp_tup hv
        obtain ⟨y0, y1, rfl, hy0, hy1⟩ := dpAll_two hyd
        obtain rfl := dp_int hy0
        have hD2 := c.at_
        have hlz : (((rs.take j).map keyOf).map V.int).length < sizeLine := by
          simp only [List.length_map, List.length_take]
          exact small1000 (by omega)
        have a0 : atI [V.int ky, y1] 0 = some (V.int ky) := rfl
        walk_at "go"
        refine c.push (Same.refl _) ?_
        show List.map _ (List.map _ (rs.take (j + 1))) = _
        rw [take_snoc hdj, List.map_append, List.map_append]; rfl
      · intro H3 c
        have hD3 := c.at_
        rw [hlen, List.take_length] at hD3
        have s3 := s2.trans c.sm
        have hh3 := dp_same s3 hh
        have hkl : (rs.map keyOf).length ≤ 400 := by rw [List.length_map]; exact hl4
        have hpos : ∀ z ∈ rs.map keyOf, 0 ≤ z ∧ z ≤ 999999 := fun z hz => by
          obtain ⟨r, hr, rfl⟩ := List.mem_map.mp hz
          obtain ⟨ky, ev, _, ek, h1, h2⟩ := rowD_is (List.all_eq_true.mp hall r hr)
          rw [ek]; exact ⟨h1, h2⟩
        generalize rs.map keyOf = ks at *
        dsimp only [gName]
        refine ⟨fun σ H4 => Wrap (σ = [some (.ref a), some (.int lo), some y, some (.ref D), none, none, none] ∧ Same H1 H4 ∧ H4 D = some (.lst (ks.map V.int)) ∧ outB ks lo hi = false), ?_, ?_⟩
        · walk_at "go"
          intro F hF
          have nDF : D ≠ F := ne_of_none hD3 hF
          have hD4 : upd H3 F (.lst []) D = some (.lst (ks.map V.int)) := by rw [upd_ne nDF]; exact hD3
          have d1 : Dp K (upd H3 F (.lst [])) (.ref D) (.list (ks.map PyData.int)) := .lst (SqL.of hD4) (dp_ints _)
          have d2 : Dp K (upd H3 F (.lst [])) (.ref F) (.list []) := .lst (xs := []) (SqL.of upd_same) .nil
          refine ⟨_, _, d1, d2, shaped_ints _, rfl, ?_⟩
          rw [eqv_nil]
          have s4 := s3.trans (same_new (o := .lst []) hF)
          have hh4 := dp_same (same_new (o := .lst []) hF) hh3
          generalize upd H3 F (.lst []) = H4 at *
          have e2 := dp_non hh4
          cases ks with
          | nil =>
            walk_at "go"
            exact ⟨rfl, s4, hD4, rfl⟩
          | cons k0 kr =>
            obtain ⟨z, hz, hz2⟩ : ∃ z, (k0 :: kr).getLast? = some z ∧ (k0 :: kr) = (k0 :: kr).dropLast ++ [z] := ⟨_, List.getLast?_eq_some_getLast (List.cons_ne_nil _ _), (List.dropLast_concat_getLast (List.cons_ne_nil _ _)).symm⟩
            have eO := outB_cons (lo := lo) (hi := hi) hz
            have a0 : atI ((k0 :: kr).map V.int) 0 = some (V.int k0) := atI_nat (j := 0) rfl
            have a1 : atI ((k0 :: kr).map V.int) (-1) = some (V.int z) := by
              rw [hz2, List.map_append]
              exact atI_last _ _
            have kD : (decide (k0 < lo) || pastB hi z) = true → Q (.bl false) H4 := fun e => by
              have := k H4 s4
              rw [eO, e] at this; exact this
            have kN : (decide (k0 < lo) || pastB hi z) = false → Wrap ([some (V.ref a), some (V.int lo), some y, some (V.ref D), none, none, none] = [some (V.ref a), some (V.int lo), some y, some (V.ref D), none, none, none] ∧ Same H1 H4 ∧ H4 D = some (.lst ((k0 :: kr).map V.int)) ∧ outB (k0 :: kr) lo hi = false) := fun e => ⟨rfl, s4, hD4, by rw [eO]; exact e⟩
            walk_at "go"
            cases c0 : decide (k0 < lo) with
            | true =>
              with_reducible refine then_ rfl ?_
              walk_at "go"
              exact kD (by rw [c0]; rfl)
            | false =>
              rw [c0, Bool.false_or] at kD kN
              with_reducible refine else_ rfl ?_
              walk_at "go"
              rw [e2]
              rcases ho with rfl | ⟨jj, rfl⟩
              · with_reducible refine else_ rfl ?_
                walk_at "go"
                exact kN rfl
              · obtain rfl := dp_int hh4
                with_reducible refine then_ rfl ?_
                walk_at "go"
                with_reducible refine by2 (fun c1 => ?_) (fun c1 => ?_)
                · walk_at "go"
                  exact kD c1
                · walk_at "go"
                  exact kN c1
        · rintro σ H4 ⟨rfl, s4, hD4, hout⟩
          rw [hout, Bool.not_false, Bool.true_and] at k
          walk_at "go"
          intro F hF
          rw [cut1]
          have nDF : D ≠ F := ne_of_none hD4 hF
          have hD5 : upd H4 F (.lst ((ks.drop 1).map V.int)) D = some (.lst (ks.map V.int)) := by rw [upd_ne nDF]; exact hD4
          have hF5 : upd H4 F (.lst ((ks.drop 1).map V.int)) F = some (.lst ((ks.drop 1).map V.int)) := upd_same
          have s5 := s4.trans (same_new (o := .lst ((ks.drop 1).map V.int)) hF)
          generalize upd H4 F (.lst ((ks.drop 1).map V.int)) = H5 at *
          walk_at "go"
          refine Wrap.mk fun G hG => ?_
          refine lc_it (walk_zip (xs := ks.map V.int) (ys := (ks.drop 1).map V.int) rfl) (CP H5 G fun j => ((adj ks).take j).map V.bl) (.start hG rfl) (fun j H6 _ c => ⟨SqL.of (c.sm _ _ hD5), SqL.of (c.sm _ _ hF5)⟩) ?_ ?_
          · rintro j v H6 H7 hj c ⟨Tp, x1, x2, rfl, hT, rfl, hx1, hx2⟩
            have hx1 : (ks.map V.int)[j]? = some x1 := hx1
            have hx2 : ((ks.drop 1).map V.int)[j]? = some x2 := hx2
            rw [List.getElem?_map] at hx1 hx2
            cases g1 : ks[j]? with
            | none => rw [g1] at hx1; cases hx1
            | some u1 =>
              cases g2 : (ks.drop 1)[j]? with
              | none => rw [g2] at hx2; cases hx2
              | some u2 =>
                rw [g1] at hx1; rw [g2] at hx2
                obtain rfl : V.int u1 = x1 := Option.some.inj hx1
                obtain rfl : V.int u2 = x2 := Option.some.inj hx2
                have ea : (adj ks)[j]? = some (decide (u1 < u2)) := by
                  unfold adj
                  rw [List.getElem?_map, (List.getElem?_zip_eq_some (z := (u1, u2))).mpr ⟨g1, g2⟩]; rfl
                have hG7 : upd H6 Tp (.tup [.int u1, .int u2]) G = some (.lst (((adj ks).take j).map V.bl)) := by rw [upd_ne (ne_of_none c.at_ hT)]; exact c.at_
                have hT7 : upd H6 Tp (.tup [.int u1, .int u2]) Tp = some (.tup [.int u1, .int u2]) := upd_same
                have hlz : (((adj ks).take j).map V.bl).length < sizeLine := by
                  unfold adj
                  simp only [List.length_map, List.length_take, List.length_zip]
                  exact small1000 (by omega)
                walk_at "go"
                refine c.push (same_new hT) ?_
                show List.map _ ((adj ks).take (j + 1)) = _
                rw [take_snoc ea, List.map_append]; rfl
          · intro H6 c
            have hG6 := c.at_
            have el : ((adj ks).take (min (ks.map V.int).length ((ks.drop 1).map V.int).length)) = adj ks := by
              apply List.take_of_length_le
              unfold adj
              simp only [List.length_map, List.length_zip]
              exact Nat.le_refl _
            rw [el] at hG6
            walk_at "go"
            rw [adj_all]
            exact k H6 (s5.trans c.sm)
theorem ok_is_leaf (T : Txt w K mg A) : FnOk P w K mg base CX0 4 A.a_is_leaf A.d_is_leaf ["thing"] (spLeaf K leafD) := by
  refine T.F_is_leaf.ok sc_is_leaf (fun vs H Q E h => ?_) (fun cdv A' outer s H vs Q E hr h => ?_)
  · obtain ⟨x, ds, rfl, _⟩ := h
    rfl
  · obtain ⟨x, ds, rfl, hd, k⟩ := h
    obtain ⟨a, xs, rfl, hs, hds⟩ := dp_tup hd
    have hlen := dpAll_len hds
    refine ⟨_, (cutAt (ps_if (PW.pt (pw_or (pt_cmpR op_ne (pe_callB call_len_seq (by rfl) T.n_len PySem.boot_len (pa_cons (pv 0) pa_nil)) pe_int (nomark _)) (pw_or (pt_not (pt_val (pe_call (ok_are_bounds T) (hr.mono (by decide)) rfl T.m_are_bounds T.F_are_bounds.kp T.b_are_bounds .nil pass0 (pa_cons (pe_ix ix_tup (pv 0) pe_int (fun _ _ => rfl)) (pa_cons (pe_ix ix_tup (pv 0) pe_int (fun _ _ => rfl)) (pa_cons (pe_ix ix_tup (pv 0) pe_int (fun _ _ => rfl)) pa_nil)))))) (pw_or1 (pt_not (pt_val (pe_call (ok_are_rows T) (hr.mono (by decide)) rfl T.m_are_rows T.F_are_rows.kp T.b_are_rows .nil pass0 (pa_cons (pe_ix ix_tup (pv 0) pe_int (fun _ _ => rfl)) (pa_cons (pe_ix ix_tup (pv 0) pe_int (fun _ _ => rfl)) (pa_cons (pe_ix ix_tup (pv 0) pe_int (fun _ _ => rfl)) pa_nil))))))))))
      (pss_one (ps_ret pe_bl))
      pss_nil)
      (pss_one (ps_ret (pe_callB (cr_all rfl) (by rfl) T.n_all (by decide +kernel) (pa_cons (pe_lc (own := [("key", 1), ("value", 2)]) rfl sc_is_leaf.nd (pi_w (pi_tup (pe_ix ix_tup (pv 0) pe_int (fun _ _ => rfl)))) (blkOk_by (own := [("key", 1), ("value", 2)]) (N := n_is_leaf) (sc := defScope s_is_leaf) (by decide +kernel)) (fun _ _ _ _ _ => viaG (pg_tup (n := 2) rfl (pgs_cons (pg_name (i := 1) sc_is_leaf.nd rfl (Or.inl rfl)) (pgs_cons (pg_name (i := 2) sc_is_leaf.nd rfl (Or.inl rfl)) pgs_nil))) (by first | rfl | (dsimp only [Cx.blk]; done) | (dsimp only [Cx.blk]; rfl))) (fun _ _ _ _ _ => viaT pts_nil (by first | rfl | (dsimp only [Cx.blk]; done) | (dsimp only [Cx.blk]; rfl))) (fun _ _ _ _ _ => viaE (pe_call (ok_is_whole T) (hr.mono (by decide)) rfl T.m_is_whole T.F_is_whole.kp T.b_is_whole .nil pass0 (pa_cons (pv 2) pa_nil)) (by first | rfl | (dsimp only [Cx.blk]; done) | (dsimp only [Cx.blk]; rfl)))) pa_nil))))), ?_⟩
    have hA : ∀ {i : Nat} {v : V}, xs[i]? = some v → atI xs ((i : Nat) : Int) = some v := fun e => atI_nat e
    refine ⟨fun σ H1 => Wrap (σ = [some (.ref a), none, none] ∧ Same H H1 ∧ ∃ d0 lo hi ri rs, ds = [d0, .int lo, hi, ri, .tuple rs] ∧ boundsD (.int lo) hi ri = true ∧ rowsD (.tuple rs) lo hi = true ∧ rs.length ≤ 400 ∧ rs.all rowD = true), ?_, ?_⟩
    · walk_at "go"
      by_cases c5 : ds.length = 5
      · obtain ⟨d0, d1, d2, d3, d4, rfl⟩ : ∃ d0 d1 d2 d3 d4, ds = [d0, d1, d2, d3, d4] := by
          match ds, c5 with
          | [d0, d1, d2, d3, d4], _ => exact ⟨d0, d1, d2, d3, d4, rfl⟩
        have e0 : (!decide (V.int (xs.length : Nat) = V.int 5)) = false := by rw [dec_v]; simp; omega
        rw [e0]
        with_reducible refine else_ rfl ?_
        obtain ⟨v1, i1, p1⟩ := dpAll_nth hds (i := 1) rfl
        obtain ⟨v2, i2, p2⟩ := dpAll_nth hds (i := 2) rfl
        obtain ⟨v3, i3, p3⟩ := dpAll_nth hds (i := 3) rfl
        obtain ⟨v4, i4, p4⟩ := dpAll_nth hds (i := 4) rfl
        have j1 : atI xs 1 = some v1 := hA i1
        have j2 : atI xs 2 = some v2 := hA i2
        have j3 : atI xs 3 = some v3 := hA i3
        have j4 : atI xs 4 = some v4 := hA i4
        walk_at "go"
        have eL : leafD [d0, d1, d2, d3, d4] = (boundsD d1 d2 d3 && (rowsD d4 (loOf d1) d2 && (rowsOf d4).all fun r => wholeD (valOf r))) := rfl
        cases cb : boundsD d1 d2 d3 with
        | false =>
          rw [eL, cb, Bool.false_and] at k
          with_reducible refine then_ rfl ?_
          walk_at "go"
          exact k H (Same.refl H)
        | true =>
          obtain ⟨⟨lo, rfl, _, _⟩, h2⟩ := bounds_is cb
          obtain rfl := dp_int p1
          rw [eL, cb, Bool.true_and] at k
          have k : ∀ H', Same H H' → Q (.bl (rowsD d4 lo d2 && (rowsOf d4).all fun r => wholeD (valOf r))) H' := k
          with_reducible refine else_ rfl ?_
          walk_at "go"
          intro H1 s1
          walk_at "go"
          cases cr : rowsD d4 lo d2 with
          | false =>
            rw [cr, Bool.false_and] at k
            with_reducible refine then_ rfl ?_
            walk_at "go"
            exact k H1 s1
          | true =>
            obtain ⟨rs, rfl, l4, al⟩ := rows_is cr
            with_reducible refine else_ rfl ?_
            exact ⟨rfl, s1, d0, lo, d2, d3, rs, rfl, cb, cr, l4, al⟩
      · have e0 : (!decide (V.int (xs.length : Nat) = V.int 5)) = true := by rw [dec_v]; simp; omega
        rw [e0]
        rw [leafD_five c5] at k
        with_reducible refine then_ rfl ?_
        walk_at "go"
        exact k H (Same.refl H)
    · rintro σ H1 ⟨rfl, s1, d0, lo, hi, ri, rs, rfl, hb, hr, hl4, hall⟩
      obtain ⟨v4, i4, p4⟩ := dpAll_nth hds (i := 4) rfl
      have j4 : atI xs 4 = some v4 := hA i4
      obtain ⟨b, ys, rfl, hys0, hyd⟩ := dp_tup p4
      have hs1 := sqT_same s1 hs
      have hys := sqT_same s1 hys0
      have hyl := dpAll_len hyd
      have hyx : ∃ ys, SqT K H1 b ys := ⟨ys, hys⟩
      have eL : leafD [d0, .int lo, hi, ri, .tuple rs] = rs.all fun r => wholeD (valOf r) := by
        show (boundsD _ hi ri && (rowsD (.tuple rs) lo hi && _)) = _
        rw [hb, hr]; rfl
      rw [eL] at k
      walk_at "go"
      refine Wrap.mk fun D hD => ?_
      refine lc_it (walk_tup (xs := ys)) (CP H1 D fun j => ((rs.take j).map fun r => wholeD (valOf r)).map V.bl) (.start hD rfl) (fun j H2 _ c => sqT_same c.sm hys) ?_ ?_
      · rintro j v H2 H3 hj c ⟨rfl, hx⟩
        obtain ⟨dj, hdj, hv0⟩ := dpAll_at hyd hx
        have hv := dp_same (s1.trans c.sm) hv0
        obtain ⟨ky, ev, rfl, ek, _, _⟩ := rowD_is (List.all_eq_true.mp hall dj (List.mem_of_getElem? hdj))
        obtain ⟨b2, zs, rfl, hzs, hzd⟩ := dp_tup hv
        obtain ⟨y0, y1, rfl, hy0, hy1⟩ := dpAll_two hzd
        have hD2 := c.at_
        have hlz : (((rs.take j).map fun r => wholeD (valOf r)).map V.bl).length < sizeLine := by
          simp only [List.length_map, List.length_take]
          exact small1000 (by omega)
        walk_at "go"
        refine c.push (Same.refl _) ?_
        show List.map _ (List.map _ (rs.take (j + 1))) = _
        rw [take_snoc hdj, List.map_append, List.map_append]; rfl
      · intro H2 c
        have hD2 := c.at_
        rw [hyl, List.take_length] at hD2
        walk_at "go"
        have eh : (rs.map fun r => wholeD (valOf r)).all id = rs.all fun r => wholeD (valOf r) := by rw [List.all_map]; rfl
        rw [eh]
        exact k H2 (s1.trans c.sm)
theorem ok_is_bough (T : Txt w K mg A) : FnOk P w K mg base CX0 4 A.a_is_bough A.d_is_bough ["thing"] (spLeaf K boughD) := by
  refine T.F_is_bough.ok sc_is_bough (fun vs H Q E h => ?_) (fun cdv A' outer s H vs Q E hr h => ?_)
  · obtain ⟨x, ds, rfl, _⟩ := h
    rfl
  · obtain ⟨x, ds, rfl, hd, k⟩ := h
    obtain ⟨a, xs, rfl, hs, hds⟩ := dp_tup hd
    have hlen := dpAll_len hds
    obtain ⟨_, v_MOST_LEVEL⟩ := T.v_MOST_LEVEL
    refine ⟨_, (cutAt (ps_if (PW.pt (pw_or (pt_cmpR op_ne (pe_callB call_len_seq (by rfl) T.n_len PySem.boot_len (pa_cons (pv 0) pa_nil)) pe_int (nomark _)) (pw_or (pt_not (pt_val (pe_call (ok_is_whole T) (hr.mono (by decide)) rfl T.m_is_whole T.F_is_whole.kp T.b_is_whole .nil pass0 (pa_cons (pe_ix ix_tup (pv 0) pe_int (fun _ _ => rfl)) pa_nil)))) (pw_or1 (pt_not (pt_chain op_le op_le pe_int (pe_ix ix_tup (pv 0) pe_int (fun _ _ => rfl)) (pe_glob (v := V.int 40) rfl v_MOST_LEVEL ⟨_, rfl⟩)))))))
      (pss_one (ps_ret pe_bl))
      pss_nil)
      (cutAt (ps_if (PW.pt (pw_or (pt_not (pt_val (pe_call (ok_are_bounds T) (hr.mono (by decide)) rfl T.m_are_bounds T.F_are_bounds.kp T.b_are_bounds .nil pass0 (pa_cons (pe_ix ix_tup (pv 0) pe_int (fun _ _ => rfl)) (pa_cons (pe_ix ix_tup (pv 0) pe_int (fun _ _ => rfl)) (pa_cons (pe_ix ix_tup (pv 0) pe_int (fun _ _ => rfl)) pa_nil)))))) (pw_or1 (pt_not (pt_val (pe_call (ok_are_rows T) (hr.mono (by decide)) rfl T.m_are_rows T.F_are_rows.kp T.b_are_rows .nil pass0 (pa_cons (pe_ix ix_tup (pv 0) pe_int (fun _ _ => rfl)) (pa_cons (pe_ix ix_tup (pv 0) pe_int (fun _ _ => rfl)) (pa_cons (pe_ix ix_tup (pv 0) pe_int (fun _ _ => rfl)) pa_nil)))))))))
      (pss_one (ps_ret pe_bl))
      pss_nil)
      (pss_one (ps_ret (pe_and (pe_cmpR (op_neT0 hr.units) (pe_ix ix_tup (pv 0) pe_int (fun _ _ => rfl)) (pe_tup pa_nil) (nomark _)) (pe_and (pe_cmpR (op_eqD hr.units) (pe_ix ix_tup (pe_ix ix_tup (pe_ix ix_tup (pv 0) pe_int (fun _ _ => rfl)) pe_int (fun _ _ => rfl)) pe_int (fun _ _ => rfl)) (pe_ix ix_tup (pv 0) pe_int (fun _ _ => rfl)) (nomark _)) (pe_one (pe_callB (cr_all rfl) (by rfl) T.n_all (by decide +kernel) (pa_cons (pe_lc (own := [("key", 1), ("slot", 2)]) rfl sc_is_bough.nd (pi_w (pi_tup (pe_ix ix_tup (pv 0) pe_int (fun _ _ => rfl)))) (blkOk_by (own := [("key", 1), ("slot", 2)]) (N := n_is_bough) (sc := defScope s_is_bough) (by decide +kernel)) (fun _ _ _ _ _ => viaG (pg_tup (n := 2) rfl (pgs_cons (pg_name (i := 1) sc_is_bough.nd rfl (Or.inl rfl)) (pgs_cons (pg_name (i := 2) sc_is_bough.nd rfl (Or.inl rfl)) pgs_nil))) (by first | rfl | (dsimp only [Cx.blk]; done) | (dsimp only [Cx.blk]; rfl))) (fun _ _ _ _ _ => viaT pts_nil (by first | rfl | (dsimp only [Cx.blk]; done) | (dsimp only [Cx.blk]; rfl))) (fun _ _ _ _ _ => viaE (pe_call (ok_is_number T) (hr.mono (by decide)) rfl T.m_is_number T.F_is_number.kp T.b_is_number .nil pass0 (pa_cons (pv 2) pa_nil)) (by first | rfl | (dsimp only [Cx.blk]; done) | (dsimp only [Cx.blk]; rfl)))) pa_nil))))))))), ?_⟩
    have hA : ∀ {i : Nat} {v : V}, xs[i]? = some v → atI xs ((i : Nat) : Int) = some v := fun e => atI_nat e
    refine ⟨fun σ H1 => Wrap (σ = [some (.ref a), none, none] ∧ H1 = H ∧ ∃ d0 lv d2 d3 d4 d5, ds = [d0, .int lv, d2, d3, d4, d5] ∧ levD (.int lv) = true), ?_, ?_⟩
    · walk_at "go"
      by_cases c6 : ds.length = 6
      · obtain ⟨d0, d1, d2, d3, d4, d5, rfl⟩ : ∃ d0 d1 d2 d3 d4 d5, ds = [d0, d1, d2, d3, d4, d5] := by
          match ds, c6 with
          | [d0, d1, d2, d3, d4, d5], _ => exact ⟨d0, d1, d2, d3, d4, d5, rfl⟩
        have e0 : (!decide (V.int (xs.length : Nat) = V.int 6)) = false := by rw [dec_v]; simp; omega
        rw [e0]
        with_reducible refine else_ rfl ?_
        obtain ⟨v1, i1, p1⟩ := dpAll_nth hds (i := 1) rfl
        have j1 : atI xs 1 = some v1 := hA i1
        walk_at "go"
        have eL : boughD [d0, d1, d2, d3, d4, d5] = (levD d1 && (boundsD d2 d3 d4 && (rowsD d5 (loOf d2) d3 && (firstD (rowsOf d5) d2 && (rowsOf d5).all fun r => numD (valOf r))))) := rfl
        rw [eL] at k
        cases cw : wholeD d1 with
        | false =>
          rw [lev_no cw, Bool.false_and] at k
          with_reducible refine then_ rfl ?_
          walk_at "go"
          exact k H (Same.refl H)
        | true =>
          obtain ⟨lv, rfl⟩ := whole_int cw
          obtain rfl := dp_int p1
          with_reducible refine else_ rfl ?_
          walk_at "go"
          cases c1 : decide ((1 : Int) ≤ lv) with
          | false =>
            have e : levD (.int lv) = false := by show (decide (1 ≤ lv) && _) = _; rw [c1, Bool.false_and]
            rw [e, Bool.false_and] at k
            with_reducible refine else_ rfl ?_
            walk_at "go"
            exact k H (Same.refl H)
          | true =>
            have e : levD (.int lv) = decide (lv ≤ 40) := by show (decide (1 ≤ lv) && _) = _; rw [c1, Bool.true_and]
            with_reducible refine then_ rfl ?_
            walk_at "go"
            cases c2 : decide (lv ≤ 40) with
            | false =>
              rw [e, c2, Bool.false_and] at k
              with_reducible refine then_ rfl ?_
              walk_at "go"
              exact k H (Same.refl H)
            | true =>
              with_reducible refine else_ rfl ?_
              exact ⟨rfl, rfl, d0, lv, d2, d3, d4, d5, rfl, by rw [e, c2]⟩
      · have e0 : (!decide (V.int (xs.length : Nat) = V.int 6)) = true := by rw [dec_v]; simp; omega
        rw [e0]
        rw [boughD_six c6] at k
        with_reducible refine then_ rfl ?_
        walk_at "go"
        exact k H (Same.refl H)
    · rintro σ H1 ⟨rfl, rfl, d0, lv, d2, d3, d4, d5, rfl, hlv⟩
      obtain ⟨v2, i2, p2⟩ := dpAll_nth hds (i := 2) rfl
      obtain ⟨v3, i3, p3⟩ := dpAll_nth hds (i := 3) rfl
      obtain ⟨v4, i4, p4⟩ := dpAll_nth hds (i := 4) rfl
      obtain ⟨v5, i5, p5⟩ := dpAll_nth hds (i := 5) rfl
      have j2 : atI xs 2 = some v2 := hA i2
      have j3 : atI xs 3 = some v3 := hA i3
      have j4 : atI xs 4 = some v4 := hA i4
      have j5 : atI xs 5 = some v5 := hA i5
      have eL : boughD [d0, .int lv, d2, d3, d4, d5] = (boundsD d2 d3 d4 && (rowsD d5 (loOf d2) d3 && (firstD (rowsOf d5) d2 && (rowsOf d5).all fun r => numD (valOf r)))) := by
        show (levD (.int lv) && _) = _
        rw [hlv, Bool.true_and]
      rw [eL] at k
      refine ⟨fun σ H2 => Wrap (σ = [some (.ref a), none, none] ∧ Same H1 H2 ∧ ∃ lo rs, d2 = .int lo ∧ d5 = .tuple rs ∧ boundsD (.int lo) d3 d4 = true ∧ rowsD (.tuple rs) lo d3 = true ∧ rs.length ≤ 400 ∧ rs.all rowD = true), ?_, ?_⟩
      · walk_at "go"
        cases cb : boundsD d2 d3 d4 with
        | false =>
          rw [cb, Bool.false_and] at k
          with_reducible refine then_ rfl ?_
          walk_at "go"
          exact k H1 (Same.refl H1)
        | true =>
          obtain ⟨⟨lo, rfl, _, _⟩, h2⟩ := bounds_is cb
          obtain rfl := dp_int p2
          rw [cb, Bool.true_and] at k
          have k : ∀ H', Same H1 H' → Q (.bl (rowsD d5 lo d3 && (firstD (rowsOf d5) (.int lo) && (rowsOf d5).all fun r => numD (valOf r)))) H' := k
          with_reducible refine else_ rfl ?_
          walk_at "go"
          intro H2 s2
          walk_at "go"
          cases cr : rowsD d5 lo d3 with
          | false =>
            rw [cr, Bool.false_and] at k
            with_reducible refine then_ rfl ?_
            walk_at "go"
            exact k H2 s2
          | true =>
            obtain ⟨rs, rfl, l4, al⟩ := rows_is cr
            with_reducible refine else_ rfl ?_
            exact ⟨rfl, s2, lo, rs, rfl, rfl, cb, cr, l4, al⟩
      · rintro σ H2 ⟨rfl, s2, lo, rs, rfl, rfl, hb, hr, hl4, hall⟩
        obtain rfl := dp_int p2
        obtain ⟨b, ys, rfl, hys0, hyd⟩ := dp_tup p5
        have hs2 := sqT_same s2 hs
        have hys := sqT_same s2 hys0
        have hyl := dpAll_len hyd
        have k : ∀ H', Same H1 H' → Q (.bl (firstD rs (.int lo) && rs.all fun r => numD (valOf r))) H' := fun H' s => by
          have q := k H' s
          rw [hb] at q
          have e : rowsD (.tuple rs) (loOf (.int lo)) d3 = true := hr
          rw [e] at q
          exact q
        walk_at "go"
        intro Z hZ
        have s3 := s2.trans (same_new (o := .tup []) hZ)
        have hZ3 : SqT K (upd H2 Z (.tup [])) Z [] := SqT.of upd_same
        have hs3 := sqT_same s3 hs
        have hys3 := sqT_same s3 hys0
        generalize upd H2 Z (.tup []) = H3 at *
        have hyx : ∃ ys, SqT K H3 b ys := ⟨ys, hys3⟩
        walk_at "go"
        match rs, ys, hyd, hyl, hall, hl4, k with
        | [], [], hyd, hyl, hall, hl4, k =>
          with_reducible refine else_ rfl ?_
          exact k H3 s3
        | [], _ :: _, hyd, hyl, _, _, _ => cases hyd
        | _ :: _, [], hyd, hyl, _, _, _ => cases hyd
        | r0 :: rr, y0 :: yr, hyd, hyl, hall, hl4, k =>
          with_reducible refine then_ (by simp) ?_
          obtain ⟨ky, ev, rfl, ek, _, _⟩ := rowD_is (List.all_eq_true.mp hall r0 List.mem_cons_self)
          obtain ⟨x0, q0, hy0⟩ := dpAll_nth hyd (i := 0) rfl
          obtain rfl : y0 = x0 := Option.some.inj q0
          obtain ⟨b0, zs, rfl, hzs, hzd⟩ := dp_tup (dp_same s3 hy0)
          obtain ⟨z0, z1, rfl, hz0, hz1⟩ := dpAll_two hzd
          obtain rfl := dp_int hz0
          have a0 : atI (V.ref b0 :: yr) 0 = some (V.ref b0) := atI_nat (j := 0) rfl
          have a1 : atI [V.int ky, z1] 0 = some (V.int ky) := rfl
          have eF : firstD (.tuple [.int ky, ev] :: rr) (.int lo) = decide (ky = lo) := rfl
          rw [eF] at k
          have hq1 : Dp K H3 (V.int ky) (.int ky) := .int ky
          have hq2 : Dp K H3 (V.int lo) (.int lo) := .int lo
          clear hz0 p2
          have hsh : ∀ i : Int, SeqAt.shaped (.int i) = true := fun _ => rfl
          have hsh1 := hsh ky
          have hsh2 := hsh lo
          walk_at "go"
          have eq1 : (PyData.int ky).eqv (PyData.int lo) = decide (ky = lo) := by
            show (ky == lo) = decide (ky = lo)
            by_cases e : ky = lo <;> simp [e]
          rw [eq1]
          cases ce : decide (ky = lo) with
          | false =>
            rw [ce, Bool.false_and] at k
            with_reducible refine else_ rfl ?_
            exact k H3 s3
          | true =>
            rw [ce, Bool.true_and] at k
            with_reducible refine then_ rfl ?_
            walk_at "go"
            refine Wrap.mk fun D hD => ?_
            refine lc_it (walk_tup (xs := V.ref b0 :: yr)) (CP H3 D fun j => (((PyData.tuple [.int ky, ev] :: rr).take j).map fun r => numD (valOf r)).map V.bl) (.start hD rfl) (fun j H4 _ c => sqT_same c.sm hys3) ?_ ?_
            · rintro j v H4 H5 hj c ⟨rfl, hx⟩
              obtain ⟨dj, hdj, hv0⟩ := dpAll_at hyd hx
              have hv := dp_same (s3.trans c.sm) hv0
              obtain ⟨kj, ej, rfl, _, _, _⟩ := rowD_is (List.all_eq_true.mp hall dj (List.mem_of_getElem? hdj))
              obtain ⟨b2, ws, rfl, hws, hwd⟩ := dp_tup hv
              obtain ⟨w0, w1, rfl, hw0, hw1⟩ := dpAll_two hwd
              have hD2 := c.at_
              have hlz : ((((PyData.tuple [.int ky, ev] :: rr).take j).map fun r => numD (valOf r)).map V.bl).length < sizeLine := by
                simp only [List.length_map, List.length_take]
                exact small1000 (Nat.le_trans (Nat.min_le_right _ _) (by omega))
              walk_at "go"
              refine c.push (Same.refl _) ?_
              show List.map _ (List.map _ ((PyData.tuple [.int ky, ev] :: rr).take (j + 1))) = _
              rw [take_snoc hdj, List.map_append, List.map_append]; rfl
            · intro H4 c
              have hD2 := c.at_
              rw [hyl, List.take_length] at hD2
              walk_at "go"
              have eh : ((PyData.tuple [.int ky, ev] :: rr).map fun r => numD (valOf r)).all id = (PyData.tuple [.int ky, ev] :: rr).all fun r => numD (valOf r) := by rw [List.all_map]; rfl
              rw [eh]
              exact k H4 (s3.trans c.sm)

/-! ### is_record -/
def kdAddr (A : Adr) : Kd → V
  | .key => .ref A.a_is_key
  | .whole => .ref A.a_is_whole
  | .num => .ref A.a_is_number
def FormOk (K : PySem.W.Frag) (A : Adr) (f : Str × List Kd) (p : Str × Value) : Prop := f.1 = p.1 ∧ ∃ a, p.2 = .ref a ∧ f.2.length ≤ 4 ∧ ∀ H, SqT K H a (f.2.map (kdAddr A))
theorem two_look {K : PySem.W.Frag} {A : Adr} (z : Str) : ∀ {fs : List (Str × List Kd)} {kvs : List (Str × Value)}, Paired (FormOk K A) fs kvs →
    (lookF fs z = none ∧ lookS kvs z = none) ∨ ∃ a ks, lookF fs z = some ks ∧ lookS kvs z = some (.ref a) ∧ ks.length ≤ 4 ∧ ∀ H, SqT K H a (ks.map (kdAddr A))
  | _, _, .nil => .inl ⟨rfl, rfl⟩
  | f :: fs, p :: kvs, .cons ⟨h1, a, h2, h3, h4⟩ t => by
    have ih := two_look z t
    unfold lookF lookS
    by_cases c : f.1 = z
    · rw [if_pos c, if_pos (h1 ▸ c)]
      exact .inr ⟨a, f.2, rfl, congrArg some h2, h3, h4⟩
    · rw [if_neg c, if_neg (h1 ▸ c)]
      exact ih
theorem forms_at (T : Txt w K mg A) : ∃ es n, KDict K w A.k_FORMS es n ∧ ∀ z : Str, (lookF forms z = none ∧ PySem.W.nsIn K A.k_FORMS z = some none) ∨
    ∃ a ks, lookF forms z = some ks ∧ PySem.W.nsIn K A.k_FORMS z = some (some (.ref a)) ∧ ks.length ≤ 4 ∧ ∀ H, SqT K H a (ks.map (kdAddr A)) := by
  obtain ⟨es, n, D, hz⟩ := T.kd_FORMS.kd
  refine ⟨es, n, D, fun z => ?_⟩
  rw [hz z]
  have P : Paired (FormOk K A) forms [("put", .ref A.k_FORMS_0), ("take", .ref A.k_FORMS_1), ("part", .ref A.k_FORMS_2), ("entry", .ref A.k_FORMS_3), ("less", .ref A.k_FORMS_4), ("gone", .ref A.k_FORMS_5), ("join", .ref A.k_FORMS_6), ("joining", .ref A.k_FORMS_7), ("lowering", .ref A.k_FORMS_8), ("moved", .ref A.k_FORMS_9)] :=
    .cons ⟨rfl, _, rfl, by decide, T.kt_FORMS_0⟩ (.cons ⟨rfl, _, rfl, by decide, T.kt_FORMS_1⟩ (.cons ⟨rfl, _, rfl, by decide, T.kt_FORMS_2⟩ (.cons ⟨rfl, _, rfl, by decide, T.kt_FORMS_3⟩ (.cons ⟨rfl, _, rfl, by decide, T.kt_FORMS_4⟩
      (.cons ⟨rfl, _, rfl, by decide, T.kt_FORMS_5⟩ (.cons ⟨rfl, _, rfl, by decide, T.kt_FORMS_6⟩ (.cons ⟨rfl, _, rfl, by decide, T.kt_FORMS_7⟩ (.cons ⟨rfl, _, rfl, by decide, T.kt_FORMS_8⟩ (.cons ⟨rfl, _, rfl, by decide, T.kt_FORMS_9⟩ .nil)))))))))
  rcases two_look z P with ⟨h1, h2⟩ | ⟨a, ks, h1, h2, h3, h4⟩
  · exact .inl ⟨h1, congrArg some h2⟩
  · exact .inr ⟨a, ks, h1, congrArg some h2, h3, h4⟩
theorem kd_held (T : Txt w K mg A) (k : Kd) : ∃ f, kdAddr A k = .ref f ∧ Held P w K mg base 2 f (spData K k.is) := by
  cases k with
  | key => exact ⟨_, rfl, ⟨_, _, ok_is_key T, T.F_is_key.kp, T.b_is_key⟩⟩
  | whole => exact ⟨_, rfl, ⟨_, _, (ok_is_whole T).mono (by decide), T.F_is_whole.kp, T.b_is_whole⟩⟩
  | num => exact ⟨_, rfl, ⟨_, _, ok_is_number T, T.F_is_number.kp, T.b_is_number⟩⟩
theorem ok_is_record (T : Txt w K mg A) : FnOk P w K mg base CX0 5 A.a_is_record A.d_is_record ["thing"] (spRec K) := by
  refine T.F_is_record.ok sc_is_record (fun vs H Q E h => ?_) (fun cdv A' outer s H vs Q E hr h => ?_)
  · obtain ⟨x, d, rfl, _⟩ := h
    rfl
  · obtain ⟨x, d, rfl, hd, k⟩ := h
    have hT1 : okT "tuple" = true := by decide
    have hT2 : okT "str" = true := by decide
    obtain ⟨es, n, KD, hforms⟩ := forms_at T
    refine ⟨_, (cutAt (ps_if (PW.pt (pw_or (pt_not (pt_val (pe_callB call_isD (by rfl) T.n_isinstance (by decide +kernel) (pa_cons (pv 0) (pa_cons (pe_bltn (v := V.ty "tuple") (by rfl) T.n_tuple (by decide +kernel) rfl) pa_nil))))) (pw_or (pt_cmpR (op_eqT0 hr.units) (pv 0) (pe_tup pa_nil) (nomark _)) (pw_or1 (pt_not (pt_val (pe_callB call_isD (by rfl) T.n_isinstance (by decide +kernel) (pa_cons (pe_ix ix_tup (pv 0) pe_int (fun _ _ => rfl)) (pa_cons (pe_bltn (v := V.ty "str") (by rfl) T.n_str (by decide +kernel) rfl) pa_nil)))))))))
      (pss_one (ps_ret pe_bl))
      pss_nil)
      (pss_cons (ps_asg (pv 0) (ST.pg_star (n := 2) (k := 1) rfl (pgs_cons (pg_name (i := 1) sc_is_record.nd rfl (Or.inl rfl)) (ST.pgs_star (pg_name (i := 2) sc_is_record.nd rfl (Or.inl rfl)) pgs_nil))))
      (cutAt (ps_if (pt_cmpR op_eq (pv 1) pe_str (nomark _))
      (pss_one (ps_ret (pe_callK0 (ok_is_leaf T) (hr.mono (by decide)) rfl T.m_is_leaf T.F_is_leaf.kp (kb_of (ps := ["thing"]) (ks := ["thing"]) (n := 0) T.F_is_leaf (fun _ ws => ws) (fun _ r => r) (fun _ _ _ _ _ _ us ws h1 h2 => match us, ws, h1, h2 with | [], [_], _, _ => rfl)) pass0 (pk_cons (pv 0) pk_nil))))
      pss_nil)
      (cutAt (ps_if (pt_cmpR op_eq (pv 1) pe_str (nomark _))
      (pss_one (ps_ret (pe_callK0 (ok_is_bough T) (hr.mono (by decide)) rfl T.m_is_bough T.F_is_bough.kp (kb_of (ps := ["thing"]) (ks := ["thing"]) (n := 0) T.F_is_bough (fun _ ws => ws) (fun _ r => r) (fun _ _ _ _ _ _ us ws h1 h2 => match us, ws, h1, h2 with | [], [_], _, _ => rfl)) pass0 (pk_cons (pv 0) pk_nil))))
      pss_nil)
      (cutAt (ps_if (PW.pt (pw_or (pt_cmpR (op_notIn_kd KD) (pv 1) (pe_glob (v := V.ref A.k_FORMS) rfl T.mk_FORMS rfl) rfl) (pw_or1 (pt_cmpR op_ne (pe_callB call_len_seq (by rfl) T.n_len PySem.boot_len (pa_cons (pv 2) pa_nil)) (pe_callB call_len_seq (by rfl) T.n_len PySem.boot_len (pa_cons (pe_ix ix_kdict (pe_glob (v := V.ref A.k_FORMS) rfl T.mk_FORMS rfl) (pv 1) (fun _ _ => rfl)) pa_nil)) (nomark _)))))
      (pss_one (ps_ret pe_bl))
      pss_nil)
      (pss_one (ps_ret (pe_callB (cr_all rfl) (by rfl) T.n_all (by decide +kernel) (pa_cons (pe_lc (own := [("is_fit", 3), ("part", 4)]) rfl sc_is_record.nd (pi_w (ZM.pi_zipM (by rfl) T.n_zip (pa_cons (pe_ix ix_kdict (pe_glob (v := V.ref A.k_FORMS) rfl T.mk_FORMS rfl) (pv 1) (fun _ _ => rfl)) (pa_cons (pv 2) pa_nil)))) (blkOk_by (own := [("is_fit", 3), ("part", 4)]) (N := n_is_record) (sc := defScope s_is_record) (by decide +kernel)) (fun _ _ _ _ _ => viaG (pg_tup (n := 2) rfl (pgs_cons (pg_name (i := 3) sc_is_record.nd rfl (Or.inl rfl)) (pgs_cons (pg_name (i := 4) sc_is_record.nd rfl (Or.inl rfl)) pgs_nil))) (by first | rfl | (dsimp only [Cx.blk]; done) | (dsimp only [Cx.blk]; rfl))) (fun _ _ _ _ _ => viaT pts_nil (by first | rfl | (dsimp only [Cx.blk]; done) | (dsimp only [Cx.blk]; rfl))) (fun _ _ _ _ _ => viaE (pe_callH (k := 2) 3 (hr.mono (by decide)) (pa_cons (pv 4) pa_nil)) (by first | rfl | (dsimp only [Cx.blk]; done) | (dsimp only [Cx.blk]; rfl)))) pa_nil))))))))), ?_⟩
    refine ⟨fun σ H1 => Wrap (∃ a z ws ps, σ = [some (.ref a), none, none, none, none] ∧ Same H H1 ∧ x = .ref a ∧ d = .tuple (.str z :: ps) ∧ SqT K H1 a (V.str z :: ws) ∧ DpAll K H1 ws ps), ?_, ?_⟩
    · walk_at "go"
      cases ct : isD "tuple" d with
      | false =>
        rw [recD_no ct] at k
        walk_at "go"
        exact k H (Same.refl H)
      | true =>
        obtain ⟨ds, rfl⟩ := row_tuple ct
        obtain ⟨a, xs, rfl, hs, hds⟩ := dp_tup hd
        have hlen := dpAll_len hds
        walk_at "go"
        intro Z hZ
        have s1 := same_new (o := .tup []) hZ
        have hZ1 : SqT K (upd H Z (.tup [])) Z [] := SqT.of upd_same
        have hs1 := sqT_same s1 hs
        have hds1 := dpAll_same s1 hds
        have k1 := fun H' (s : Same (upd H Z (.tup [])) H') => k H' (s1.trans s)
        generalize upd H Z (.tup []) = H1 at *
        walk_at "go"
        match ds, xs, hds1, hs1, hlen, k1 with
        | [], [], _, _, _, k1 =>
          with_reducible refine then_ rfl ?_
          walk_at "go"
          exact k1 H1 (Same.refl H1)
        | d0 :: ps, x0 :: ws, .cons h0 hps, hs1, hlen, k1 =>
          with_reducible refine else_ (by simp) ?_
          have a0 : atI (x0 :: ws) 0 = some x0 := atI_nat (j := 0) rfl
          walk_at "go"
          cases c0 : isD "str" d0 with
          | false =>
            rw [recD_nostr c0] at k1
            walk_at "go"
            exact k1 H1 (Same.refl H1)
          | true =>
            obtain ⟨z, rfl⟩ := str_of c0
            obtain rfl := dp_str h0
            walk_at "go"
            exact ⟨a, z, ws, ps, rfl, s1, rfl, rfl, hs1, hps⟩
    · rintro σ H1 ⟨a, z, ws, ps, rfl, s1, rfl, rfl, hs, hps⟩
      have hl := dpAll_len hps
      have hd1 := dp_same s1 hd
      have k1 := fun H' (s : Same H1 H') => k H' (s1.trans s)
      clear k s1 hd
      have hw2 : 2 ≤ (V.str z :: ws).length + 1 := by simp
      walk_at "go"
      intro L hL
      have e1 : (List.take 1 (V.str z :: ws) ++ [V.ref L] ++ List.drop ((V.str z :: ws).length - (2 - 1 - 1)) (V.str z :: ws)) = [V.str z, V.ref L] := by simp
      have e2 : List.take ((V.str z :: ws).length - (2 - 1)) (List.drop 1 (V.str z :: ws)) = ws := by simp
      rw [e1, e2]
      have s2 := same_new (o := .lst ws) hL
      have hs2 := sqT_same s2 hs
      have hps2 := dpAll_same s2 hps
      have hd2 := dp_same s2 hd1
      have hL2 : upd H1 L (.lst ws) L = some (.lst ws) := upd_same
      have k2 := fun H' (s : Same (upd H1 L (.lst ws)) H') => k1 H' (s2.trans s)
      generalize upd H1 L (.lst ws) = H2 at *
      clear k1 hd1 hps hs s2
      walk_at "go"
      refine ⟨fun σ H3 => Wrap (σ = [some (.ref a), some (.str z), some (.ref L), none, none] ∧ H3 = H2 ∧ z ≠ "leaf"), ?_, ?_⟩
      · walk_at "go"
        by_cases c : z = "leaf"
        · have e : recD (.tuple (.str z :: ps)) = leafD (.str z :: ps) := if_pos c
          rw [e] at k2
          with_reducible refine then_ (by rw [c]; simp) ?_
          walk_at "go"
          exact k2
        · with_reducible refine else_ (by simpa using c) ?_
          exact ⟨rfl, rfl, c⟩
      rintro σ H3 ⟨rfl, rfl, nl⟩
      have e : recD (.tuple (.str z :: ps)) = if z = "bough" then boughD (.str z :: ps) else formD z ps := if_neg nl
      rw [e] at k2
      clear e
      refine ⟨fun σ H4 => Wrap (σ = [some (.ref a), some (.str z), some (.ref L), none, none] ∧ H4 = H3 ∧ z ≠ "bough"), ?_, ?_⟩
      · walk_at "go"
        by_cases c : z = "bough"
        · rw [if_pos c] at k2
          with_reducible refine then_ (by rw [c]; simp) ?_
          walk_at "go"
          exact k2
        · with_reducible refine else_ (by simpa using c) ?_
          exact ⟨rfl, rfl, c⟩
      rintro σ H4 ⟨rfl, rfl, nb⟩
      rw [if_neg nb] at k2
      rcases hforms z with ⟨f1, f2⟩ | ⟨fa, ks, f1, f2, f3, f4⟩
      · have e : formD z ps = false := by unfold formD; rw [f1]
        rw [e] at k2
        refine ⟨fun σ H4 => Wrap False, ?_, fun _ _ z => z.ex.elim⟩
        walk_at "go"
        exact k2 H4 (Same.refl H4)
      · have e : formD z ps = (decide (ps.length = ks.length) && (fitD ks ps).all id) := by unfold formD; rw [f1]
        have kd1 : KDct K w A.k_FORMS z (V.ref fa) := ⟨es, n, _, KD.at_, KD.lit, f2, rfl⟩
        rw [e] at k2
        clear e
        have f4' := f4 H4
        refine ⟨fun σ H5 => Wrap (σ = [some (.ref a), some (.str z), some (.ref L), none, none] ∧ H5 = H4 ∧ ps.length = ks.length), ?_, ?_⟩
        · walk_at "go"
          by_cases c : ps.length = ks.length
          · with_reducible refine else_ (by rw [dec_v, List.length_map]; simp; omega) ?_
            exact ⟨rfl, rfl, c⟩
          · rw [decide_eq_false c, Bool.false_and] at k2
            with_reducible refine then_ (by rw [dec_v, List.length_map]; simp; omega) ?_
            walk_at "go"
            exact k2 H4 (Same.refl H4)
        · rintro σ H5 ⟨rfl, rfl, hlk⟩
          rw [decide_eq_true hlk, Bool.true_and] at k2
          walk_at "go"
          refine Wrap.mk fun D hD => ?_
          have eN : ks.length = min (ks.map (kdAddr A)).length ws.length := by rw [List.length_map]; omega
          have hfl := fitD_len hlk
          refine lc_it (ZM.walk_m (xs := ks.map (kdAddr A)) (ys := ws) eN) (CP H5 D fun j => ((fitD ks ps).take j).map V.bl) (.start hD rfl) (fun j H6 _ c => ⟨f4 H6, SqL.of (c.sm _ _ hL2)⟩) ?_ ?_
          · rintro j v H6 H7 hj c ⟨Tp, x1, x2, rfl, hT, rfl, hx1, hx2⟩
            obtain ⟨kd, hkd, rfl⟩ : ∃ kd, ks[j]? = some kd ∧ kdAddr A kd = x1 := by
              have hx1 : (ks.map (kdAddr A))[j]? = some x1 := hx1
              rw [List.getElem?_map] at hx1
              cases g : ks[j]? with
              | none => rw [g] at hx1; cases hx1
              | some kd => rw [g] at hx1; exact ⟨kd, rfl, Option.some.inj hx1⟩
            obtain ⟨dj, hdj, hv0⟩ := dpAll_at hps2 hx2
            have hv := dp_same (c.sm.trans (same_new (o := .tup [kdAddr A kd, x2]) hT)) hv0
            obtain ⟨f, ef, hf⟩ := kd_held (P := P) (w := w) (base := base) T kd
            have ea := fitD_at hkd hdj
            have hD7 : upd H6 Tp (.tup [kdAddr A kd, x2]) D = some (.lst (((fitD ks ps).take j).map V.bl)) := by rw [upd_ne (ne_of_none c.at_ hT)]; exact c.at_
            have hT7 : upd H6 Tp (.tup [kdAddr A kd, x2]) Tp = some (.tup [kdAddr A kd, x2]) := upd_same
            have hlz : (((fitD ks ps).take j).map V.bl).length < sizeLine := by
              simp only [List.length_map, List.length_take]
              exact small1000 (by omega)
            have hpush := c.push (y := .bl (kd.is dj)) (same_new (o := .tup [kdAddr A kd, x2]) hT) (by
              show List.map _ ((fitD ks ps).take (j + 1)) = _
              rw [take_snoc ea, List.map_append]; rfl)
            generalize upd H6 Tp (.tup [kdAddr A kd, x2]) = H7 at *
            rw [ef] at hT7
            walk_at "go"
            exact hpush
          · intro H6 c
            have hG6 := c.at_
            rw [← hfl, List.take_length] at hG6
            walk_at "go"
            exact k2 H6 c.sm

/-! ### the store: an object with a number and two dicts -/
theorem nf_mr : ¬ (("own_most" : Str) = "own_rooms") := by decide +kernel
theorem nf_mh : ¬ (("own_most" : Str) = "own_heads") := by decide +kernel
theorem nf_rh : ¬ (("own_rooms" : Str) = "own_heads") := by decide +kernel
def sf (m : Int) (r h : Addr) : List (Str × V) := putF "own_heads" (V.ref h) (putF "own_rooms" (V.ref r) (putF "own_most" (V.int m) []))
theorem sf_most (m : Int) (r h : Addr) : (sf m r h).lookup ("own_most" : Str) = some (V.int m) := by
  unfold sf; rw [lookup_putF, if_neg nf_mh, lookup_putF, if_neg nf_mr, lookup_putF, if_pos rfl]
theorem sf_rooms (m : Int) (r h : Addr) : (sf m r h).lookup ("own_rooms" : Str) = some (V.ref r) := by
  unfold sf; rw [lookup_putF, if_neg nf_rh, lookup_putF, if_pos rfl]
theorem sf_heads (m : Int) (r h : Addr) : (sf m r h).lookup ("own_heads" : Str) = some (V.ref h) := by
  unfold sf; rw [lookup_putF, if_pos rfl]
theorem sf_no (m : Int) (r h : Addr) {f : Str} (h1 : ¬ f = "own_most") (h2 : ¬ f = "own_rooms") (h3 : ¬ f = "own_heads") : (sf m r h).lookup f = none := by
  unfold sf; rw [lookup_putF, if_neg h3, lookup_putF, if_neg h2, lookup_putF, if_neg h1]; rfl
theorem sf_eq (m : Int) (r h : Addr) : sf m r h = ([("own_most", V.int m), ("own_rooms", V.ref r), ("own_heads", V.ref h)] : List (Str × V)) := by
  unfold sf; simp only [putF]; rw [if_neg nf_mr]; simp only [putF]; rw [if_neg nf_mh, if_neg nf_rh]
theorem sf_len (m : Int) (r h : Addr) : (sf m r h).length < 1000 := by
  rw [sf_eq]; show 3 < 1000; decide
theorem sf_putR (m : Int) (r h q : Addr) : putF "own_rooms" (V.ref q) (sf m r h) = sf m q h := by
  rw [sf_eq, sf_eq]; simp only [putF]; rw [if_neg nf_mr, if_pos True.intro]
theorem sf_putH (m : Int) (r h q : Addr) : putF "own_heads" (V.ref q) (sf m r h) = sf m r q := by
  rw [sf_eq, sf_eq]; simp only [putF]; rw [if_neg nf_mh, if_neg nf_rh, if_pos True.intro]
def SObj (C : Addr) (H : Hp) (p : Addr) (m : Int) (r h : Addr) : Prop := ∃ dx, H p = some (.ins C dx (sf m r h))
def mostD : PyData → Bool
  | .int i => decide (1 ≤ i) && decide (i ≤ 9999)
  | _ => false
theorem most_no {d : PyData} (h : wholeD d = false) : mostD d = false := by
  cases d with
  | int i => cases (show true = false from h)
  | _ => rfl
theorem most_int {d : PyData} (h : mostD d = true) : ∃ i, d = .int i ∧ 1 ≤ i ∧ i ≤ 9999 := by
  cases d with
  | int i =>
    have h : (decide (1 ≤ i) && decide (i ≤ 9999)) = true := h
    simp at h
    exact ⟨i, rfl, h.1, h.2⟩
  | _ => cases (show false = true from h)
/-- a refusal: an error of the class at C, its own dict f = v; all else as it was -/
def Refuse (C : Addr) (f : Str) (v : V) (E : XK) (H : Hp) : Prop := ∀ d, H d = none → E (.ref C) (some d) (upd H d (.xd [(f, v)]))
def spErr (C : Addr) (f : Str) : Sp := fun vs H Q _ => ∃ (a : Addr) (v : V), vs = [.ref a, v] ∧ H a = some (exo a C none) ∧ ∀ dx, H dx = none → dx ≠ a → Q .non (upd (upd H dx (exd dx [(f, v)])) a (exo a C (some dx)))
theorem err_end {H : Hp} {a d : Addr} {o1 o2 o3 o : HO} (ha : H a = none) (n : d ≠ a) : upd (del (upd (upd (upd H a o1) d o2) a o3) a) d o = upd H d o := by
  funext b
  unfold upd del
  by_cases e : b = d
  · subst e; simp
  · by_cases e2 : b = a
    · subst e2; simp [e, ha]
    · simp [e, e2]
/-- what tMkO asks of an error made by spErr -/
theorem mk_err {C : Addr} {f : Str} {v : V} {E : XK} {H : Hp} (k : Refuse C f v E H) : ([v] : List V).length ≤ 1000 ∧ ∀ a, H a = none → spErr C f (.ref a :: ([v] ++ [])) (upd H a (exo a C none))
    (fun x H2 => x = .non ∧ ∃ (d : Addr) (fs : List (Str × V)), H2 a = some (exo a C (some d)) ∧ H2 d = some (exd d fs) ∧ H d = none ∧ E (.ref C) (some d) (upd (del H2 a) d (.xd fs))) (fun _ _ _ => False) := by
  refine ⟨by simp, fun a ha => ⟨a, v, rfl, upd_same, fun dx hd ne => ⟨rfl, dx, [(f, v)], upd_same, ?_, ?_, ?_⟩⟩⟩
  · rw [upd_ne ne]; exact upd_same
  · rw [upd_ne ne] at hd; exact hd
  · rw [err_end ha ne]
    rw [upd_ne ne] at hd
    exact k dx hd
def spMost (K : PySem.W.Frag) (A : Adr) : Sp := fun vs H Q E => ∃ (x : V) (d : PyData), vs = [x] ∧ Dp K H x d ∧ (mostD d = true → Q .non H) ∧ (mostD d = false → Refuse A.c_NoSize "word" (.str "most") E H)
def LeastOf (kvs : List (Key × V)) (n : Nat) : Prop := valV kvs (Sum.inl (n : Int)) = none ∧ ∀ m : Nat, m < n → (valV kvs (Sum.inl (m : Int))).isSome = true
theorem holes : ∀ (n : Nat) (l : List Int), (∀ m : Nat, m < n → (m : Int) ∈ l) → n ≤ l.length
  | 0, _, _ => Nat.zero_le _
  | n + 1, l, h => by
    have h1 := h n (Nat.lt_succ_self n)
    have h2 := holes n (l.erase (n : Int)) (fun m hm => (List.mem_erase_of_ne (by omega)).mpr (h m (by omega)))
    rw [List.length_erase_of_mem h1] at h2
    have : 0 < l.length := List.length_pos_of_mem h1
    omega
def numK : Key → Option Int
  | .inl i => some i
  | .inr _ => none
theorem least_le {kvs : List (Key × V)} {n : Nat} (h : ∀ m : Nat, m < n → (valV kvs (Sum.inl (m : Int))).isSome = true) : n ≤ kvs.length := by
  have h1 := holes n ((kvs.map (·.1)).filterMap numK) (fun m hm => by
    obtain ⟨v, e⟩ := Option.isSome_iff_exists.mp (h m hm)
    exact List.mem_filterMap.mpr ⟨_, valV_in e, rfl⟩)
  have h2 := List.length_filterMap_le numK (kvs.map (·.1))
  rw [List.length_map] at h2
  omega
def spFree : Sp := fun vs H Q _ => ∃ (t : Addr) (kvs : List (Key × V)), vs = [.ref t] ∧ H t = some (.dK kvs) ∧ ∀ n : Nat, LeastOf kvs n → Q (.int (n : Int)) H
/-- a thing is a key of the dict, a number from 0 on -/
def inK (kvs : List (Key × V)) : PyData → Bool
  | .int i => decide (0 ≤ i) && (valV kvs (Sum.inl i)).isSome
  | _ => false
theorem inK_no {kvs : List (Key × V)} {d : PyData} (h : numD d = false) : inK kvs d = false := by
  cases d with
  | int i =>
    have h : decide (0 ≤ i) = false := h
    show (decide (0 ≤ i) && _) = false
    rw [h, Bool.false_and]
  | _ => rfl
theorem inK_int {kvs : List (Key × V)} {d : PyData} (h : inK kvs d = true) : ∃ i v, d = .int i ∧ 0 ≤ i ∧ valV kvs (Sum.inl i) = some v := by
  cases d with
  | int i =>
    have h : (decide (0 ≤ i) && (valV kvs (Sum.inl i)).isSome) = true := h
    obtain ⟨h1, h2⟩ := Bool.and_eq_true_iff.mp h
    obtain ⟨v, e⟩ := Option.isSome_iff_exists.mp h2
    exact ⟨i, v, rfl, of_decide_eq_true h1, e⟩
  | _ => cases (show false = true from h)
def spSInit (K : PySem.W.Frag) (A : Adr) : Sp := fun vs H Q E => ∃ (p dx : Addr) (x : V) (d : PyData), vs = [.ref p, x] ∧ H p = some (.ins A.c_Store dx []) ∧ Dp K H x d ∧
  (∀ m, d = .int m → 1 ≤ m → m ≤ 9999 → ∀ (H' : Hp) (r h : Addr), H r = none → H h = none → r ≠ h → SObj A.c_Store H' p m r h → H' r = some (.dK []) → H' h = some (.dK []) → (∀ b u, H b = some u → b ≠ p → H' b = some u) → Q .non H') ∧
  (mostD d = false → Refuse A.c_NoSize "word" (.str "most") E H)
def spLookR (K : PySem.W.Frag) (A : Adr) : Sp := fun vs H Q E => ∃ (p : Addr) (m : Int) (r h : Addr) (kvs : List (Key × V)) (x : V) (d : PyData), vs = [.ref p, x] ∧ SObj A.c_Store H p m r h ∧ H r = some (.dK kvs) ∧ Dp K H x d ∧
  (inK kvs d = true → Q .non H) ∧ (inK kvs d = false → Refuse A.c_NoRoom "room" x E H)
def spLookF (A : Adr) : Sp := fun vs H Q E => ∃ (p : Addr) (m : Int) (r h : Addr) (kvs : List (Key × V)) (n : Int), vs = [.ref p, .int n] ∧ SObj A.c_Store H p m r h ∧ H r = some (.dK kvs) ∧
  ((kvs.length : Int) + n ≤ m → Q .non H) ∧ (m < (kvs.length : Int) + n → Refuse A.c_Full "many" (.int m) E H)
def spPut (K : PySem.W.Frag) (A : Adr) : Sp := fun vs H Q E => ∃ (p : Addr) (m : Int) (r h : Addr) (kvs : List (Key × V)) (x : V) (d : PyData), vs = [.ref p, x] ∧ SObj A.c_Store H p m r h ∧ H r = some (.dK kvs) ∧ kvs.length < 100000 ∧ Dp K H x d ∧
  ∀ H', Same H H' → (recD d = false → E (.ref A.c_NoRecord) none H') ∧
    (recD d = true → m < (kvs.length : Int) + 1 → Refuse A.c_Full "many" (.int m) E H') ∧
    (recD d = true → (kvs.length : Int) + 1 ≤ m → ∀ n : Nat, LeastOf kvs n → Q (.int (n : Int)) (upd H' r (.dK (putK kvs (Sum.inl (n : Int)) x))))
def spLetGo (K : PySem.W.Frag) (A : Adr) : Sp := fun vs H Q E => ∃ (p : Addr) (m : Int) (r h : Addr) (kvs : List (Key × V)) (x : V) (d : PyData), vs = [.ref p, x] ∧ SObj A.c_Store H p m r h ∧ H r = some (.dK kvs) ∧ Dp K H x d ∧
  (∀ (i : Int) (v : V), d = .int i → 0 ≤ i → valV kvs (Sum.inl i) = some v → Q v (upd H r (.dK (dropK kvs (Sum.inl i))))) ∧ (inK kvs d = false → Refuse A.c_NoRoom "room" x E H)
def spAt (K : PySem.W.Frag) (A : Adr) : Sp := fun vs H Q E => ∃ (p : Addr) (m : Int) (r h : Addr) (kvs : List (Key × V)) (x : V) (d : PyData), vs = [.ref p, x] ∧ SObj A.c_Store H p m r h ∧ H r = some (.dK kvs) ∧ Dp K H x d ∧
  (∀ (i : Int) (v : V), d = .int i → 0 ≤ i → valV kvs (Sum.inl i) = some v → Q v H) ∧ (inK kvs d = false → Refuse A.c_NoRoom "room" x E H)
def spLen (A : Adr) : Sp := fun vs H Q _ => ∃ (p : Addr) (m : Int) (r h : Addr) (kvs : List (Key × V)), vs = [.ref p] ∧ SObj A.c_Store H p m r h ∧ H r = some (.dK kvs) ∧ Q (.int (kvs.length : Int)) H
/-- the same, whatever the order -/
structure Told (kvs kvs' : List (Key × V)) : Prop where
  len : kvs'.length = kvs.length
  nd : (kvs'.map (·.1)).Nodup
  val : ∀ k, valV kvs' k = valV kvs k
/-- keys that are numbers, each once -/
def IntD (kvs : List (Key × V)) : Prop := (∃ ks : List Int, kvs.map (·.1) = ks.map Sum.inl) ∧ (kvs.map (·.1)).Nodup
def spRooms (A : Adr) : Sp := fun vs H Q _ => ∃ (p : Addr) (m : Int) (r h : Addr) (kvs : List (Key × V)), vs = [.ref p] ∧ SObj A.c_Store H p m r h ∧ H r = some (.dK kvs) ∧ IntD kvs ∧ kvs.length < 64 ∧
  ∀ (H' : Hp) (d : Addr) (kvs' : List (Key × V)), Same H H' → H d = none → H' d = some (.dK kvs') → Told kvs kvs' → IntD kvs' → Q (.ref d) H'
/-! #### walks -/
theorem ok_NoSize_init (T : Txt w K mg A) : FnOk P w K mg base CX0 1 A.a_NoSize_init A.d_NoSize_init ["self", "word"] (spErr A.c_NoSize "word") := by
  refine T.F_NoSize_init.ok sc_NoSize_init (fun vs H Q E h => ?_) (fun cdv A' outer s H vs Q E hr h => ?_)
  · obtain ⟨a, v, rfl, _⟩ := h
    rfl
  · obtain ⟨a, v, rfl, ha, k⟩ := h
    have ow := T.ow_NoSize; have no := T.no_NoSize_word
    have hl : ([V.str "a"] : List V).length ≤ 1000 := by decide
    refine ⟨_, (pss_cons (ps_expr (ER.pe_ini (b := ER.iV) ER.nV ER.bV (by rfl) T.n_ValueError rfl (pa_cons (pv 0) (pa_cons pe_str pa_nil))))
      (pss_one (ER.ps_os1 (b := ER.iV) (pv 0) (pv 1)))), ?_⟩
    walk_at "go"
    exact k
theorem ok_NoRoom_init (T : Txt w K mg A) : FnOk P w K mg base CX0 1 A.a_NoRoom_init A.d_NoRoom_init ["self", "room"] (spErr A.c_NoRoom "room") := by
  refine T.F_NoRoom_init.ok sc_NoRoom_init (fun vs H Q E h => ?_) (fun cdv A' outer s H vs Q E hr h => ?_)
  · obtain ⟨a, v, rfl, _⟩ := h
    rfl
  · obtain ⟨a, v, rfl, ha, k⟩ := h
    have ow := T.ow_NoRoom; have no := T.no_NoRoom_room
    have hl : ([V.str "a"] : List V).length ≤ 1000 := by decide
    refine ⟨_, (pss_cons (ps_expr (ER.pe_ini (b := ER.iI) ER.nI ER.bI (by rfl) T.n_IndexError rfl (pa_cons (pv 0) (pa_cons pe_str pa_nil))))
      (pss_one (ER.ps_os1 (b := ER.iI) (pv 0) (pv 1)))), ?_⟩
    walk_at "go"
    exact k
theorem ok_Full_init (T : Txt w K mg A) : FnOk P w K mg base CX0 1 A.a_Full_init A.d_Full_init ["self", "many"] (spErr A.c_Full "many") := by
  refine T.F_Full_init.ok sc_Full_init (fun vs H Q E h => ?_) (fun cdv A' outer s H vs Q E hr h => ?_)
  · obtain ⟨a, v, rfl, _⟩ := h
    rfl
  · obtain ⟨a, v, rfl, ha, k⟩ := h
    have ow := T.ow_Full; have no := T.no_Full_many
    have hl : ([V.str "a"] : List V).length ≤ 1000 := by decide
    refine ⟨_, (pss_cons (ps_expr (ER.pe_ini (b := ER.iO) ER.nO ER.bO (by rfl) T.n_OverflowError rfl (pa_cons (pv 0) (pa_cons pe_str pa_nil))))
      (pss_one (ER.ps_os1 (b := ER.iO) (pv 0) (pv 1)))), ?_⟩
    walk_at "go"
    exact k
theorem ok_NoSlot_init (T : Txt w K mg A) : FnOk P w K mg base CX0 1 A.a_NoSlot_init A.d_NoSlot_init ["self", "slot"] (spErr A.c_NoSlot "slot") := by
  refine T.F_NoSlot_init.ok sc_NoSlot_init (fun vs H Q E h => ?_) (fun cdv A' outer s H vs Q E hr h => ?_)
  · obtain ⟨a, v, rfl, _⟩ := h
    rfl
  · obtain ⟨a, v, rfl, ha, k⟩ := h
    have ow := T.ow_NoSlot; have no := T.no_NoSlot_slot
    have hl : ([V.str "a"] : List V).length ≤ 1000 := by decide
    refine ⟨_, (pss_cons (ps_expr (ER.pe_ini (b := ER.iI) ER.nI ER.bI (by rfl) T.n_IndexError rfl (pa_cons (pv 0) (pa_cons pe_str pa_nil))))
      (pss_one (ER.ps_os1 (b := ER.iI) (pv 0) (pv 1)))), ?_⟩
    walk_at "go"
    exact k
theorem ok_look_at_most (T : Txt w K mg A) : FnOk P w K mg base (L2.CX P w) 4 A.a_look_at_most A.d_look_at_most ["most"] (spMost K A) := by
  refine T.F_look_at_most.okX sc_look_at_most (fun vs H Q E h => ?_) (fun cdv A' outer s H vs Q E hr h => ?_)
  · obtain ⟨x, d, rfl, _⟩ := h
    rfl
  · obtain ⟨x, d, rfl, hd, k1, k2⟩ := h
    obtain ⟨_, v_MOST_ROOMS⟩ := T.v_MOST_ROOMS
    refine ⟨_, (pss_one (ps_if (PW.pt (pw_or (pt_not (pt_val (pe_call (ok_is_whole T) (hr.mono (by decide)) rfl T.m_is_whole T.F_is_whole.kp T.b_is_whole .nil pass0 (pa_cons (pv 0) pa_nil)))) (pw_or1 (pt_not (pt_chain op_le op_le pe_int (pv 0) (pe_glob (v := V.int 9999) rfl v_MOST_ROOMS ⟨_, rfl⟩))))))
      (pss_one (ps_raise rfl (takes_of rfl rfl rfl rfl) (ER.pmk_own T.ow_NoSize T.ic_NoSize T.ti_NoSize (ok_NoSize_init T) (hr.mono (by decide)) T.b_NoSize_init .nil pass0 (by rfl) T.mg_NoSize (pa_cons pe_str pa_nil))))
      pss_nil)), ?_⟩
    have hno : mostD d = false → ([V.str "most"] : List V).length ≤ 1000 ∧ _ := fun e => mk_err (k2 e)
    walk_at "go"
    cases cw : wholeD d with
    | false =>
      with_reducible refine then_ rfl ?_
      walk_at "go"
      exact (hno (most_no cw)).2
    | true =>
      obtain ⟨i, rfl⟩ := whole_int cw
      obtain rfl := dp_int hd
      with_reducible refine else_ rfl ?_
      walk_at "go"
      cases c1 : decide ((1 : Int) ≤ i) with
      | false =>
        have e : mostD (.int i) = false := by show (decide (1 ≤ i) && _) = _; rw [c1, Bool.false_and]
        with_reducible refine else_ rfl ?_
        walk_at "go"
        exact (hno e).2
      | true =>
        have e : mostD (.int i) = decide (i ≤ 9999) := by show (decide (1 ≤ i) && _) = _; rw [c1, Bool.true_and]
        with_reducible refine then_ rfl ?_
        walk_at "go"
        cases c2 : decide (i ≤ 9999) with
        | false =>
          with_reducible refine then_ rfl ?_
          walk_at "go"
          exact (hno (by rw [e, c2])).2
        | true =>
          with_reducible refine else_ rfl ?_
          exact k1 (by rw [e, c2])
theorem ok_least_free (T : Txt w K mg A) : FnOk P w K mg base CX0 1 A.a_least_free A.d_least_free ["taken"] spFree := by
  refine T.F_least_free.ok sc_least_free (fun vs H Q E h => ?_) (fun cdv A' outer s H vs Q E hr h => ?_)
  · obtain ⟨t, kvs, rfl, _⟩ := h
    rfl
  · obtain ⟨t, kvs, rfl, ht, k⟩ := h
    have hu := hu_of hr
    refine ⟨_, (pss_cons (ps_set (i := 1) sc_least_free.nd rfl (Or.inl rfl) pe_int)
      (cutAt (ps_while PassesOwn.never (pt_cmp (pc_din hu (pv 1) (pv 0)))
      (pss_one (ps_aug (i := 1) sc_least_free.nd rfl (Or.inl rfl) pe_int ip_add)))
      (pss_one (ps_ret (pv 1))))), ?_⟩
    walk_at "go"
    refine ⟨fun σ H' => Wrap (∃ n : Nat, σ = [some (.ref t), some (.int (n : Int))] ∧ H' = H ∧ LeastOf kvs n), ?_, ?_⟩
    · refine ⟨fun m σ H' => ∃ i : Nat, m = kvs.length - i ∧ σ = [some (.ref t), some (.int (i : Int))] ∧ H' = H ∧ ∀ j : Nat, j < i → (valV kvs (Sum.inl (j : Int))).isSome = true, ⟨_, 0, rfl, rfl, rfl, fun j hj => absurd hj (Nat.not_lt_zero j)⟩, ?_⟩
      rintro m σ H' ⟨i, rfl, rfl, rfl, hi⟩
      have dg : DGet H' t (.int (i : Int)) (valV kvs (Sum.inl (i : Int))) := DGet.k (k := Sum.inl (i : Int)) ht
      walk_at "go"
      cases c : valV kvs (Sum.inl (i : Int)) with
      | none =>
        with_reducible refine else_ rfl ?_
        exact ⟨i, rfl, rfl, c, hi⟩
      | some v =>
        with_reducible refine then_ rfl ?_
        have hi' : ∀ j : Nat, j < i + 1 → (valV kvs (Sum.inl (j : Int))).isSome = true := fun j hj => by
          by_cases e : j = i
          · rw [e, c]; rfl
          · exact hi j (by omega)
        have hle := least_le hi'
        refine ⟨fun σ H'' => σ = [some (.ref t), some (.int ((i + 1 : Nat) : Int))] ∧ H'' = H', ?_, ?_⟩
        · rintro σ' H'' ⟨rfl, rfl⟩
          exact ⟨kvs.length - (i + 1), by omega, i + 1, rfl, rfl, rfl, hi'⟩
        · walk_at "go"
          rfl
    · rintro σ H' ⟨n, rfl, rfl, hn⟩
      walk_at "go"
      exact k n hn

theorem ok_Store_init (T : Txt w K mg A) : FnOk P w K mg base (L2.CX P w) 5 A.a_Store_init A.d_Store_init ["self", "most"] (spSInit K A) := by
  refine T.F_Store_init.okX sc_Store_init (fun vs H Q E h => ?_) (fun cdv A' outer s H vs Q E hr h => ?_)
  · obtain ⟨p, dx, x, d, rfl, _⟩ := h
    rfl
  · obtain ⟨p, dx, x, d, rfl, hp, hd, k1, k2⟩ := h
    have cl := T.cl_Store; have n1 := T.no_Store_own_most; have n2 := T.no_Store_own_rooms; have n3 := T.no_Store_own_heads
    refine ⟨_, (pss_cons (ps_expr (pe_call (ok_look_at_most T) (hr.mono (by decide)) rfl T.m_look_at_most T.F_look_at_most.kp T.b_look_at_most .nil (passes_call (takes_of rfl rfl rfl rfl) fun _ _ _ _ h => h) (pa_cons (pv 1) pa_nil)))
      (pss_cons (ps_fld (pv 0) (pv 1) rfl)
      (pss_cons (ps_fld (pv 0) pe_dnewK rfl)
      (pss_one (ps_fld (pv 0) pe_dnewK rfl))))), ?_⟩
    walk_at "go"
    refine ⟨fun c => ?_, k2⟩
    obtain ⟨m, rfl, h1, h2⟩ := most_int c
    obtain rfl := dp_int hd
    have k := k1 m rfl h1 h2
    clear k1 k2 hd
    walk_at "go"
    intro r hrr
    obtain ⟨nrp, hrr⟩ := un_upd hrr
    have hp1 : (upd H p (.ins A.c_Store dx (putF "own_most" (.int m) []))) p = some (.ins A.c_Store dx (putF "own_most" (.int m) [])) := upd_same
    walk_at "go"
    intro h' hh
    obtain ⟨nhp, hh⟩ := un_upd hh
    obtain ⟨nhr, hh⟩ := un_upd hh
    obtain ⟨_, hh⟩ := un_upd hh
    walk_at "go"
    refine k _ r h' hrr hh nhr.symm ⟨dx, upd_same⟩ ?_ ?_ (fun b u e nb => ?_)
    · rw [upd_ne nrp, upd_ne nhr.symm, upd_ne nrp]; exact upd_same
    · rw [upd_ne nhp]; exact upd_same
    · rw [upd_ne nb, upd_ne (ne_of_none e hh), upd_ne nb, upd_ne (ne_of_none e hrr), upd_ne nb]
      exact e
theorem ok_Store_look_at_room (T : Txt w K mg A) : FnOk P w K mg base (L2.CX P w) 4 A.a_Store_look_at_room A.d_Store_look_at_room ["self", "room"] (spLookR K A) := by
  refine T.F_Store_look_at_room.okX sc_Store_look_at_room (fun vs H Q E h => ?_) (fun cdv A' outer s H vs Q E hr h => ?_)
  · obtain ⟨p, m, r, h', kvs, x, d, rfl, _⟩ := h
    rfl
  · obtain ⟨p, m, r, h', kvs, x, d, rfl, ⟨dx, hp⟩, hrr, hd, k1, k2⟩ := h
    have hu := hu_of hr
    have cl := T.cl_Store; have n2 := T.no_Store_own_rooms; have f2 := sf_rooms m r h'
    have hno : inK kvs d = false → ([x] : List V).length ≤ 1000 ∧ _ := fun e => mk_err (k2 e)
    refine ⟨_, (pss_one (ps_if (PW.pt (pw_or (pt_not (pt_val (pe_call (ok_is_number T) (hr.mono (by decide)) rfl T.m_is_number T.F_is_number.kp T.b_is_number .nil pass0 (pa_cons (pv 1) pa_nil)))) (pw_or1 (pt_cmp (pc_dnotin hu (pv 1) (pe_fld (pv 0) rfl))))))
      (pss_one (ps_raise rfl (takes_of rfl rfl rfl rfl) (ER.pmk_own T.ow_NoRoom T.ic_NoRoom T.ti_NoRoom (ok_NoRoom_init T) (hr.mono (by decide)) T.b_NoRoom_init .nil pass0 (by rfl) T.mg_NoRoom (pa_cons (pv 1) pa_nil))))
      pss_nil)), ?_⟩
    walk_at "go"
    cases cn : numD d with
    | false =>
      with_reducible refine then_ rfl ?_
      walk_at "go"
      exact (hno (inK_no cn)).2
    | true =>
      obtain ⟨i, rfl, i0⟩ := num_int cn
      obtain rfl := dp_int hd
      have eI : inK kvs (.int i) = (valV kvs (Sum.inl i)).isSome := by show (decide (0 ≤ i) && _) = _; rw [decide_eq_true i0, Bool.true_and]
      have dg : DGet H r (.int i) (valV kvs (Sum.inl i)) := DGet.k (k := Sum.inl i) hrr
      with_reducible refine else_ rfl ?_
      walk_at "go"
      cases c : valV kvs (Sum.inl i) with
      | none =>
        with_reducible refine then_ rfl ?_
        walk_at "go"
        exact (hno (by rw [eI, c]; rfl)).2
      | some v =>
        with_reducible refine else_ rfl ?_
        exact k1 (by rw [eI, c]; rfl)
theorem ok_Store_look_at_free (T : Txt w K mg A) : FnOk P w K mg base (L2.CX P w) 4 A.a_Store_look_at_free A.d_Store_look_at_free ["self", "many"] (spLookF A) := by
  refine T.F_Store_look_at_free.okX sc_Store_look_at_free (fun vs H Q E h => ?_) (fun cdv A' outer s H vs Q E hr h => ?_)
  · obtain ⟨p, m, r, h', kvs, n, rfl, _⟩ := h
    rfl
  · obtain ⟨p, m, r, h', kvs, n, rfl, ⟨dx, hp⟩, hrr, k1, k2⟩ := h
    have cl := T.cl_Store; have n2 := T.no_Store_own_rooms; have f2 := sf_rooms m r h'; have n1 := T.no_Store_own_most; have f1 := sf_most m r h'
    have hno : m < (kvs.length : Int) + n → ([V.int m] : List V).length ≤ 1000 ∧ _ := fun e => mk_err (k2 e)
    refine ⟨_, (pss_one (ps_if (pt_cmpR op_gt (pe_op op_add (pe_callB call_lenD (by rfl) T.n_len PySem.boot_len (pa_cons (pe_fld (pv 0) rfl) pa_nil)) (pv 1)) (pe_fld (pv 0) rfl) (nomark _))
      (pss_one (ps_raise rfl (takes_of rfl rfl rfl rfl) (ER.pmk_own T.ow_Full T.ic_Full T.ti_Full (ok_Full_init T) (hr.mono (by decide)) T.b_Full_init .nil pass0 (by rfl) T.mg_Full (pa_cons (pe_fld (pv 0) rfl) pa_nil))))
      pss_nil)), ?_⟩
    walk_at "go"
    with_reducible refine by2 (fun c => ?_) (fun c => ?_)
    · have c := of_decide_eq_true c
      walk_at "go"
      exact (hno c).2
    · have c := of_decide_eq_false c
      walk_at "go"
      exact k1 (by omega)
theorem ok_Store_put_in (T : Txt w K mg A) : FnOk P w K mg base (L2.CX P w) 8 A.a_Store_put_in A.d_Store_put_in ["self", "record"] (spPut K A) := by
  refine T.F_Store_put_in.okX sc_Store_put_in (fun vs H Q E h => ?_) (fun cdv A' outer s H vs Q E hr h => ?_)
  · obtain ⟨p, m, r, h', kvs, x, d, rfl, _⟩ := h
    rfl
  · obtain ⟨p, m, r, h', kvs, x, d, rfl, ⟨dx, hp⟩, hrr, hkl, hd, k⟩ := h
    have hu := hu_of hr
    have cl := T.cl_Store; have n2 := T.no_Store_own_rooms; have f2 := sf_rooms m r h'
    refine ⟨_, (pss_cons (ps_if (pt_not (pt_val (pe_call (ok_is_record T) (hr.mono (by decide)) rfl T.m_is_record T.F_is_record.kp T.b_is_record .nil pass0 (pa_cons (pv 1) pa_nil))))
      (pss_one (ps_raise rfl (takes_of rfl rfl rfl rfl) (L2.pmk_own PySem.F.excBase_ValueError T.ex_NoRecord T.mg_NoRecord T.kc_NoRecord (raises_own T.sb_NoRecord T.ty_NoRecord) (by exact rfl))))
      pss_nil)
      (pss_cons (ps_expr (pe_meth (pv 0) T.cl_Store T.me_Store_look_at_free (ok_Store_look_at_free T) (hr.mono (by decide)) T.b_Store_look_at_free .nil (passes_call (takes_of rfl rfl rfl rfl) fun _ _ _ _ h => h) (pa_cons pe_int pa_nil)))
      (pss_cons (ps_set (i := 2) sc_Store_put_in.nd rfl (Or.inl rfl) (pe_call (ok_least_free T) (hr.mono (by decide)) rfl T.m_least_free T.F_least_free.kp T.b_least_free .nil pass0 (pa_cons (pe_fld (pv 0) rfl) pa_nil)))
      (pss_cons (ps_dput hu (pe_fld (pv 0) rfl) (pv 2) (pv 1) rfl)
      (pss_one (ps_ret (pv 2))))))), ?_⟩
    walk_at "go"
    intro H1 s1
    have hp1 := s1 _ _ hp
    have hr1 := s1 _ _ hrr
    obtain ⟨k1, k2, k3⟩ := k H1 s1
    clear k hp hrr hd s1
    walk_at "go"
    cases cr : recD d with
    | false =>
      with_reducible refine then_ rfl ?_
      exact k1 cr
    | true =>
      with_reducible refine else_ rfl ?_
      have no : (sf m r h').lookup ("look_at_free" : Str) = none := sf_no _ _ _ (by decide +kernel) (by decide +kernel) (by decide +kernel)
      walk_at "go"
      refine ⟨fun c => ?_, k2 cr⟩
      walk_at "go"
      intro n hn
      have dp : DPut H1 r (.int (n : Int)) x (upd H1 r (.dK (putK kvs (Sum.inl (n : Int)) x))) := DPut.k (k := Sum.inl (n : Int)) hr1 (Nat.lt_of_lt_of_le hkl (by decide))
      have q := k3 cr c n hn
      walk_at "go"
      exact q

theorem ok_Store_let_go (T : Txt w K mg A) : FnOk P w K mg base (L2.CX P w) 8 A.a_Store_let_go A.d_Store_let_go ["self", "room"] (spLetGo K A) := by
  refine T.F_Store_let_go.okX sc_Store_let_go (fun vs H Q E h => ?_) (fun cdv A' outer s H vs Q E hr h => ?_)
  · obtain ⟨p, m, r, h', kvs, x, d, rfl, _⟩ := h
    rfl
  · obtain ⟨p, m, r, h', kvs, x, d, rfl, ⟨dx, hp⟩, hrr, hd, k1, k2⟩ := h
    have cl := T.cl_Store; have n2 := T.no_Store_own_rooms; have f2 := sf_rooms m r h'
    have no : (sf m r h').lookup ("look_at_room" : Str) = none := sf_no _ _ _ (by decide +kernel) (by decide +kernel) (by decide +kernel)
    refine ⟨_, (pss_cons (ps_expr (pe_meth (pv 0) T.cl_Store T.me_Store_look_at_room (ok_Store_look_at_room T) (hr.mono (by decide)) T.b_Store_look_at_room .nil (passes_call (takes_of rfl rfl rfl rfl) fun _ _ _ _ h => h) (pa_cons (pv 1) pa_nil)))
      (pss_one (ps_ret (pe_dpop1 (pe_fld (pv 0) rfl) (pv 1) ⟨rfl, rfl, rfl, rfl⟩)))), ?_⟩
    walk_at "go"
    refine ⟨fun c => ?_, k2⟩
    obtain ⟨i, v, rfl, i0, hv⟩ := inK_int c
    obtain rfl := dp_int hd
    have q := k1 i v rfl i0 hv
    walk_at "go"
    have ek : V.int i = kV (Sum.inl i) := rfl
    walk_at "go"
    exact q

/-! ### a dict comprehension over anything that walks -/
theorem dc_it {J : It} {n : Nat} {G : Hp → Prop} {Y : Nat → Hp → V → Hp → Prop} (w : Walk J n G Y) {g : TG} {tt : TT} {tk tv : TE} {vs : List Nat} {σ : St} {H1 : Hp} {D : Addr} {Qd : Hp → Prop} (Pv : Nat → Hp → Prop) (h0 : Pv 0 (upd H1 D (.dK []))) (hG : ∀ i H, i ≤ n → Pv i H → G H)
    (hs : ∀ i x H H', i < n → Pv i H → Y i H x H' → g x (wipe σ vs) H' fun σ2 H2 => wipe σ2 vs = wipe σ vs ∧ tt σ2 H2 fun b H3 =>
      if b = true then tk σ2 H3 fun y H4 => tv σ2 H4 fun z H5 => ∃ kvs k, y = kV k ∧ H5 D = some (.dK kvs) ∧ kvs.length < sizeLine ∧ Pv (i + 1) (upd H5 D (.dK (putK kvs k z))) else Pv (i + 1) H3) (hd : ∀ H, Pv n H → Qd H) :
    ∃ W : Nat → Nat → Hp → Prop, (∃ m, W 0 m (upd H1 D (.dK []))) ∧ ∀ i m H, W i m H →
      (J.stop i H ∧ Qd H) ∨ (J.go i H ∧ ∃ Nx : Hp → Prop, (∀ H', Nx H' → ∃ m', m' < m ∧ W (i + 1) m' H') ∧ ∀ x H', J.yld i H x H' → g x (wipe σ vs) H' fun σ2 H2 => wipe σ2 vs = wipe σ vs ∧ tt σ2 H2 fun b H3 =>
        if b = true then tk σ2 H3 fun y H4 => tv σ2 H4 fun z H5 => ∃ kvs k, y = kV k ∧ H5 D = some (.dK kvs) ∧ kvs.length < sizeLine ∧ Nx (upd H5 D (.dK (putK kvs k z))) else Nx H3) := by
  refine ⟨fun i m H => m = n - i ∧ i ≤ n ∧ Pv i H, ⟨n, by simp, Nat.zero_le _, h0⟩, ?_⟩
  rintro i m H ⟨rfl, hi, p⟩
  have q := hG i H hi p
  by_cases hlt : i < n
  · exact .inr ⟨w.goes i H hlt q, Pv (i + 1), fun H' p' => ⟨n - (i + 1), by omega, rfl, hlt, p'⟩, fun x H' y => hs i x H H' hlt p (w.yields i H x H' hlt q y)⟩
  · have e : i = n := by omega
    subst e
    exact .inl ⟨w.stops H q, hd H p⟩
structure CD (H1 : Hp) (D : Addr) (S : Nat → List (Key × V)) (i : Nat) (H : Hp) : Prop where
  fr : H1 D = none
  sm : Same H1 H
  at_ : H D = some (.dK (S i))
theorem CD.start {H1 : Hp} {D : Addr} {S : Nat → List (Key × V)} (hD : H1 D = none) (h0 : S 0 = []) : CD H1 D S 0 (upd H1 D (.dK [])) := ⟨hD, same_new hD, by rw [h0]; exact upd_same⟩
theorem CD.push {H1 H H' : Hp} {D : Addr} {S : Nat → List (Key × V)} {i : Nat} {kvs : List (Key × V)} (c : CD H1 D S i H) (s : Same H H') (e : S (i + 1) = kvs) : CD H1 D S (i + 1) (upd H' D (.dK kvs)) :=
  ⟨c.fr, same_upd (c.sm.trans s) c.fr, by rw [e]; exact upd_same⟩
/-! ### the same dict, its keys in order -/
def sel (kvs : List (Key × V)) (ys : List Int) : List (Key × V) := ys.map fun y => (Sum.inl y, (valV kvs (Sum.inl y)).getD .non)
theorem sel_keys (kvs : List (Key × V)) (ys : List Int) : (sel kvs ys).map (·.1) = ys.map Sum.inl := by
  unfold sel; rw [List.map_map]; rfl
theorem inl_nd {ys : List Int} : (ys.map (Sum.inl : Int → Key)).Nodup ↔ ys.Nodup := by
  unfold List.Nodup
  rw [List.pairwise_map]
  refine ⟨fun h => h.imp fun n e => n (by rw [e]), fun h => h.imp fun n e => n (Sum.inl.inj e)⟩
theorem sel_val (kvs : List (Key × V)) : ∀ (ys : List Int) (k : Key), valV (sel kvs ys) k = match k with
    | .inl i => if i ∈ ys then some ((valV kvs (Sum.inl i)).getD .non) else none
    | .inr _ => none
  | [], k => by cases k <;> simp [sel, valV_nil]
  | y :: r, k => by
    have ih := sel_val kvs r k
    show valV ((Sum.inl y, _) :: sel kvs r) k = _
    by_cases c : (Sum.inl y : Key) = k
    · subst c
      rw [valV_pos rfl]; simp
    · rw [valV_neg c, ih]
      cases k with
      | inl i =>
        have n : ¬ i = y := fun e => c (by rw [e])
        simp [n]
      | inr x => rfl
theorem sel_told {kvs : List (Key × V)} {ks ys : List Int} (hk : kvs.map (·.1) = ks.map Sum.inl) (nd : (kvs.map (·.1)).Nodup) (hp : ys.Perm ks) : Told kvs (sel kvs ys) ∧ IntD (sel kvs ys) := by
  have nk : ks.Nodup := inl_nd.mp (hk ▸ nd)
  have ny : ys.Nodup := hp.nodup_iff.mpr nk
  have n2 : ((sel kvs ys).map (·.1)).Nodup := by rw [sel_keys]; exact inl_nd.mpr ny
  refine ⟨⟨?_, n2, fun k => ?_⟩, ⟨ys, sel_keys kvs ys⟩, n2⟩
  · unfold sel
    rw [List.length_map, hp.length_eq, ← List.length_map (f := (Sum.inl : Int → Key)), ← hk, List.length_map]
  · rw [sel_val]
    cases e : valV kvs k with
    | none =>
      cases k with
      | inl i =>
        have : i ∉ ys := fun m => valV_not e (by rw [hk]; exact List.mem_map_of_mem (hp.mem_iff.mp m))
        simp [this]
      | inr x => rfl
    | some v =>
      have m := valV_in e
      rw [hk] at m
      obtain ⟨i, hi, rfl⟩ := List.mem_map.mp m
      have : i ∈ ys := hp.mem_iff.mpr hi
      simp [this, e]
theorem sel_put {kvs : List (Key × V)} {ys : List Int} {j : Nat} {y : Int} {v : V} (ny : ys.Nodup) (h : ys[j]? = some y) (hv : valV kvs (Sum.inl y) = some v) : sel kvs (ys.take (j + 1)) = putK (sel kvs (ys.take j)) (Sum.inl y) v := by
  have nin : y ∉ ys.take j := fun m => by
    obtain ⟨i, hi, e⟩ := List.getElem_of_mem m
    have hi2 := hi
    rw [List.length_take] at hi2
    have e2 : ys[i]? = some y := by
      rw [List.getElem_take] at e
      rw [List.getElem?_eq_getElem (by omega), e]
    have := nd_ix (l := ys) (x := y) ny e2 h
    omega
  have e : valV (sel kvs (ys.take j)) (Sum.inl y) = none := by rw [sel_val]; simp [nin]
  rw [putK_new v e, take_snoc h]
  unfold sel
  rw [List.map_append]
  simp [hv]
theorem ok_Store_rooms (T : Txt w K mg A) : FnOk P w K mg base CX0 3 A.a_Store_rooms A.d_Store_rooms ["self"] (spRooms A) := by
  refine T.F_Store_rooms.ok sc_Store_rooms (fun vs H Q E h => ?_) (fun cdv A' outer s H vs Q E hr h => ?_)
  · obtain ⟨p, m, r, h', kvs, rfl, _⟩ := h
    rfl
  · obtain ⟨p, m, r, h', kvs, rfl, ⟨dx, hp⟩, hrr, ⟨⟨ks, hks⟩, nd⟩, hl, k⟩ := h
    have hu := hu_of hr
    have cl := T.cl_Store; have n2 := T.no_Store_own_rooms; have f2 := sf_rooms m r h'
    have hkl : ks.length < 64 := by
      have e := congrArg List.length hks
      rw [List.length_map, List.length_map] at e
      omega
    refine ⟨_, (pss_one (ps_ret (pe_dc (own := [("room", 1)]) rfl sc_Store_rooms.nd (pi_w (pi_list (pe_callB (call_sortedDI rfl) (by rfl) T.n_sorted (by decide +kernel) (pa_cons (pe_fld (pv 0) rfl) pa_nil)))) (blkOk_by (own := [("room", 1)]) (N := n_Store_rooms) (sc := defScope s_Store_rooms) (by decide +kernel)) (fun _ _ _ _ _ => viaG (pg_name (i := 1) sc_Store_rooms.nd rfl (Or.inl rfl)) (by first | rfl | (dsimp only [Cx.blk]; done) | (dsimp only [Cx.blk]; rfl))) (fun _ _ _ _ _ => viaT pts_nil (by first | rfl | (dsimp only [Cx.blk]; done) | (dsimp only [Cx.blk]; rfl))) (fun _ _ _ _ _ => viaE (pv 1) (by first | rfl | (dsimp only [Cx.blk]; done) | (dsimp only [Cx.blk]; rfl))) (fun _ _ _ _ _ => viaE (pe_dget hu (pe_fld (pv 0) rfl) (pv 1) (fun _ _ => rfl)) (by first | rfl | (dsimp only [Cx.blk]; done) | (dsimp only [Cx.blk]; rfl)))))), ?_⟩
    walk_at "go"
    intro ys L hperm _ hL
    obtain ⟨told, isd⟩ := sel_told hks nd hperm
    have nk : ks.Nodup := inl_nd.mp (hks ▸ nd)
    have ny : ys.Nodup := hperm.nodup_iff.mpr nk
    have hyl := hperm.length_eq
    have s1 := same_new (o := .lst (ys.map V.int)) hL
    have hL1 : upd H L (.lst (ys.map V.int)) L = some (.lst (ys.map V.int)) := upd_same
    have hp1 := s1 _ _ hp
    have hr1 := s1 _ _ hrr
    have ys1 : ∃ xs, SqL K (upd H L (.lst (ys.map V.int))) L xs := ⟨_, SqL.of hL1⟩
    generalize upd H L (.lst (ys.map V.int)) = H1 at *
    walk_at "go"
    refine Wrap.mk fun D hD => ?_
    refine dc_it (walk_list (xs := ys.map V.int)) (CD H1 D fun j => sel kvs (ys.take j)) (.start hD rfl) (fun j H2 _ c => SqL.of (c.sm _ _ hL1)) ?_ ?_
    · rintro j v H2 H3 hj c ⟨rfl, hx⟩
      rw [List.getElem?_map] at hx
      cases g : ys[j]? with
      | none => rw [g] at hx; cases hx
      | some y =>
        rw [g] at hx
        obtain rfl : V.int y = v := Option.some.inj hx
        have hp2 := c.sm _ _ hp1
        have hr2 := c.sm _ _ hr1
        have hD2 := c.at_
        obtain ⟨v, hv⟩ : ∃ v, valV kvs (Sum.inl y) = some v := by
          have hm : (Sum.inl y : Key) ∈ kvs.map (·.1) := by rw [hks]; exact List.mem_map_of_mem (hperm.mem_iff.mp (List.mem_of_getElem? g))
          cases e : valV kvs (Sum.inl y) with
          | none => exact absurd hm (valV_not e)
          | some v => exact ⟨v, rfl⟩
        have dg : DGet H3 r (.int y) (some v) := by rw [← hv]; exact DGet.k (k := Sum.inl y) hr2
        have ek : V.int y = kV (Sum.inl y) := rfl
        have hz : (sel kvs (ys.take j)).length < sizeLine := by
          unfold sel
          rw [List.length_map, List.length_take]
          exact small1000 (by omega)
        have hpush : CD H1 D (fun j => sel kvs (ys.take j)) (j + 1) (upd H3 D (.dK (putK (sel kvs (ys.take j)) (Sum.inl y) v))) := c.push (Same.refl _) (sel_put ny g hv)
        walk_at "go"
        exact hpush
    · intro H2 c
      have hD2 := c.at_
      rw [List.length_map, List.take_length] at hD2
      have hDn : H D = none := by
        cases e : H D with
        | none => rfl
        | some u => rw [s1 _ _ e] at hD; cases hD
      exact k H2 D _ (s1.trans c.sm) hDn hD2 told isd
theorem ok_Store_len (T : Txt w K mg A) : FnOk P w K mg base CX0 1 A.a_Store___len__ A.d_Store___len__ ["self"] (spLen A) := by
  refine T.F_Store___len__.ok sc_Store___len__ (fun vs H Q E h => ?_) (fun cdv A' outer s H vs Q E hr h => ?_)
  · obtain ⟨p, m, r, h', kvs, rfl, _⟩ := h
    rfl
  · obtain ⟨p, m, r, h', kvs, rfl, ⟨dx, hp⟩, hrr, k⟩ := h
    have cl := T.cl_Store; have n2 := T.no_Store_own_rooms; have f2 := sf_rooms m r h'
    refine ⟨_, (pss_one (ps_ret (pe_callB call_lenD (by rfl) T.n_len PySem.boot_len (pa_cons (pe_fld (pv 0) rfl) pa_nil)))), ?_⟩
    walk_at "go"
    exact k

/-! ### the store's slots -/
def spLookS (K : PySem.W.Frag) (A : Adr) : Sp := fun vs H Q E => ∃ (p : Addr) (m : Int) (r h : Addr) (kvs : List (Key × V)) (x : V) (d : PyData), vs = [.ref p, x] ∧ SObj A.c_Store H p m r h ∧ H h = some (.dK kvs) ∧ Dp K H x d ∧
  (inK kvs d = true → Q .non H) ∧ (inK kvs d = false → Refuse A.c_NoSlot "slot" x E H)
def spNewSlot (K : PySem.W.Frag) (A : Adr) : Sp := fun vs H Q E => ∃ (p : Addr) (m : Int) (r h : Addr) (kvs hvs : List (Key × V)) (x : V) (d : PyData), vs = [.ref p, x] ∧ SObj A.c_Store H p m r h ∧ H r = some (.dK kvs) ∧ H h = some (.dK hvs) ∧ hvs.length < 100000 ∧ Dp K H x d ∧
  (inK kvs d = true → ∀ n : Nat, LeastOf hvs n → Q (.int (n : Int)) (upd H h (.dK (putK hvs (Sum.inl (n : Int)) x)))) ∧ (inK kvs d = false → Refuse A.c_NoRoom "room" x E H)
def spDrop (K : PySem.W.Frag) (A : Adr) : Sp := fun vs H Q E => ∃ (p : Addr) (m : Int) (r h : Addr) (kvs : List (Key × V)) (x : V) (d : PyData), vs = [.ref p, x] ∧ SObj A.c_Store H p m r h ∧ H h = some (.dK kvs) ∧ Dp K H x d ∧
  (∀ (i : Int) (v : V), d = .int i → 0 ≤ i → valV kvs (Sum.inl i) = some v → Q v (upd H h (.dK (dropK kvs (Sum.inl i))))) ∧ (inK kvs d = false → Refuse A.c_NoSlot "slot" x E H)
def spLoad (K : PySem.W.Frag) (A : Adr) : Sp := fun vs H Q E => ∃ (p : Addr) (m : Int) (r h : Addr) (kvs : List (Key × V)) (x : V) (d : PyData), vs = [.ref p, x] ∧ SObj A.c_Store H p m r h ∧ H h = some (.dK kvs) ∧ Dp K H x d ∧
  (∀ (i : Int) (v : V), d = .int i → 0 ≤ i → valV kvs (Sum.inl i) = some v → Q v H) ∧ (inK kvs d = false → Refuse A.c_NoSlot "slot" x E H)
/-- a new head where the old one stands -/
def spSwap (K : PySem.W.Frag) (A : Adr) : Sp := fun vs H Q E => ∃ (p : Addr) (m : Int) (r h : Addr) (kvs hvs : List (Key × V)) (x y z : V) (d e f : PyData), vs = [.ref p, x, y, z] ∧ SObj A.c_Store H p m r h ∧ H r = some (.dK kvs) ∧ H h = some (.dK hvs) ∧ hvs.length < 100000 ∧ Dp K H x d ∧ Dp K H y e ∧ Dp K H z f ∧
  (∀ k v, valV hvs k = some v → ∃ j, v = .int j ∧ 0 ≤ j) ∧
  (inK hvs d = false → Refuse A.c_NoSlot "slot" x E H) ∧ (inK hvs d = true → inK kvs f = false → Refuse A.c_NoRoom "room" z E H) ∧
  (inK hvs d = true → inK kvs f = true → ∀ i j : Int, d = .int i → valV hvs (Sum.inl i) = some (.int j) → (e ≠ .int j → Q (.bl false) H) ∧ (e = .int j → Q (.bl true) (upd H h (.dK (putK hvs (Sum.inl i) z)))))
def spHeads (A : Adr) : Sp := fun vs H Q _ => ∃ (p : Addr) (m : Int) (r h : Addr) (kvs : List (Key × V)), vs = [.ref p] ∧ SObj A.c_Store H p m r h ∧ H h = some (.dK kvs) ∧ IntD kvs ∧ kvs.length < 64 ∧
  ∀ (H' : Hp) (d : Addr) (kvs' : List (Key × V)), Same H H' → H d = none → H' d = some (.dK kvs') → Told kvs kvs' → IntD kvs' → Q (.ref d) H'
theorem ok_Store_look_at_slot (T : Txt w K mg A) : FnOk P w K mg base (L2.CX P w) 4 A.a_Store_look_at_slot A.d_Store_look_at_slot ["self", "slot"] (spLookS K A) := by
  refine T.F_Store_look_at_slot.okX sc_Store_look_at_slot (fun vs H Q E h => ?_) (fun cdv A' outer s H vs Q E hr h => ?_)
  · obtain ⟨p, m, r, h', kvs, x, d, rfl, _⟩ := h
    rfl
  · obtain ⟨p, m, r, h', kvs, x, d, rfl, ⟨dx, hp⟩, hrr, hd, k1, k2⟩ := h
    have hu := hu_of hr
    have cl := T.cl_Store; have n2 := T.no_Store_own_heads; have f2 := sf_heads m r h'
    have hno : inK kvs d = false → ([x] : List V).length ≤ 1000 ∧ _ := fun e => mk_err (k2 e)
    refine ⟨_, (pss_one (ps_if (PW.pt (pw_or (pt_not (pt_val (pe_call (ok_is_number T) (hr.mono (by decide)) rfl T.m_is_number T.F_is_number.kp T.b_is_number .nil pass0 (pa_cons (pv 1) pa_nil)))) (pw_or1 (pt_cmp (pc_dnotin hu (pv 1) (pe_fld (pv 0) rfl))))))
      (pss_one (ps_raise rfl (takes_of rfl rfl rfl rfl) (ER.pmk_own T.ow_NoSlot T.ic_NoSlot T.ti_NoSlot (ok_NoSlot_init T) (hr.mono (by decide)) T.b_NoSlot_init .nil pass0 (by rfl) T.mg_NoSlot (pa_cons (pv 1) pa_nil))))
      pss_nil)), ?_⟩
    walk_at "go"
    cases cn : numD d with
    | false =>
      with_reducible refine then_ rfl ?_
      walk_at "go"
      exact (hno (inK_no cn)).2
    | true =>
      obtain ⟨i, rfl, i0⟩ := num_int cn
      obtain rfl := dp_int hd
      have eI : inK kvs (.int i) = (valV kvs (Sum.inl i)).isSome := by show (decide (0 ≤ i) && _) = _; rw [decide_eq_true i0, Bool.true_and]
      have dg : DGet H h' (.int i) (valV kvs (Sum.inl i)) := DGet.k (k := Sum.inl i) hrr
      with_reducible refine else_ rfl ?_
      walk_at "go"
      cases c : valV kvs (Sum.inl i) with
      | none =>
        with_reducible refine then_ rfl ?_
        walk_at "go"
        exact (hno (by rw [eI, c]; rfl)).2
      | some v =>
        with_reducible refine else_ rfl ?_
        exact k1 (by rw [eI, c]; rfl)
theorem ok_Store_new_slot (T : Txt w K mg A) : FnOk P w K mg base (L2.CX P w) 8 A.a_Store_new_slot A.d_Store_new_slot ["self", "head"] (spNewSlot K A) := by
  refine T.F_Store_new_slot.okX sc_Store_new_slot (fun vs H Q E h => ?_) (fun cdv A' outer s H vs Q E hr h => ?_)
  · obtain ⟨p, m, r, h', kvs, hvs, x, d, rfl, _⟩ := h
    rfl
  · obtain ⟨p, m, r, h', kvs, hvs, x, d, rfl, ⟨dx, hp⟩, hrr, hhh, hkl, hd, k1, k2⟩ := h
    have hu := hu_of hr
    have cl := T.cl_Store; have n2 := T.no_Store_own_heads; have f2 := sf_heads m r h'
    have no : (sf m r h').lookup ("look_at_room" : Str) = none := sf_no _ _ _ (by decide +kernel) (by decide +kernel) (by decide +kernel)
    refine ⟨_, (pss_cons (ps_expr (pe_meth (pv 0) T.cl_Store T.me_Store_look_at_room (ok_Store_look_at_room T) (hr.mono (by decide)) T.b_Store_look_at_room .nil (passes_call (takes_of rfl rfl rfl rfl) fun _ _ _ _ h => h) (pa_cons (pv 1) pa_nil)))
      (pss_cons (ps_set (i := 2) sc_Store_new_slot.nd rfl (Or.inl rfl) (pe_call (ok_least_free T) (hr.mono (by decide)) rfl T.m_least_free T.F_least_free.kp T.b_least_free .nil pass0 (pa_cons (pe_fld (pv 0) rfl) pa_nil)))
      (pss_cons (ps_dput hu (pe_fld (pv 0) rfl) (pv 2) (pv 1) rfl)
      (pss_one (ps_ret (pv 2)))))), ?_⟩
    walk_at "go"
    refine ⟨fun c => ?_, k2⟩
    walk_at "go"
    intro n hn
    have dp : DPut H h' (.int (n : Int)) x (upd H h' (.dK (putK hvs (Sum.inl (n : Int)) x))) := DPut.k (k := Sum.inl (n : Int)) hhh (Nat.lt_of_lt_of_le hkl (by decide))
    have q := k1 c n hn
    walk_at "go"
    exact q
theorem ok_Store_drop (T : Txt w K mg A) : FnOk P w K mg base (L2.CX P w) 8 A.a_Store_drop A.d_Store_drop ["self", "slot"] (spDrop K A) := by
  refine T.F_Store_drop.okX sc_Store_drop (fun vs H Q E h => ?_) (fun cdv A' outer s H vs Q E hr h => ?_)
  · obtain ⟨p, m, r, h', kvs, x, d, rfl, _⟩ := h
    rfl
  · obtain ⟨p, m, r, h', kvs, x, d, rfl, ⟨dx, hp⟩, hrr, hd, k1, k2⟩ := h
    have cl := T.cl_Store; have n2 := T.no_Store_own_heads; have f2 := sf_heads m r h'
    have no : (sf m r h').lookup ("look_at_slot" : Str) = none := sf_no _ _ _ (by decide +kernel) (by decide +kernel) (by decide +kernel)
    refine ⟨_, (pss_cons (ps_expr (pe_meth (pv 0) T.cl_Store T.me_Store_look_at_slot (ok_Store_look_at_slot T) (hr.mono (by decide)) T.b_Store_look_at_slot .nil (passes_call (takes_of rfl rfl rfl rfl) fun _ _ _ _ h => h) (pa_cons (pv 1) pa_nil)))
      (pss_one (ps_ret (pe_dpop1 (pe_fld (pv 0) rfl) (pv 1) ⟨rfl, rfl, rfl, rfl⟩)))), ?_⟩
    walk_at "go"
    refine ⟨fun c => ?_, k2⟩
    obtain ⟨i, v, rfl, i0, hv⟩ := inK_int c
    obtain rfl := dp_int hd
    have q := k1 i v rfl i0 hv
    walk_at "go"
    have ek : V.int i = kV (Sum.inl i) := rfl
    walk_at "go"
    exact q
theorem ok_Store_swap (T : Txt w K mg A) : FnOk P w K mg base (L2.CX P w) 8 A.a_Store_swap A.d_Store_swap ["self", "slot", "old", "new"] (spSwap K A) := by
  refine T.F_Store_swap.okX sc_Store_swap (fun vs H Q E h => ?_) (fun cdv A' outer s H vs Q E hr h => ?_)
  · obtain ⟨p, m, r, h', kvs, hvs, x, y, z, d, e, f, rfl, _⟩ := h
    rfl
  · obtain ⟨p, m, r, h', kvs, hvs, x, y, z, d, e, f, rfl, ⟨dx, hp⟩, hrr, hhh, hkl, hd, he, hf, hj, k1, k2, k3⟩ := h
    have hu := hu_of hr
    have cl := T.cl_Store; have n2 := T.no_Store_own_heads; have f2 := sf_heads m r h'
    have no : (sf m r h').lookup ("look_at_room" : Str) = none := sf_no _ _ _ (by decide +kernel) (by decide +kernel) (by decide +kernel)
    have no2 : (sf m r h').lookup ("look_at_slot" : Str) = none := sf_no _ _ _ (by decide +kernel) (by decide +kernel) (by decide +kernel)
    refine ⟨_, (pss_cons (ps_expr (pe_meth (pv 0) T.cl_Store T.me_Store_look_at_slot (ok_Store_look_at_slot T) (hr.mono (by decide)) T.b_Store_look_at_slot .nil (passes_call (takes_of rfl rfl rfl rfl) fun _ _ _ _ h => h) (pa_cons (pv 1) pa_nil)))
      (pss_cons (ps_expr (pe_meth (pv 0) T.cl_Store T.me_Store_look_at_room (ok_Store_look_at_room T) (hr.mono (by decide)) T.b_Store_look_at_room .nil (passes_call (takes_of rfl rfl rfl rfl) fun _ _ _ _ h => h) (pa_cons (pv 3) pa_nil)))
      (pss_cons (ps_if (PW.pt (pw_or (pt_not (pt_val (pe_call (ok_is_number T) (hr.mono (by decide)) rfl T.m_is_number T.F_is_number.kp T.b_is_number .nil pass0 (pa_cons (pv 2) pa_nil)))) (pw_or1 (pt_cmpR op_ne (pe_dget hu (pe_fld (pv 0) rfl) (pv 1) (fun _ _ => rfl)) (pv 2) (nomark _)))))
      (pss_one (ps_ret pe_bl))
      pss_nil)
      (pss_cons (ps_dput hu (pe_fld (pv 0) rfl) (pv 1) (pv 3) rfl)
      (pss_one (ps_ret pe_bl)))))), ?_⟩
    walk_at "go"
    refine ⟨fun c => ?_, k1⟩
    walk_at "go"
    refine ⟨fun c2 => ?_, k2 c⟩
    obtain ⟨i, v, rfl, i0, hv⟩ := inK_int c
    obtain rfl := dp_int hd
    obtain ⟨j, rfl, j0⟩ := hj _ _ hv
    have q := k3 c c2 i j rfl hv
    clear k1 k2 k3
    have dp : DPut H h' (.int i) z (upd H h' (.dK (putK hvs (Sum.inl i) z))) := DPut.k (k := Sum.inl i) hhh (Nat.lt_of_lt_of_le hkl (by decide))
    have dg : DGet H h' (.int i) (some (.int j)) := by rw [← hv]; exact DGet.k (k := Sum.inl i) hhh
    walk_at "go"
    cases cn : numD e with
    | false =>
      with_reducible refine then_ rfl ?_
      walk_at "go"
      exact q.1 (fun z => by rw [z] at cn; have cn : decide (0 ≤ j) = false := cn; rw [decide_eq_true j0] at cn; cases cn)
    | true =>
      obtain ⟨l, rfl, l0⟩ := num_int cn
      obtain rfl := dp_int he
      with_reducible refine else_ rfl ?_
      walk_at "go"
      by_cases c3 : j = l
      · subst c3
        with_reducible refine else_ (by simp) ?_
        walk_at "go"
        exact q.2 rfl
      · with_reducible refine then_ (by simpa using c3) ?_
        walk_at "go"
        exact q.1 (fun z => c3 (PyData.int.inj z).symm)
theorem ok_Store_heads (T : Txt w K mg A) : FnOk P w K mg base CX0 3 A.a_Store_heads A.d_Store_heads ["self"] (spHeads A) := by
  refine T.F_Store_heads.ok sc_Store_heads (fun vs H Q E h => ?_) (fun cdv A' outer s H vs Q E hr h => ?_)
  · obtain ⟨p, m, r, h', kvs, rfl, _⟩ := h
    rfl
  · obtain ⟨p, m, r, h', kvs, rfl, ⟨dx, hp⟩, hrr, ⟨⟨ks, hks⟩, nd⟩, hl, k⟩ := h
    have hu := hu_of hr
    have cl := T.cl_Store; have n2 := T.no_Store_own_heads; have f2 := sf_heads m r h'
    have hkl : ks.length < 64 := by
      have e := congrArg List.length hks
      rw [List.length_map, List.length_map] at e
      omega
    refine ⟨_, (pss_one (ps_ret (pe_dc (own := [("slot", 1)]) rfl sc_Store_heads.nd (pi_w (pi_list (pe_callB (call_sortedDI rfl) (by rfl) T.n_sorted (by decide +kernel) (pa_cons (pe_fld (pv 0) rfl) pa_nil)))) (blkOk_by (own := [("slot", 1)]) (N := n_Store_heads) (sc := defScope s_Store_heads) (by decide +kernel)) (fun _ _ _ _ _ => viaG (pg_name (i := 1) sc_Store_heads.nd rfl (Or.inl rfl)) (by first | rfl | (dsimp only [Cx.blk]; done) | (dsimp only [Cx.blk]; rfl))) (fun _ _ _ _ _ => viaT pts_nil (by first | rfl | (dsimp only [Cx.blk]; done) | (dsimp only [Cx.blk]; rfl))) (fun _ _ _ _ _ => viaE (pv 1) (by first | rfl | (dsimp only [Cx.blk]; done) | (dsimp only [Cx.blk]; rfl))) (fun _ _ _ _ _ => viaE (pe_dget hu (pe_fld (pv 0) rfl) (pv 1) (fun _ _ => rfl)) (by first | rfl | (dsimp only [Cx.blk]; done) | (dsimp only [Cx.blk]; rfl)))))), ?_⟩
    walk_at "go"
    intro ys L hperm _ hL
    obtain ⟨told, isd⟩ := sel_told hks nd hperm
    have nk : ks.Nodup := inl_nd.mp (hks ▸ nd)
    have ny : ys.Nodup := hperm.nodup_iff.mpr nk
    have hyl := hperm.length_eq
    have s1 := same_new (o := .lst (ys.map V.int)) hL
    have hL1 : upd H L (.lst (ys.map V.int)) L = some (.lst (ys.map V.int)) := upd_same
    have hp1 := s1 _ _ hp
    have hr1 := s1 _ _ hrr
    have ys1 : ∃ xs, SqL K (upd H L (.lst (ys.map V.int))) L xs := ⟨_, SqL.of hL1⟩
    generalize upd H L (.lst (ys.map V.int)) = H1 at *
    walk_at "go"
    refine Wrap.mk fun D hD => ?_
    refine dc_it (walk_list (xs := ys.map V.int)) (CD H1 D fun j => sel kvs (ys.take j)) (.start hD rfl) (fun j H2 _ c => SqL.of (c.sm _ _ hL1)) ?_ ?_
    · rintro j v H2 H3 hj c ⟨rfl, hx⟩
      rw [List.getElem?_map] at hx
      cases g : ys[j]? with
      | none => rw [g] at hx; cases hx
      | some y =>
        rw [g] at hx
        obtain rfl : V.int y = v := Option.some.inj hx
        have hp2 := c.sm _ _ hp1
        have hr2 := c.sm _ _ hr1
        have hD2 := c.at_
        obtain ⟨v, hv⟩ : ∃ v, valV kvs (Sum.inl y) = some v := by
          have hm : (Sum.inl y : Key) ∈ kvs.map (·.1) := by rw [hks]; exact List.mem_map_of_mem (hperm.mem_iff.mp (List.mem_of_getElem? g))
          cases e : valV kvs (Sum.inl y) with
          | none => exact absurd hm (valV_not e)
          | some v => exact ⟨v, rfl⟩
        have dg : DGet H3 h' (.int y) (some v) := by rw [← hv]; exact DGet.k (k := Sum.inl y) hr2
        have ek : V.int y = kV (Sum.inl y) := rfl
        have hz : (sel kvs (ys.take j)).length < sizeLine := by
          unfold sel
          rw [List.length_map, List.length_take]
          exact small1000 (by omega)
        have hpush : CD H1 D (fun j => sel kvs (ys.take j)) (j + 1) (upd H3 D (.dK (putK (sel kvs (ys.take j)) (Sum.inl y) v))) := c.push (Same.refl _) (sel_put ny g hv)
        walk_at "go"
        exact hpush
    · intro H2 c
      have hD2 := c.at_
      rw [List.length_map, List.take_length] at hD2
      have hDn : H D = none := by
        cases e : H D with
        | none => rfl
        | some u => rw [s1 _ _ e] at hD; cases hD
      exact k H2 D _ (s1.trans c.sm) hDn hD2 told isd

theorem ok_pool (T : Txt w K mg A) : FnOk P w K mg base CX0 1 A.a_pool A.d_pool ["_law_script", "_law_k"] (spPool K) := by
  refine T.F_pool.ok sc_pool (fun vs H Q E h => ?_) (fun cdv A' outer s H vs Q E hr h => ?_)
  · obtain ⟨a, ns, k, rfl, _⟩ := h
    rfl
  · obtain ⟨a, ns, k, rfl, hS, hl, hk, q⟩ := h
    have ek : (7919 : Int) * k < 1000000 := by omega
    refine ⟨_, (pss_cons (ps_set (i := 2) sc_pool.nd rfl (Or.inl rfl) pe_int)
      (cutAt (ps_if (pt_cmpR op_lt (pv 1) (pe_callB call_len_seq (by rfl) T.n_len PySem.boot_len (pa_cons (pv 0) pa_nil)) (nomark _))
      (pss_one (ps_set (i := 2) sc_pool.nd rfl (Or.inl rfl) (pe_ix ix_list (pv 0) (pv 1) (fun _ _ => rfl))))
      pss_nil)
      (pss_cons (ps_set (i := 3) sc_pool.nd rfl (Or.inl rfl) (pe_op op_mod (pe_op op_mul (pe_op op_add (pe_op op_add (pe_op op_mod (pv 2) pe_int) (pe_op op_mul (pe_op op_mul pe_int (pv 1)) (pv 1))) pe_int) pe_int) pe_int))
      (cutAt (ps_if (pt_cmpR op_lt (pv 2) (pe_op op_pow pe_int pe_int) (nomark _))
      (pss_one (ps_set (i := 2) sc_pool.nd rfl (Or.inl rfl) pe_int))
      pss_nil)
      (pss_one (ps_ret (pe_lst (pa_cons (pv 2) (pa_cons (pe_op op_add (pe_op op_mod (pe_op op_mul (pv 3) (pv 3)) pe_int) pe_int) pa_nil))))))))), ?_⟩
    refine ⟨fun σ H' => ∃ c : Int, σ = [some (.ref a), some (.int k), some (.int c), none] ∧ H' = H, ?_, ?_⟩
    · walk_at "go"
      refine ite2 (fun c => ?_) (fun c => ?_)
      · have c : (k : Int) < (ns.map V.int).length := of_decide_eq_true c
        rw [List.length_map] at c
        have hx : atI (ns.map V.int) (k : Int) = some (.int (ns[k]'(by omega))) := atI_nat (by rw [List.getElem?_map, List.getElem?_eq_getElem (by omega)]; rfl)
        walk_at "go"
        rfl
      · walk_at "go"
        rfl
    · rintro σ H' ⟨c, rfl, rfl⟩
      walk_at "go"
      show Cut _ _ _ [some (.ref a), some (.int k), some (.int c), some (.int ((c % 2147483629 + 7919 * (k : Int) * k + 11) * 48271 % 2147483647))] H'
      generalize hs : (c % 2147483629 + 7919 * (k : Int) * k + 11) * 48271 % 2147483647 = sd
      have h0 : 0 ≤ sd ∧ sd < 2147483647 := by omega
      refine ⟨fun σ H'' => ∃ c' : Int, σ = [some (.ref a), some (.int k), some (.int c'), some (.int sd)] ∧ H'' = H' ∧ 0 ≤ c', ?_, ?_⟩
      · walk_at "go"
        refine ite2 (fun c => ?_) (fun c => ?_)
        · walk_at "go"
          exact Int.le_refl _
        · walk_at "go"
          have c := of_decide_eq_false (Bool.eq_false_iff.mpr c)

          have e : (10 : Int) ^ (18 : Int).toNat = 1000000000000000000 := by decide
          omega
      · rintro σ H'' ⟨c', rfl, rfl, c0⟩
        walk_at "go"
        exact fun p hp => q p c' (sd * sd % 2147483587 + 1) hp c0 (by omega) (by omega)
theorem ok_take (T : Txt w K mg A) : FnOk P w K mg base CX0 1 A.a_take A.d_take ["_law_pool_here", "_law_many"] spTake := by
  refine T.F_take.ok sc_take (fun vs H Q E h => ?_) (fun cdv A' outer s H vs Q E hr h => ?_)
  · obtain ⟨q, m, rfl, _⟩ := h
    rfl
  · obtain ⟨q, m, rfl, ⟨c, s, hq, h1, h2, h3⟩, m0, m1, k⟩ := h
    refine ⟨_, (pss_cons (ps_if (pt_cmpR op_gt (pe_ix ix_list (pv 0) pe_int (fun _ _ => rfl)) pe_int (nomark _))
      (pss_cons (ps_set (i := 2) sc_take.nd rfl (Or.inl rfl) (pe_op op_mod (pe_ix ix_list (pv 0) pe_int (fun _ _ => rfl)) (pv 1)))
      (pss_cons (ps_asg (pe_op op_fdiv (pe_ix ix_list (pv 0) pe_int (fun _ _ => rfl)) (pv 1)) (pg_sub (pv 0) pe_int set_list))
      (pss_one (ps_ret (pv 2)))))
      pss_nil)
      (pss_cons (ps_asg (pe_op op_mod (pe_op op_add (pe_op op_mul (pe_ix ix_list (pv 0) pe_int (fun _ _ => rfl)) pe_int) pe_int) pe_int) (pg_sub (pv 0) pe_int set_list))
      (pss_one (ps_ret (pe_op op_mod (pe_op op_fdiv (pe_op op_mod (pe_op op_mul (pe_ix ix_list (pv 0) pe_int (fun _ _ => rfl)) (pe_ix ix_list (pv 0) pe_int (fun _ _ => rfl))) pe_int) pe_int) (pv 1)))))), ?_⟩
    walk_at "go"
    refine ite2 (fun cp => ?_) (fun cp => ?_)
    · have cp : 0 < c := of_decide_eq_true cp
      walk_at "go"
      exact k (c % m) (c / m) s (Int.emod_nonneg _ (by omega)) (Int.emod_lt_of_pos _ m0) (Int.ediv_nonneg h1 (by omega)) h2 h3
    · walk_at "go"
      have z : ∀ r : Int, 0 ≤ r → r < m → Q (.int r) (upd H q (.lst [.int c, .int ((s * 48271 + 12345) % 2147483647)])) := fun r r0 r1 => k r c _ r0 r1 h1 (Int.emod_nonneg _ (by decide)) (by omega)
      exact z _ (Int.emod_nonneg _ (by omega)) (Int.emod_lt_of_pos _ m0)

/-! ### the drawing of records -/
structure Drew (H H' : Hp) (q : Addr) : Prop where
  pool : PoolAt H' q
  kp : ∀ b u, b ≠ q → H b = some u → H' b = some u
theorem Drew.refl {H : Hp} {q : Addr} (h : PoolAt H q) : Drew H H q := ⟨h, fun _ _ _ e => e⟩
theorem Drew.trans {H H' H'' : Hp} {q : Addr} (a : Drew H H' q) (b : Drew H' H'' q) : Drew H H'' q := ⟨b.pool, fun c u n e => b.kp c u n (a.kp c u n e)⟩
theorem PoolAt.some {H : Hp} {q : Addr} (h : PoolAt H q) : ∃ xs, H q = some (.lst xs) := by
  obtain ⟨_, _, e, _⟩ := h
  exact ⟨_, e⟩
theorem PoolAt.same {H H' : Hp} {q : Addr} (h : PoolAt H q) (s : Same H H') : PoolAt H' q := by
  obtain ⟨c, d, e, r⟩ := h
  exact ⟨c, d, s _ _ e, r⟩
theorem PoolAt.ne {H : Hp} {q a : Addr} (h : PoolAt H q) (e : H a = none) : a ≠ q := fun z => by
  obtain ⟨_, e2⟩ := h.some
  rw [← z, e] at e2; cases e2
theorem Drew.same {H H' H'' : Hp} {q : Addr} (a : Drew H H' q) (s : Same H' H'') : Drew H H'' q := ⟨a.pool.same s, fun c u n e => s _ _ (a.kp c u n e)⟩
theorem Drew.new {H H' : Hp} {q a : Addr} {o : HO} (d : Drew H H' q) (h : H' a = none) : Drew H (upd H' a o) q := d.same (same_new h)
/-- what is drawn upon may be written anew, where it is new -/
theorem Drew.upd {H H' : Hp} {q a : Addr} {o : HO} (d : Drew H H' q) (h : H a = none) (n : a ≠ q) : Drew H (upd H' a o) q := by
  obtain ⟨c, e, f, r⟩ := d.pool
  exact ⟨⟨c, e, by rw [upd_ne (Ne.symm n)]; exact f, r⟩, fun b u m e => by rw [upd_ne (ne_of_none e h)]; exact d.kp b u m e⟩
def spTakeD : Sp := fun vs H Q _ => ∃ (q : Addr) (m : Int), vs = [.ref q, .int m] ∧ PoolAt H q ∧ 0 < m ∧ m < 1073741824 ∧ ∀ (r : Int) (H' : Hp), 0 ≤ r → r < m → Drew H H' q → Q (.int r) H'
theorem ok_takeD (T : Txt w K mg A) : FnOk P w K mg base CX0 1 A.a_take A.d_take ["_law_pool_here", "_law_many"] spTakeD :=
  (ok_take T).imp fun vs H Q E h => by
    obtain ⟨q, m, e, hp, m0, m1, k⟩ := h
    exact ⟨q, m, e, hp, m0, m1, fun r c s r0 r1 c0 s0 s1 => k r _ r0 r1 ⟨⟨c, s, upd_same, c0, s0, s1⟩, fun b u n e => by rw [upd_ne n]; exact e⟩⟩

/-! ### data that are small: how long their text is, at most -/
abbrev IB (i : Int) : Prop := -1000000000000000000000000000000000000 < i ∧ i < 1000000000000000000000000000000000000
structure Sm (n k : Nat) (d : PyData) : Prop where
  ls : d.leavesShort 40 = true
  sh : d.showable = true
  wt : d.weight ≤ n
  dp : d.depth ≤ k
structure SmAll (n k : Nat) (ds : List PyData) : Prop where
  ls : PyData.leavesShortAll 40 ds = true
  sh : PyData.showableAll ds = true
  wt : PyData.weightAll ds ≤ n
  dp : PyData.depthAll ds ≤ k
theorem ib_nat {i : Int} (h : IB i) : i.natAbs < 10 ^ 36 := by
  have e : (10 : Nat) ^ 36 = 1000000000000000000000000000000000000 := by decide
  rw [e]
  obtain ⟨h1, h2⟩ := h
  omega
theorem ib_log {i : Int} (h : IB i) : i.natAbs.log2 < 120 := by
  have h1 : i.natAbs < 2 ^ 120 := Nat.lt_of_lt_of_le (ib_nat h) (by decide)
  by_cases c : i.natAbs = 0
  · rw [c]; decide
  · exact (Nat.log2_lt c).mpr h1
theorem Sm.int {i : Int} (h : IB i) : Sm 120 0 (.int i) := by
  refine ⟨?_, ?_, ?_, ?_⟩
  · have e : (PyData.shown (.int i)).length ≤ 40 := by
      rw [PyData.shown_int, ofString_length]
      exact Nat.le_trans (int_text_length_le10 (k := 36) (by decide) (ib_nat h)) (by decide)
    simpa only [PyData.leavesShort, decide_eq_true_eq] using e
  · simp only [PyData.showable, decide_eq_true_eq]
    have := ib_log h
    omega
  · simp only [PyData.weight]
    have := ib_log h
    split <;> omega
  · simp only [PyData.depth]; exact Nat.le_refl _
theorem Sm.non : Sm 0 0 .none := by
  refine ⟨?_, ?_, ?_, ?_⟩ <;> simp [PyData.leavesShort, PyData.showable, PyData.weight, PyData.depth]
theorem Sm.str {z : Str} (h : (PyData.str z).leavesShort 40 = true) : Sm z.cps.size 0 (.str z) :=
  ⟨h, by simp only [PyData.showable], by simp only [PyData.weight]; exact Nat.le_refl _, by simp only [PyData.depth]; exact Nat.le_refl _⟩
theorem SmAll.nil : SmAll 0 0 [] := by
  refine ⟨?_, ?_, ?_, ?_⟩ <;> simp [PyData.leavesShortAll, PyData.showableAll, PyData.weightAll, PyData.depthAll]
theorem Sm.mono {n k n' k' : Nat} {d : PyData} (h : Sm n k d) (hn : n ≤ n') (hk : k ≤ k') : Sm n' k' d := ⟨h.ls, h.sh, Nat.le_trans h.wt hn, Nat.le_trans h.dp hk⟩
theorem SmAll.mono {n k n' k' : Nat} {d : List PyData} (h : SmAll n k d) (hn : n ≤ n') (hk : k ≤ k') : SmAll n' k' d := ⟨h.ls, h.sh, Nat.le_trans h.wt hn, Nat.le_trans h.dp hk⟩
theorem SmAll.cons {a b k : Nat} {d : PyData} {r : List PyData} (h : Sm a k d) (t : SmAll b k r) : SmAll (a + 1 + b) k (d :: r) := by
  refine ⟨?_, ?_, ?_, ?_⟩
  · simp only [PyData.leavesShortAll, h.ls, t.ls, Bool.and_self]
  · simp only [PyData.showableAll, h.sh, t.sh, Bool.and_self]
  · have h1 := h.wt; have h2 := t.wt; simp only [PyData.weightAll]; omega
  · have h1 := h.dp; have h2 := t.dp; simp only [PyData.depthAll]; omega
theorem Sm.tup {n k : Nat} {ds : List PyData} (h : SmAll n k ds) : Sm n (k + 1) (.tuple ds) := by
  refine ⟨?_, ?_, ?_, ?_⟩
  · simp only [PyData.leavesShort]; exact h.ls
  · simp only [PyData.showable]; exact h.sh
  · simp only [PyData.weight]; exact h.wt
  · have := h.dp; simp only [PyData.depth]; omega
theorem SmAll.of {n k : Nat} : ∀ {ds : List PyData}, (∀ d ∈ ds, Sm n k d) → SmAll ((n + 1) * ds.length) k ds
  | [], _ => SmAll.nil.mono (Nat.zero_le _) (Nat.zero_le _)
  | d :: r, h => by
    have t := SmAll.of (ds := r) fun e he => h e (List.mem_cons_of_mem _ he)
    refine (SmAll.cons (h d List.mem_cons_self) t).mono ?_ (Nat.le_refl _)
    rw [List.length_cons, Nat.mul_add, Nat.mul_one]
    omega
/-- a record that is drawn -/
abbrev SmR (d : PyData) : Prop := Sm 4000 4 d
def RowSm (d : PyData) : Prop := ∃ k v : Int, d = .tuple [.int k, .int v] ∧ IB k ∧ IB v
theorem RowSm.sm {d : PyData} (h : RowSm d) : Sm 300 1 d := by
  obtain ⟨k, v, rfl, h1, h2⟩ := h
  exact (Sm.tup (.cons (.int h1) (.cons (.int h2) .nil))).mono (by decide) (Nat.le_refl _)
theorem rows_sm {ds : List PyData} (hl : ds.length ≤ 9) (h : ∀ d ∈ ds, RowSm d) : Sm 2800 2 (.tuple ds) := by
  refine (Sm.tup (SmAll.of fun d hd => (h d hd).sm)).mono ?_ (Nat.le_refl _)
  have : (300 + 1) * ds.length ≤ (300 + 1) * 9 := Nat.mul_le_mul_left _ hl
  omega
def drawWords : List Str := ["leaf", "bough", "moved", "put", "take", "part", "entry", "less", "gone", "join", "joining", "lowering"]
theorem word_sm {z : Str} (h : z ∈ drawWords) : Sm 20 0 (.str z) := by
  have e : z = "leaf" ∨ z = "bough" ∨ z = "moved" ∨ z = "put" ∨ z = "take" ∨ z = "part" ∨ z = "entry" ∨ z = "less" ∨ z = "gone" ∨ z = "join" ∨ z = "joining" ∨ z = "lowering" := by simpa [drawWords] using h
  rcases e with rfl | rfl | rfl | rfl | rfl | rfl | rfl | rfl | rfl | rfl | rfl | rfl <;>
    exact (Sm.str (by simp only [PyData.leavesShort]; decide +kernel)).mono (by decide +kernel) (Nat.le_refl _)
theorem form_sm {z : Str} {ns : List Int} (hz : z ∈ drawWords) (hl : ns.length ≤ 4) (h : ∀ n ∈ ns, IB n) : SmR (.tuple (.str z :: ns.map .int)) := by
  have t : SmAll ((120 + 1) * (ns.map PyData.int).length) 0 (ns.map PyData.int) := SmAll.of fun d hd => by
    obtain ⟨n, hn, rfl⟩ := List.mem_map.mp hd
    exact .int (h n hn)
  refine (Sm.tup (SmAll.cons (word_sm hz) t)).mono ?_ (by decide)
  rw [List.length_map]
  have : (120 + 1) * ns.length ≤ (120 + 1) * 4 := Nat.mul_le_mul_left _ hl
  omega
/-- none, or a number -/
def OptI (d : PyData) : Prop := d = .none ∨ ∃ i, d = .int i ∧ IB i
theorem OptI.sm {d : PyData} (h : OptI d) : Sm 120 0 d := by
  rcases h with rfl | ⟨i, rfl, h⟩
  · exact Sm.non.mono (by decide) (Nat.le_refl _)
  · exact .int h
theorem leaf_sm {lo : Int} {hi ri : PyData} {ds : List PyData} (h0 : IB lo) (h1 : OptI hi) (h2 : OptI ri) (hl : ds.length ≤ 9) (h : ∀ d ∈ ds, RowSm d) : SmR (.tuple [.str "leaf", .int lo, hi, ri, .tuple ds]) :=
  (Sm.tup (.cons ((word_sm (by simp [drawWords])).mono (Nat.le_refl _) (by decide)) (.cons ((Sm.int h0).mono (Nat.le_refl _) (by decide)) (.cons (h1.sm.mono (Nat.le_refl _) (by decide)) (.cons (h2.sm.mono (Nat.le_refl _) (by decide)) (.cons ((rows_sm hl h).mono (Nat.le_refl _) (by decide : 2 ≤ 3)) (SmAll.nil.mono (Nat.le_refl _) (by decide)))))))).mono (by decide) (by decide)
theorem bough_sm {lv lo : Int} {hi ri : PyData} {ds : List PyData} (h9 : IB lv) (h0 : IB lo) (h1 : OptI hi) (h2 : OptI ri) (hl : ds.length ≤ 9) (h : ∀ d ∈ ds, RowSm d) : SmR (.tuple [.str "bough", .int lv, .int lo, hi, ri, .tuple ds]) :=
  (Sm.tup (.cons ((word_sm (by simp [drawWords])).mono (Nat.le_refl _) (by decide)) (.cons ((Sm.int h9).mono (Nat.le_refl _) (by decide)) (.cons ((Sm.int h0).mono (Nat.le_refl _) (by decide)) (.cons (h1.sm.mono (Nat.le_refl _) (by decide)) (.cons (h2.sm.mono (Nat.le_refl _) (by decide)) (.cons ((rows_sm hl h).mono (Nat.le_refl _) (by decide : 2 ≤ 3)) (SmAll.nil.mono (Nat.le_refl _) (by decide))))))))).mono (by decide) (by decide)

def spLInt (p : Int → Prop) : Sp := fun vs H Q _ => ∃ q : Addr, vs = [.ref q] ∧ PoolAt H q ∧ ∀ (r : Int) (H' : Hp), p r → Drew H H' q → Q (.int r) H'
abbrev isKeyI (r : Int) : Prop := 0 ≤ r ∧ r ≤ 999999
abbrev isNumI (r : Int) : Prop := 0 ≤ r ∧ IB r
theorem ok_key (T : Txt w K mg A) : FnOk P w K mg base CX0 2 A.a_key A.d_key ["_law_pool_here"] (spLInt isKeyI) := by
  refine T.F_key.ok sc_key (fun vs H Q E h => ?_) (fun cdv A' outer s H vs Q E hr h => ?_)
  · obtain ⟨q, rfl, _⟩ := h
    rfl
  · obtain ⟨q, rfl, hq, k⟩ := h
    refine ⟨_, (pss_one (ps_ret (pe_ix ix_list (pe_lst (pa_cons (pe_call (ok_takeD T) (hr.mono (by decide)) rfl T.m_take T.F_take.kp T.b_take .nil pass0 (pa_cons (pv 0) (pa_cons pe_int pa_nil))) (pa_cons (pe_call (ok_takeD T) (hr.mono (by decide)) rfl T.m_take T.F_take.kp T.b_take .nil pass0 (pa_cons (pv 0) (pa_cons pe_int pa_nil))) (pa_cons (pe_op op_sub pe_int (pe_call (ok_takeD T) (hr.mono (by decide)) rfl T.m_take T.F_take.kp T.b_take .nil pass0 (pa_cons (pv 0) (pa_cons pe_int pa_nil)))) (pa_cons pe_int pa_nil))))) (pe_call (ok_takeD T) (hr.mono (by decide)) rfl T.m_take T.F_take.kp T.b_take .nil pass0 (pa_cons (pv 0) (pa_cons pe_int pa_nil))) (fun _ _ => rfl)))), ?_⟩
    walk_at "go"
    intro r1 H1 r10 r11 d1
    have hq1 := d1.pool
    walk_at "go"
    intro r2 H2 r20 r21 d2
    have hq2 := d2.pool
    walk_at "go"
    intro r3 H3 r30 r31 d3
    have hq3 := d3.pool
    walk_at "go"
    intro L hL
    have hL3 : upd H3 L (.lst [.int r1, .int r2, .int (999999 - r3), .int 0]) L = some (.lst [.int r1, .int r2, .int (999999 - r3), .int 0]) := upd_same
    have nL := hq3.ne hL
    have d3' := ((d1.trans d2).trans d3).new (o := .lst [.int r1, .int r2, .int (999999 - r3), .int 0]) hL
    have hq3' := d3'.pool
    generalize upd H3 L (.lst [.int r1, .int r2, .int (999999 - r3), .int 0]) = H4 at *
    walk_at "go"
    intro r4 H5 r40 r41 d4
    have hL5 := d4.kp _ _ nL hL3
    have k' := fun r (h : isKeyI r) => k r H5 h (d3'.trans d4)
    have c : r4 = 0 ∨ r4 = 1 ∨ r4 = 2 ∨ r4 = 3 := by omega
    rcases c with rfl | rfl | rfl | rfl
    · have a0 : atI [V.int r1, .int r2, .int (999999 - r3), .int 0] 0 = some (.int r1) := atI_nat (j := 0) rfl
      walk_at "go"
      exact k' _ ⟨by omega, by omega⟩
    · have a0 : atI [V.int r1, .int r2, .int (999999 - r3), .int 0] 1 = some (.int r2) := atI_nat (j := 1) rfl
      walk_at "go"
      exact k' _ ⟨by omega, by omega⟩
    · have a0 : atI [V.int r1, .int r2, .int (999999 - r3), .int 0] 2 = some (.int (999999 - r3)) := atI_nat (j := 2) rfl
      walk_at "go"
      exact k' _ ⟨by omega, by omega⟩
    · have a0 : atI [V.int r1, .int r2, .int (999999 - r3), .int 0] 3 = some (.int 0) := atI_nat (j := 3) rfl
      walk_at "go"
      exact k' _ ⟨by omega, by omega⟩
theorem ok_number (T : Txt w K mg A) : FnOk P w K mg base CX0 2 A.a_number A.d_number ["_law_pool_here"] (spLInt isNumI) := by
  refine T.F_number.ok sc_number (fun vs H Q E h => ?_) (fun cdv A' outer s H vs Q E hr h => ?_)
  · obtain ⟨q, rfl, _⟩ := h
    rfl
  · obtain ⟨q, rfl, hq, k⟩ := h
    refine ⟨_, (pss_one (ps_ret (pe_ix ix_list (pe_lst (pa_cons (pe_call (ok_takeD T) (hr.mono (by decide)) rfl T.m_take T.F_take.kp T.b_take .nil pass0 (pa_cons (pv 0) (pa_cons pe_int pa_nil))) (pa_cons (pe_call (ok_takeD T) (hr.mono (by decide)) rfl T.m_take T.F_take.kp T.b_take .nil pass0 (pa_cons (pv 0) (pa_cons pe_int pa_nil))) (pa_cons (pe_op op_add (pe_op op_pow pe_int pe_int) (pe_call (ok_takeD T) (hr.mono (by decide)) rfl T.m_take T.F_take.kp T.b_take .nil pass0 (pa_cons (pv 0) (pa_cons pe_int pa_nil)))) pa_nil)))) (pe_call (ok_takeD T) (hr.mono (by decide)) rfl T.m_take T.F_take.kp T.b_take .nil pass0 (pa_cons (pv 0) (pa_cons pe_int pa_nil))) (fun _ _ => rfl)))), ?_⟩
    walk_at "go"
    intro r1 H1 r10 r11 d1
    have hq1 := d1.pool
    walk_at "go"
    intro r2 H2 r20 r21 d2
    have hq2 := d2.pool
    walk_at "go"
    intro r3 H3 r30 r31 d3
    have hq3 := d3.pool
    have e20 : (0 : Int) ≤ (10 : Int) ^ (20 : Int).toNat ∧ (10 : Int) ^ (20 : Int).toNat ≤ 1000000000000000000000 := by decide
    walk_at "go"
    generalize (10 : Int) ^ (20 : Int).toNat = big at *
    intro L hL
    have hL3 : upd H3 L (.lst [.int r1, .int r2, .int (big + r3)]) L = some (.lst [.int r1, .int r2, .int (big + r3)]) := upd_same
    have nL := hq3.ne hL
    have d3' := ((d1.trans d2).trans d3).new (o := .lst [.int r1, .int r2, .int (big + r3)]) hL
    have hq3' := d3'.pool
    generalize upd H3 L (.lst [.int r1, .int r2, .int (big + r3)]) = H4 at *
    walk_at "go"
    intro r4 H5 r40 r41 d4
    have hL5 := d4.kp _ _ nL hL3
    have k' := fun r (h : isNumI r) => k r H5 h (d3'.trans d4)
    have c : r4 = 0 ∨ r4 = 1 ∨ r4 = 2 := by omega
    rcases c with rfl | rfl | rfl
    · have a0 : atI [V.int r1, .int r2, .int (big + r3)] 0 = some (.int r1) := atI_nat (j := 0) rfl
      walk_at "go"
      exact k' _ ⟨by omega, by omega, by omega⟩
    · have a0 : atI [V.int r1, .int r2, .int (big + r3)] 1 = some (.int r2) := atI_nat (j := 1) rfl
      walk_at "go"
      exact k' _ ⟨by omega, by omega, by omega⟩
    · have a0 : atI [V.int r1, .int r2, .int (big + r3)] 2 = some (.int (big + r3)) := atI_nat (j := 2) rfl
      walk_at "go"
      exact k' _ ⟨by omega, by omega, by omega⟩
theorem ok_value (T : Txt w K mg A) : FnOk P w K mg base CX0 2 A.a_value A.d_value ["_law_pool_here"] (spLInt IB) := by
  refine T.F_value.ok sc_value (fun vs H Q E h => ?_) (fun cdv A' outer s H vs Q E hr h => ?_)
  · obtain ⟨q, rfl, _⟩ := h
    rfl
  · obtain ⟨q, rfl, hq, k⟩ := h
    refine ⟨_, (pss_one (ps_ret (pe_ix ix_list (pe_lst (pa_cons (pe_op op_sub (pe_call (ok_takeD T) (hr.mono (by decide)) rfl T.m_take T.F_take.kp T.b_take .nil pass0 (pa_cons (pv 0) (pa_cons pe_int pa_nil))) pe_int) (pa_cons (pe_call (ok_takeD T) (hr.mono (by decide)) rfl T.m_take T.F_take.kp T.b_take .nil pass0 (pa_cons (pv 0) (pa_cons (pe_op op_pow pe_int pe_int) pa_nil))) (pa_cons (pe_op op_add (pe_op op_sub pe_int (pe_op op_pow pe_int pe_int)) (pe_call (ok_takeD T) (hr.mono (by decide)) rfl T.m_take T.F_take.kp T.b_take .nil pass0 (pa_cons (pv 0) (pa_cons pe_int pa_nil)))) pa_nil)))) (pe_call (ok_takeD T) (hr.mono (by decide)) rfl T.m_take T.F_take.kp T.b_take .nil pass0 (pa_cons (pv 0) (pa_cons pe_int pa_nil))) (fun _ _ => rfl)))), ?_⟩
    walk_at "go"
    intro r1 H1 r10 r11 d1
    have hq1 := d1.pool
    walk_at "go"
    intro r2 H2 r20 r21 d2
    have hq2 := d2.pool
    walk_at "go"
    intro r3 H3 r30 r31 d3
    have hq3 := d3.pool
    walk_at "go"
    intro L hL
    have hL3 : upd H3 L (.lst [.int (r1 - 4), .int r2, .int (0 - (10 : Int) ^ (30 : Int).toNat + r3)]) L = some (.lst [.int (r1 - 4), .int r2, .int (0 - (10 : Int) ^ (30 : Int).toNat + r3)]) := upd_same
    have nL := hq3.ne hL
    have d3' := ((d1.trans d2).trans d3).new (o := .lst [.int (r1 - 4), .int r2, .int (0 - (10 : Int) ^ (30 : Int).toNat + r3)]) hL
    have hq3' := d3'.pool
    generalize upd H3 L (.lst [.int (r1 - 4), .int r2, .int (0 - (10 : Int) ^ (30 : Int).toNat + r3)]) = H4 at *
    walk_at "go"
    intro r4 H5 r40 r41 d4
    have hL5 := d4.kp _ _ nL hL3
    have k' := fun r (h : IB r) => k r H5 h (d3'.trans d4)
    have e6 : (10 : Int) ^ (6 : Int).toNat = 1000000 := by decide
    have e30 : (10 : Int) ^ (30 : Int).toNat = 1000000000000000000000000000000 := by decide
    have c : r4 = 0 ∨ r4 = 1 ∨ r4 = 2 := by omega
    rcases c with rfl | rfl | rfl
    · have a0 : atI [V.int (r1 - 4), .int r2, .int (0 - (10 : Int) ^ (30 : Int).toNat + r3)] 0 = some (.int (r1 - 4)) := atI_nat (j := 0) rfl
      walk_at "go"
      exact k' _ ⟨by omega, by omega⟩
    · have a0 : atI [V.int (r1 - 4), .int r2, .int (0 - (10 : Int) ^ (30 : Int).toNat + r3)] 1 = some (.int r2) := atI_nat (j := 1) rfl
      walk_at "go"
      exact k' _ ⟨by omega, by omega⟩
    · have a0 : atI [V.int (r1 - 4), .int r2, .int (0 - (10 : Int) ^ (30 : Int).toNat + r3)] 2 = some (.int (0 - (10 : Int) ^ (30 : Int).toNat + r3)) := atI_nat (j := 2) rfl
      walk_at "go"
      exact k' _ ⟨by omega, by omega⟩

/-! ### tuples of tuples, numbers and texts: they stay, whatever is drawn -/
mutual
inductive Dt (K : PySem.W.Frag) (H : Hp) : V → PyData → Prop
  | non : Dt K H .non .none
  | bl (b : Bool) : Dt K H (.bl b) (.bool b)
  | int (i : Int) : Dt K H (.int i) (.int i)
  | str (z : Str) : Dt K H (.str z) (.str z)
  | tup {a : Addr} {xs : List V} {ds : List PyData} : SqT K H a xs → DtAll K H xs ds → Dt K H (.ref a) (.tuple ds)
inductive DtAll (K : PySem.W.Frag) (H : Hp) : List V → List PyData → Prop
  | nil : DtAll K H [] []
  | cons {x : V} {d : PyData} {xs : List V} {ds : List PyData} : Dt K H x d → DtAll K H xs ds → DtAll K H (x :: xs) (d :: ds)
end
theorem Drew.tup {K : PySem.W.Frag} {H H' : Hp} {q a : Addr} {xs : List V} (hq : PoolAt H q) (dr : Drew H H' q) (h : SqT K H a xs) : SqT K H' a xs := by
  obtain ⟨l, hl⟩ := hq.some
  rcases h with (e | ⟨o, e⟩) | e
  · exact .inl (.inl (dr.kp _ _ (fun z => by rw [z, hl] at e; cases e) e))
  · exact .inl (.inr ⟨o, dr.kp _ _ (fun z => by rw [z, hl] at e; cases e) e⟩)
  · exact .inr e
mutual
theorem Dt.dp {K : PySem.W.Frag} {H : Hp} : ∀ {v : V} {d : PyData}, Dt K H v d → Dp K H v d
  | _, _, .non => .non
  | _, _, .bl b => .bl b
  | _, _, .int i => .int i
  | _, _, .str z => .str z
  | _, _, .tup h t => .tup h (DtAll.dp t)
theorem DtAll.dp {K : PySem.W.Frag} {H : Hp} : ∀ {vs : List V} {ds : List PyData}, DtAll K H vs ds → DpAll K H vs ds
  | _, _, .nil => .nil
  | _, _, .cons a t => .cons (Dt.dp a) (DtAll.dp t)
end
mutual
theorem Dt.drew {K : PySem.W.Frag} {H H' : Hp} {q : Addr} (hq : PoolAt H q) (dr : Drew H H' q) : ∀ {v : V} {d : PyData}, Dt K H v d → Dt K H' v d
  | _, _, .non => .non
  | _, _, .bl b => .bl b
  | _, _, .int i => .int i
  | _, _, .str z => .str z
  | _, _, .tup h t => .tup (dr.tup hq h) (DtAll.drew hq dr t)
theorem DtAll.drew {K : PySem.W.Frag} {H H' : Hp} {q : Addr} (hq : PoolAt H q) (dr : Drew H H' q) : ∀ {vs : List V} {ds : List PyData}, DtAll K H vs ds → DtAll K H' vs ds
  | _, _, .nil => .nil
  | _, _, .cons a t => .cons (Dt.drew hq dr a) (DtAll.drew hq dr t)
end
mutual
theorem Dt.same {K : PySem.W.Frag} {H H' : Hp} (s : Same H H') : ∀ {v : V} {d : PyData}, Dt K H v d → Dt K H' v d
  | _, _, .non => .non
  | _, _, .bl b => .bl b
  | _, _, .int i => .int i
  | _, _, .str z => .str z
  | _, _, .tup h t => .tup (sqT_same s h) (DtAll.same s t)
theorem DtAll.same {K : PySem.W.Frag} {H H' : Hp} (s : Same H H') : ∀ {vs : List V} {ds : List PyData}, DtAll K H vs ds → DtAll K H' vs ds
  | _, _, .nil => .nil
  | _, _, .cons a t => .cons (Dt.same s a) (DtAll.same s t)
end
/-- a list is written anew: tuples stay -/
theorem tup_lst {K : PySem.W.Frag} {H : Hp} {D a : Addr} {l : List V} {o : HO} {xs : List V} (hD : H D = some (.lst l)) (h : SqT K H a xs) : SqT K (upd H D o) a xs := by
  rcases h with (e | ⟨o', e⟩) | e
  · exact .inl (.inl (by rw [upd_ne (fun z => by rw [z, hD] at e; cases e)]; exact e))
  · exact .inl (.inr ⟨o', by rw [upd_ne (fun z => by rw [z, hD] at e; cases e)]; exact e⟩)
  · exact .inr e
mutual
theorem dt_lst {K : PySem.W.Frag} {H : Hp} {D : Addr} {l : List V} {o : HO} (hD : H D = some (.lst l)) : ∀ {v : V} {d : PyData}, Dt K H v d → Dt K (upd H D o) v d
  | _, _, .non => .non
  | _, _, .bl b => .bl b
  | _, _, .int i => .int i
  | _, _, .str z => .str z
  | _, _, .tup h t => .tup (tup_lst hD h) (dtAll_lst hD t)
theorem dtAll_lst {K : PySem.W.Frag} {H : Hp} {D : Addr} {l : List V} {o : HO} (hD : H D = some (.lst l)) : ∀ {vs : List V} {ds : List PyData}, DtAll K H vs ds → DtAll K (upd H D o) vs ds
  | _, _, .nil => .nil
  | _, _, .cons a t => .cons (dt_lst hD a) (dtAll_lst hD t)
end
section
variable {K : PySem.W.Frag} {H : Hp}
theorem DtAll.snoc {x : V} {d : PyData} : ∀ {vs : List V} {ds : List PyData}, DtAll K H vs ds → Dt K H x d → DtAll K H (vs ++ [x]) (ds ++ [d])
  | _, _, .nil, h => .cons h .nil
  | _, _, .cons a t, h => .cons a (t.snoc h)
theorem DtAll.take : ∀ (n : Nat) {vs : List V} {ds : List PyData}, DtAll K H vs ds → DtAll K H (vs.take n) (ds.take n)
  | 0, _, _, _ => .nil
  | _ + 1, _, _, .nil => .nil
  | n + 1, _, _, .cons a t => .cons a (t.take n)
theorem DtAll.len : ∀ {vs : List V} {ds : List PyData}, DtAll K H vs ds → vs.length = ds.length
  | _, _, .nil => rfl
  | _, _, .cons _ t => congrArg (· + 1) t.len
end
theorem Drew.none {H H' : Hp} {q a : Addr} (d : Drew H H' q) (h : H' a = none) : H a = none := by
  cases e : H a with
  | none => rfl
  | some u => rw [d.kp _ _ (d.pool.ne h) e] at h; cases h
theorem DtAll.nth {K : PySem.W.Frag} {H : Hp} : ∀ {vs : List V} {ds : List PyData} {i : Nat} {v : V}, DtAll K H vs ds → vs[i]? = some v → ∃ d, ds[i]? = some d ∧ Dt K H v d
  | _, _, 0, _, .cons a _, e => by simp at e; subst e; exact ⟨_, rfl, a⟩
  | _, _, i + 1, v, .cons _ t, e => by
    obtain ⟨d, e1, e2⟩ := DtAll.nth (i := i) (v := v) t (by simpa using e)
    exact ⟨d, by simpa using e1, e2⟩

/-! ### rows that are right -/
structure RowOk (lo : Int) (hi : PyData) (vp : Int → Bool) (d : PyData) : Prop where
  ex : ∃ k v : Int, d = .tuple [.int k, .int v] ∧ 0 ≤ k ∧ k ≤ 999999 ∧ lo ≤ k ∧ (∀ j, hi = .int j → k < j) ∧ vp v = true
theorem rises_of : ∀ {ks : List Int}, ks.Pairwise (· < ·) → rises ks = true
  | [], _ => rfl
  | [_], _ => rfl
  | a :: b :: r, h => by
    obtain ⟨h1, h2⟩ := List.pairwise_cons.mp h
    show (decide (a < b) && rises (b :: r)) = true
    rw [decide_eq_true (h1 b List.mem_cons_self), rises_of h2]; rfl
theorem outB_of {ks : List Int} {lo : Int} {hi : PyData} (h1 : ∀ k ∈ ks, lo ≤ k) (h2 : ∀ j, hi = .int j → ∀ k ∈ ks, k < j) : outB ks lo hi = false := by
  cases ks with
  | nil => rfl
  | cons a r =>
    obtain ⟨z, hz⟩ : ∃ z, (a :: r).getLast? = some z := ⟨_, List.getLast?_eq_some_getLast (List.cons_ne_nil _ _)⟩
    rw [outB_cons hz]
    have hm : z ∈ a :: r := List.mem_of_getLast? hz
    have e1 : decide (a < lo) = false := decide_eq_false (by have := h1 a List.mem_cons_self; omega)
    rw [e1, Bool.false_or]
    cases hi with
    | int j => exact decide_eq_false (by have := h2 j rfl z hm; omega)
    | _ => rfl
theorem rowsD_of {ds : List PyData} {lo : Int} {hi : PyData} {vp : Int → Bool} (hl : ds.length ≤ 400) (h : ∀ d ∈ ds, RowOk lo hi vp d) (hp : (ds.map keyOf).Pairwise (· < ·)) : rowsD (.tuple ds) lo hi = true := by
  show (decide (ds.length ≤ 400) && (ds.all rowD && (!outB (ds.map keyOf) lo hi && rises (ds.map keyOf)))) = true
  have h1 : ds.all rowD = true := List.all_eq_true.mpr fun d hd => by
    obtain ⟨k, v, rfl, a, b, _⟩ := (h d hd).ex
    show (decide (0 ≤ k) && decide (k ≤ 999999)) = true
    rw [decide_eq_true a, decide_eq_true b]; rfl
  have h2 : outB (ds.map keyOf) lo hi = false := outB_of (fun k hk => by
    obtain ⟨d, hd, rfl⟩ := List.mem_map.mp hk
    obtain ⟨k, v, rfl, _, _, c, _⟩ := (h d hd).ex
    exact c) (fun j e k hk => by
    obtain ⟨d, hd, rfl⟩ := List.mem_map.mp hk
    obtain ⟨k, v, rfl, _, _, _, c, _⟩ := (h d hd).ex
    exact c j e)
  rw [decide_eq_true hl, h1, h2, rises_of hp]; rfl
structure BndOk (lo : Int) (hi ri : PyData) : Prop where
  lo0 : 0 ≤ lo
  lo9 : lo ≤ 999999
  end_ : (hi = .none ∧ ri = .none) ∨ ∃ j b : Int, hi = .int j ∧ ri = .int b ∧ lo < j ∧ j ≤ 999999 ∧ 0 ≤ b ∧ IB b
theorem BndOk.sm {lo : Int} {hi ri : PyData} (h : BndOk lo hi ri) : IB lo ∧ OptI hi ∧ OptI ri := by
  have h0 := h.lo0
  have h9 := h.lo9
  refine ⟨⟨by omega, by omega⟩, ?_⟩
  rcases h.end_ with ⟨rfl, rfl⟩ | ⟨j, b, rfl, rfl, h1, h2, h3⟩
  · exact ⟨.inl rfl, .inl rfl⟩
  · exact ⟨.inr ⟨j, rfl, by omega, by omega⟩, .inr ⟨b, rfl, h3.2⟩⟩
theorem keyD_of {i : Int} (h0 : 0 ≤ i) (h1 : i ≤ 999999) : keyD (.int i) = true := by
  show (decide (0 ≤ i) && decide (i ≤ 999999)) = true
  rw [decide_eq_true h0, decide_eq_true h1]; rfl
theorem bounds_of {lo : Int} {hi ri : PyData} (h : BndOk lo hi ri) : boundsD (.int lo) hi ri = true := by
  unfold boundsD
  rw [keyD_of h.lo0 h.lo9, Bool.true_and]
  rcases h.end_ with ⟨rfl, rfl⟩ | ⟨j, b, rfl, rfl, h1, h2, h3⟩
  · rfl
  · show (keyD (.int j) && (decide (lo < j) && decide (0 ≤ b))) = true
    rw [keyD_of (by have := h.lo0; omega) h2, decide_eq_true h1, decide_eq_true h3.1]; rfl
theorem recD_leaf (ps : List PyData) : recD (.tuple (.str "leaf" :: ps)) = leafD (.str "leaf" :: ps) := by
  show (if ("leaf" : Str) = "leaf" then leafD (.str "leaf" :: ps) else if ("leaf" : Str) = "bough" then boughD (.str "leaf" :: ps) else formD "leaf" ps) = _
  rw [if_pos rfl]
theorem recD_bough (ps : List PyData) : recD (.tuple (.str "bough" :: ps)) = boughD (.str "bough" :: ps) := by
  have n : ¬ (("bough" : Str) = "leaf") := by decide +kernel
  show (if ("bough" : Str) = "leaf" then leafD (.str "bough" :: ps) else if ("bough" : Str) = "bough" then boughD (.str "bough" :: ps) else formD "bough" ps) = _
  rw [if_neg n, if_pos rfl]
theorem recD_form {z : Str} (h1 : z ≠ "leaf") (h2 : z ≠ "bough") (ps : List PyData) : recD (.tuple (.str z :: ps)) = formD z ps := by
  show (if z = "leaf" then leafD (.str z :: ps) else if z = "bough" then boughD (.str z :: ps) else formD z ps) = _
  rw [if_neg h1, if_neg h2]
theorem leaf_of {lo : Int} {hi ri : PyData} {ds : List PyData} (hb : BndOk lo hi ri) (hl : ds.length ≤ 400) (h : ∀ d ∈ ds, RowOk lo hi (fun _ => true) d) (hp : (ds.map keyOf).Pairwise (· < ·)) : recD (.tuple [.str "leaf", .int lo, hi, ri, .tuple ds]) = true := by
  rw [recD_leaf]
  show (boundsD (.int lo) hi ri && (rowsD (.tuple ds) lo hi && ds.all fun r => wholeD (valOf r))) = true
  have h1 : (ds.all fun r => wholeD (valOf r)) = true := List.all_eq_true.mpr fun d hd => by
    obtain ⟨k, v, rfl, _⟩ := (h d hd).ex
    rfl
  rw [bounds_of hb, rowsD_of hl h hp, h1]; rfl
theorem bough_of {lv lo : Int} {hi ri : PyData} {d0 : PyData} {ds : List PyData} (l1 : 1 ≤ lv) (l2 : lv ≤ 40) (hb : BndOk lo hi ri) (hl : (d0 :: ds).length ≤ 400) (h : ∀ d ∈ d0 :: ds, RowOk lo hi (fun v => decide (0 ≤ v)) d) (hp : ((d0 :: ds).map keyOf).Pairwise (· < ·)) (h0 : keyOf d0 = lo) :
    recD (.tuple [.str "bough", .int lv, .int lo, hi, ri, .tuple (d0 :: ds)]) = true := by
  rw [recD_bough]
  show (levD (.int lv) && (boundsD (.int lo) hi ri && (rowsD (.tuple (d0 :: ds)) lo hi && (decide (keyOf d0 = lo) && (d0 :: ds).all fun r => numD (valOf r))))) = true
  have h1 : ((d0 :: ds).all fun r => numD (valOf r)) = true := List.all_eq_true.mpr fun d hd => by
    obtain ⟨k, v, rfl, _, _, _, _, e⟩ := (h d hd).ex
    exact e
  have h2 : levD (.int lv) = true := by
    show (decide (1 ≤ lv) && decide (lv ≤ 40)) = true
    rw [decide_eq_true l1, decide_eq_true l2]; rfl
  rw [h2, bounds_of hb, rowsD_of hl h hp, h1, decide_eq_true h0]; rfl
theorem form_of {z : Str} {ks : List Kd} {ps : List PyData} (h1 : z ≠ "leaf") (h2 : z ≠ "bough") (h3 : lookF forms z = some ks) (h4 : ps.length = ks.length) (h5 : (fitD ks ps).all id = true) : recD (.tuple (.str z :: ps)) = true := by
  rw [recD_form h1 h2]
  unfold formD
  rw [h3]
  show (decide (ps.length = ks.length) && (fitD ks ps).all id) = true
  rw [decide_eq_true h4, h5]; rfl
structure KeysOk (f : Int) (ks : List Int) : Prop where
  ne : ks ≠ []
  pw : ks.Pairwise (· < ·)
  ge : ∀ k ∈ ks, f ≤ k
theorem KeysOk.last {f : Int} {ks : List Int} (h : KeysOk f ks) : ∃ r z, ks = r ++ [z] ∧ f ≤ z ∧ ∀ k ∈ ks, k ≤ z := by
  have e := List.dropLast_concat_getLast h.ne
  refine ⟨ks.dropLast, ks.getLast h.ne, e.symm, h.ge _ (List.getLast_mem h.ne), fun k hk => ?_⟩
  have pw := h.pw
  rw [← e] at pw hk
  obtain ⟨_, _, h3⟩ := List.pairwise_append.mp pw
  rcases List.mem_append.mp hk with hk | hk
  · have := h3 k hk _ (List.mem_singleton.mpr rfl)
    omega
  · rw [List.mem_singleton.mp hk]; exact Int.le_refl _
theorem KeysOk.push {f : Int} {ks : List Int} {z : Int} (h : KeysOk f ks) (hz : ∀ k ∈ ks, k < z) : KeysOk f (ks ++ [z]) := by
  obtain ⟨r, y, _, hy, hy2⟩ := h.last
  have hm : y ∈ ks := by
    obtain ⟨r', y', e, _⟩ := h.last
    have := List.getLast_mem h.ne
    simp_all
  refine ⟨by simp, List.pairwise_append.mpr ⟨h.pw, List.pairwise_singleton _ _, fun a ha b hb => by rw [List.mem_singleton.mp hb]; exact hz a ha⟩, fun k hk => ?_⟩
  rcases List.mem_append.mp hk with hk | hk
  · exact h.ge k hk
  · rw [List.mem_singleton.mp hk]
    have := hz y hm
    omega

structure RowsAt (K : PySem.W.Frag) (H H6 : Hp) (q D Lk : Addr) (ks : List Int) (vh vr : V) (hi ri : PyData) (cond : Int → Bool) (vp : Int → Bool) (j : Nat) : Prop where
  ex : ∃ (vs : List V) (ds : List PyData), Drew H H6 q ∧ H6 Lk = some (.lst (ks.map V.int)) ∧ H6 D = some (.lst vs) ∧ DtAll K H6 vs ds ∧ ds.map keyOf = (ks.take j).filter cond ∧
    (∀ d ∈ ds, ∃ k v : Int, d = .tuple [.int k, .int v] ∧ k ∈ ks ∧ cond k = true ∧ vp v = true) ∧ vs.length ≤ j ∧ Dt K H6 vh hi ∧ Dt K H6 vr ri
theorem RowsAt.push {K : PySem.W.Frag} {H H6 H8 : Hp} {q D Lk Tp : Addr} {ks : List Int} {vh vr : V} {hi ri : PyData} {cond vp : Int → Bool} {j : Nat} {kk v8 : Int} {vs : List V}
    (h : ∃ (vs' : List V) (ds : List PyData), vs' = vs ∧ Drew H H6 q ∧ H6 Lk = some (.lst (ks.map V.int)) ∧ H6 D = some (.lst vs') ∧ DtAll K H6 vs' ds ∧ ds.map keyOf = (ks.take j).filter cond ∧
    (∀ d ∈ ds, ∃ k v : Int, d = .tuple [.int k, .int v] ∧ k ∈ ks ∧ cond k = true ∧ vp v = true) ∧ vs'.length ≤ j ∧ Dt K H6 vh hi ∧ Dt K H6 vr ri)
    (fD : H D = none) (nD : D ≠ q) (nDL : D ≠ Lk) (nL : Lk ≠ q) (d8 : Drew H6 H8 q) (hT : H8 Tp = none) (g : ks[j]? = some kk) (c : cond kk = true) (hv : vp v8 = true) :
    RowsAt K H (upd (upd H8 Tp (.tup [.int kk, .int v8])) D (.lst (vs ++ [.ref Tp]))) q D Lk ks vh vr hi ri cond vp (j + 1) := by
  obtain ⟨vs, ds, rfl, e1, e2, e3, e4, e5, e6, e7, e8, e9⟩ := h
  have hq6 := e1.pool
  have s1 := same_new (o := .tup [.int kk, .int v8]) hT
  have e3' := s1 _ _ (d8.kp _ _ nD e3)
  have nT := d8.pool.ne hT
  -- what stands is kept where D is written: D holds a list, the data are tuples
  have st : ∀ {v : V} {d : PyData}, Dt K H6 v d → Dt K (upd (upd H8 Tp (.tup [.int kk, .int v8])) D (.lst (vs ++ [.ref Tp]))) v d := fun x => dt_lst e3' (Dt.same s1 (x.drew hq6 d8))
  have stA : ∀ {v : List V} {d : List PyData}, DtAll K H6 v d → DtAll K (upd (upd H8 Tp (.tup [.int kk, .int v8])) D (.lst (vs ++ [.ref Tp]))) v d := fun x => dtAll_lst e3' (DtAll.same s1 (x.drew hq6 d8))
  have nDT : D ≠ Tp := ne_of_none (d8.kp _ _ nD e3) hT
  refine ⟨vs ++ [.ref Tp], ds ++ [.tuple [.int kk, .int v8]], ((e1.trans d8).same s1).upd fD nD, ?_, upd_same, (stA e4).snoc (.tup (SqT.of (by rw [upd_ne nDT.symm]; exact upd_same)) (.cons (.int kk) (.cons (.int v8) .nil))), ?_, ?_, ?_, st e8, st e9⟩
  · rw [upd_ne nDL.symm]; exact s1 _ _ (d8.kp _ _ nL e2)
  · rw [List.map_append, e5, take_snoc g, List.filter_append, List.filter_cons, if_pos c]; rfl
  · intro d hd
    rcases List.mem_append.mp hd with hd | hd
    · exact e6 d hd
    · rw [List.mem_singleton.mp hd]
      exact ⟨kk, v8, rfl, List.mem_of_getElem? g, c, hv⟩
  · rw [List.length_append]; show vs.length + 1 ≤ j + 1; omega
theorem RowsAt.skip {K : PySem.W.Frag} {H H6 : Hp} {q D Lk : Addr} {ks : List Int} {vh vr : V} {hi ri : PyData} {cond vp : Int → Bool} {j : Nat} {kk : Int} (h : RowsAt K H H6 q D Lk ks vh vr hi ri cond vp j) (g : ks[j]? = some kk) (c : cond kk = false) :
    RowsAt K H H6 q D Lk ks vh vr hi ri cond vp (j + 1) := by
  obtain ⟨vs, ds, e1, e2, e3, e4, e5, e6, e7, e8, e9⟩ := h.ex
  refine ⟨vs, ds, e1, e2, e3, e4, ?_, e6, by omega, e8, e9⟩
  rw [e5, take_snoc g, List.filter_append, List.filter_cons, if_neg (by simp [c])]
  exact (List.append_nil _).symm
def spBase (K : PySem.W.Frag) : Sp := fun vs H Q _ => ∃ (q : Addr) (z : Str), vs = [.ref q, .str z] ∧ (z = "leaf" ∨ z = "bough") ∧ PoolAt H q ∧ ∀ (x : V) (d : PyData) (H' : Hp), Drew H H' q → Dt K H' x d → recD d = true → SmR d → Q x H'
theorem ok_drawn_base (T : Txt w K mg A) : FnOk P w K mg base CX0 3 A.a_drawn_base A.d_drawn_base ["_law_pool_here", "_law_word"] (spBase K) := by
  refine T.F_drawn_base.ok sc_drawn_base (fun vs H Q E h => ?_) (fun cdv A' outer s H vs Q E hr h => ?_)
  · obtain ⟨q, z, rfl, _⟩ := h
    rfl
  · obtain ⟨q, z, rfl, hz, hq, k⟩ := h
    refine ⟨_, (cutAt (ps_set (i := 2) sc_drawn_base.nd rfl (Or.inr rfl) (pe_ix ix_list (pe_lst (pa_cons pe_int (pa_cons (pe_call (ok_takeD T) (hr.mono (by decide)) rfl T.m_take T.F_take.kp T.b_take .nil pass0 (pa_cons (pv 0) (pa_cons pe_int pa_nil))) (pa_cons (pe_call (ok_key T) (hr.mono (by decide)) rfl T.m_key T.F_key.kp T.b_key .nil pass0 (pa_cons (pv 0) pa_nil)) pa_nil)))) (pe_call (ok_takeD T) (hr.mono (by decide)) rfl T.m_take T.F_take.kp T.b_take .nil pass0 (pa_cons (pv 0) (pa_cons pe_int pa_nil))) (fun _ _ => rfl)))
      (pss_cons (ps_set (i := 3) sc_drawn_base.nd rfl (Or.inl rfl) (pe_lst (pa_cons (pe_op op_add (pv 2) (pe_call (ok_takeD T) (hr.mono (by decide)) rfl T.m_take T.F_take.kp T.b_take .nil pass0 (pa_cons (pv 0) (pa_cons pe_int pa_nil)))) pa_nil)))
      (cutAt (ps_for PassesOwn.never rfl (pi_w (pi_range1 rfl T.n_range (pa_cons (pe_call (ok_takeD T) (hr.mono (by decide)) rfl T.m_take T.F_take.kp T.b_take .nil pass0 (pa_cons (pv 0) (pa_cons pe_int pa_nil))) pa_nil))) (pg_name (i := 4) sc_drawn_base.nd rfl (Or.inl rfl))
      (pss_one (ps_expr (pe_bm PySem.F.plainAttrs_list PySem.F.slot_list_append PySem.F.type_list_append mt_append (pv 3) (pa_cons (pe_op op_add (pe_op op_add (pe_ix ix_list (pv 3) (pe_un un_neg pe_int) (fun _ _ => rfl)) pe_int) (pe_call (ok_takeD T) (hr.mono (by decide)) rfl T.m_take T.F_take.kp T.b_take .nil pass0 (pa_cons (pv 0) (pa_cons pe_int pa_nil)))) pa_nil)))))
      (pss_cons (ps_set (i := 5) sc_drawn_base.nd rfl (Or.inl rfl) pe_non)
      (pss_cons (ps_set (i := 6) sc_drawn_base.nd rfl (Or.inl rfl) pe_non)
      (cutAt (ps_if (PW.pt (pw_and (pt_cmpR op_gt (pe_call (ok_takeD T) (hr.mono (by decide)) rfl T.m_take T.F_take.kp T.b_take .nil pass0 (pa_cons (pv 0) (pa_cons pe_int pa_nil))) pe_int (nomark _)) (pw_and1 (pt_cmpR op_lt (pe_ix ix_list (pv 3) (pe_un un_neg pe_int) (fun _ _ => rfl)) pe_int (nomark _)))))
      (pss_cons (ps_set (i := 5) sc_drawn_base.nd rfl (Or.inl rfl) (pe_op op_add (pe_op op_add (pe_ix ix_list (pv 3) (pe_un un_neg pe_int) (fun _ _ => rfl)) pe_int) (pe_op op_mul (pe_call (ok_takeD T) (hr.mono (by decide)) rfl T.m_take T.F_take.kp T.b_take .nil pass0 (pa_cons (pv 0) (pa_cons pe_int pa_nil))) (pe_op op_sub pe_int (pe_ix ix_list (pv 3) (pe_un un_neg pe_int) (fun _ _ => rfl))))))
      (pss_one (ps_set (i := 6) sc_drawn_base.nd rfl (Or.inl rfl) (pe_call (ok_number T) (hr.mono (by decide)) rfl T.m_number T.F_number.kp T.b_number .nil pass0 (pa_cons (pv 0) pa_nil)))))
      pss_nil)
      (cutAt (ps_if (pt_cmpR op_eq (pv 1) pe_str (nomark _))
      (pss_cons (ps_setLc (i := 7) (own := [("_law_key_here", 8)]) rfl sc_drawn_base.nd rfl rfl (sw_true rfl rfl rfl (by decide +kernel)) (pi_w (pi_list (pv 3))) (blkOk_by (own := [("_law_key_here", 8)]) (N := n_drawn_base) (sc := defScope s_drawn_base) (by decide +kernel)) (fun _ _ _ _ _ => viaG (pg_name (i := 8) sc_drawn_base.nd rfl (Or.inl rfl)) (by first | rfl | (dsimp only [Cx.blk]; done) | (dsimp only [Cx.blk]; rfl))) (fun _ _ _ _ _ => viaT (pts_one (pt_cmpR op_le (pv 8) pe_int (nomark _))) (by first | rfl | (dsimp only [Cx.blk]; done) | (dsimp only [Cx.blk]; rfl))) (fun _ _ _ _ _ => viaE (pe_tup (pa_cons (pv 8) (pa_cons (pe_call (ok_value T) (hr.mono (by decide)) rfl T.m_value T.F_value.kp T.b_value .nil pass0 (pa_cons (pv 0) pa_nil)) pa_nil))) (by first | rfl | (dsimp only [Cx.blk]; done) | (dsimp only [Cx.blk]; rfl))))
      (pss_one (ps_ret (pe_tup (pa_cons pe_str (pa_cons (pe_callB (call_min2 rfl) (by rfl) T.n_min (by decide +kernel) (pa_cons (pv 2) (pa_cons (pe_op op_sub pe_int (pe_callTy call_int1 (by rfl) T.n_int (by decide +kernel) (pa_cons (pe_cmpR op_notN (pv 5) pe_non (nomark _)) pa_nil))) pa_nil))) (pa_cons (pv 5) (pa_cons (pv 6) (pa_cons (pe_slice sl_tupA (pe_callTy call_tuple_of (by rfl) T.n_tuple (by decide +kernel) (pa_cons (pv 7) pa_nil)) po_none (po_some (pe_call (ok_takeD T) (hr.mono (by decide)) rfl T.m_take T.F_take.kp T.b_take .nil pass0 (pa_cons (pv 0) (pa_cons pe_int pa_nil))))) pa_nil)))))))))
      pss_nil)
      (pss_cons (ps_set (i := 7) sc_drawn_base.nd rfl (Or.inl rfl) (pe_op op_cat (pe_lst (pa_cons (pe_tup (pa_cons (pv 2) (pa_cons (pe_call (ok_number T) (hr.mono (by decide)) rfl T.m_number T.F_number.kp T.b_number .nil pass0 (pa_cons (pv 0) pa_nil)) pa_nil))) pa_nil)) (pe_lc (own := [("_law_key_here", 8)]) rfl sc_drawn_base.nd (pi_w (pi_list (pv 3))) (blkOk_by (own := [("_law_key_here", 8)]) (N := n_drawn_base) (sc := defScope s_drawn_base) (by decide +kernel)) (fun _ _ _ _ _ => viaG (pg_name (i := 8) sc_drawn_base.nd rfl (Or.inl rfl)) (by first | rfl | (dsimp only [Cx.blk]; done) | (dsimp only [Cx.blk]; rfl))) (fun _ _ _ _ _ => viaT (pts_one (pt_chain op_lt op_le (pv 2) (pv 8) pe_int)) (by first | rfl | (dsimp only [Cx.blk]; done) | (dsimp only [Cx.blk]; rfl))) (fun _ _ _ _ _ => viaE (pe_tup (pa_cons (pv 8) (pa_cons (pe_call (ok_number T) (hr.mono (by decide)) rfl T.m_number T.F_number.kp T.b_number .nil pass0 (pa_cons (pv 0) pa_nil)) pa_nil))) (by first | rfl | (dsimp only [Cx.blk]; done) | (dsimp only [Cx.blk]; rfl))))))
      (pss_one (ps_ret (pe_tup (pa_cons pe_str (pa_cons (pe_op op_add pe_int (pe_call (ok_takeD T) (hr.mono (by decide)) rfl T.m_take T.F_take.kp T.b_take .nil pass0 (pa_cons (pv 0) (pa_cons pe_int pa_nil)))) (pa_cons (pv 2) (pa_cons (pv 5) (pa_cons (pv 6) (pa_cons (pe_callTy call_tuple_of (by rfl) T.n_tuple (by decide +kernel) (pa_cons (pv 7) pa_nil)) pa_nil))))))))))))))))), ?_⟩
    refine ⟨fun σ H1 => Wrap (∃ f : Int, σ = [some (.ref q), some (.str z), some (.int f), none, none, none, none, none, none] ∧ isKeyI f ∧ Drew H H1 q), ?_, ?_⟩
    · walk_at "go"
      intro r1 H1 r10 r11 d1
      have hq1 := d1.pool
      walk_at "go"
      intro f2 H2 hf2 d2
      have hq2 := d2.pool
      walk_at "go"
      intro L hL
      have hL3 : upd H2 L (.lst [.int 0, .int r1, .int f2]) L = some (.lst [.int 0, .int r1, .int f2]) := upd_same
      have nL := hq2.ne hL
      have d3 := (d1.trans d2).new (o := .lst [.int 0, .int r1, .int f2]) hL
      have hq3 := d3.pool
      generalize upd H2 L (.lst [.int 0, .int r1, .int f2]) = H3 at *
      walk_at "go"
      intro r4 H4 r40 r41 d4
      have hL4 := d4.kp _ _ nL hL3
      have d5 := d3.trans d4
      have c : r4 = 0 ∨ r4 = 1 ∨ r4 = 2 := by omega
      rcases c with rfl | rfl | rfl
      · have a0 : atI [V.int 0, .int r1, .int f2] 0 = some (.int 0) := atI_nat (j := 0) rfl
        walk_at "go"
        exact ⟨0, rfl, ⟨by omega, by omega⟩, d5⟩
      · have a0 : atI [V.int 0, .int r1, .int f2] 1 = some (.int r1) := atI_nat (j := 1) rfl
        walk_at "go"
        exact ⟨r1, rfl, ⟨by omega, by omega⟩, d5⟩
      · have a0 : atI [V.int 0, .int r1, .int f2] 2 = some (.int f2) := atI_nat (j := 2) rfl
        walk_at "go"
        exact ⟨f2, rfl, hf2, d5⟩
    rintro σ H1 ⟨f, rfl, ⟨f0, f9⟩, d1⟩
    have hq1 := d1.pool
    walk_at "go"
    intro r2 H2 r20 r21 d2
    have dr2 := d1.trans d2
    have hq2 := d2.pool
    clear d1 d2 hq1
    walk_at "go"
    intro Lk hLk
    have nLk := hq2.ne hLk
    have hH := dr2.none hLk
    have hL3 : upd H2 Lk (.lst [.int (f + r2)]) Lk = some (.lst [.int (f + r2)]) := upd_same
    have d3 := dr2.new (o := .lst [.int (f + r2)]) hLk
    have hq3 := d3.pool
    have ko : KeysOk f [f + r2] := ⟨by simp, List.pairwise_singleton _ _, fun k hk => by rw [List.mem_singleton.mp hk]; omega⟩
    generalize upd H2 Lk (.lst [.int (f + r2)]) = H3 at *
    walk_at "go"
    refine ⟨fun σ H4 => Wrap (∃ v5 ks, σ = [some (.ref q), some (.str z), some (.int f), some (.ref Lk), v5, none, none, none, none] ∧ Drew H H4 q ∧ H4 Lk = some (.lst (ks.map V.int)) ∧ KeysOk f ks ∧ ks.length ≤ 7), ?_, ?_⟩
    · walk_at "go"
      intro r5 H4 r50 r51 d4
      have hL4 := d4.kp _ _ nLk hL3
      have d5 := d3.trans d4
      walk_at "go"
      refine Wrap.mk (for_it walk_range (fun j σ H5 => Wrap (∃ v5 ks, σ = [some (.ref q), some (.str z), some (.int f), some (.ref Lk), v5, none, none, none, none] ∧ Drew H H5 q ∧ H5 Lk = some (.lst (ks.map V.int)) ∧ KeysOk f ks ∧ ks.length = j + 1))
        ⟨none, [f + r2], rfl, d5, hL4, ko, rfl⟩ (fun _ _ _ _ _ => trivial) ?_ ?_)
      · rintro j x σ H5 H6 hj ⟨v5, ks, rfl, dd, hL5, kk, hkl⟩ ⟨rfl, rfl⟩
        have hjl : j < 7 := by omega
        obtain ⟨rs, y, eks, hy, hym⟩ := kk.last
        have a0 : atI (ks.map V.int) (-1) = some (.int y) := by rw [eks, List.map_append]; exact atI_last _ _
        have hqa := dd.pool
        walk_at "go"
        intro r6 H7 r60 r61 d7
        have hL7 := d7.kp _ _ nLk hL5
        have hlz : (ks.map V.int).length < sizeLine := by rw [List.length_map]; exact small1000 (by omega)
        have e1 : ks.map V.int ++ [.int (y + 1 + r6)] = (ks ++ [y + 1 + r6]).map V.int := by rw [List.map_append]; rfl
        have hfin : Drew H (upd H7 Lk (.lst (ks.map V.int ++ [.int (y + 1 + r6)]))) q := (dd.trans d7).upd hH nLk
        walk_at "go"
        exact ⟨_, ks ++ [y + 1 + r6], rfl, hfin, by rw [← e1]; exact upd_same, kk.push (fun k hk => by have := hym k hk; omega), by rw [List.length_append, hkl]; rfl⟩
      · rintro σ H5 ⟨v5, ks, rfl, dd, hL5, kk, hkl⟩
        exact ⟨v5, ks, rfl, dd, hL5, kk, by omega⟩
    rintro σ H4 ⟨v5, ks, rfl, d4, hL4, kk, hkl⟩
    clear hLk hL3 d3 hq3 ko dr2 hq2
    have hq4 := d4.pool
    obtain ⟨rs, y, eks, hy, hym⟩ := kk.last
    have a0 : atI (ks.map V.int) (-1) = some (.int y) := by rw [eks, List.map_append]; exact atI_last _ _
    walk_at "go"
    refine ⟨fun σ H5 => Wrap (∃ vh vr hi ri, σ = [some (.ref q), some (.str z), some (.int f), some (.ref Lk), v5, some vh, some vr, none, none] ∧ Drew H H5 q ∧ H5 Lk = some (.lst (ks.map V.int)) ∧ Dt K H5 vh hi ∧ Dt K H5 vr ri ∧ BndOk f hi ri ∧ (∀ j, hi = .int j → ∀ k ∈ ks, k < j) ∧ decide (vh = .non) = nonD hi), ?_, ?_⟩
    · walk_at "go"
      intro r5 H5 r50 r51 d5
      have hL5 := d5.kp _ _ nLk hL4
      have dd := d4.trans d5
      have hq5 := dd.pool
      walk_at "go"
      with_reducible refine by2 (fun c => ?_) (fun c => ?_)
      · walk_at "go"
        with_reducible refine by2 (fun c2 => ?_) (fun c2 => ?_)
        · have c2 := of_decide_eq_true c2
          walk_at "go"
          intro r6 H6 r60 r61 d6
          have hL6 := d6.kp _ _ nLk hL5
          have dd6 := dd.trans d6
          have hq6 := dd6.pool
          walk_at "go"
          intro b H7 hb d7
          have hL7 := d7.kp _ _ nLk hL6
          have hj : y + 1 + r6 * (999998 - y) ≤ 999999 ∧ y < y + 1 + r6 * (999998 - y) := by
            have c : r6 = 0 ∨ r6 = 1 := by omega
            rcases c with rfl | rfl <;> omega
          exact ⟨_, _, _, _, rfl, dd6.trans d7, hL7, .int _, .int b, ⟨f0, f9, .inr ⟨_, _, rfl, rfl, by omega, hj.1, hb⟩⟩, fun j e k hk => by cases e; have := hym k hk; omega, by simp [nonD]⟩
        · exact ⟨_, _, _, _, rfl, dd, hL5, .non, .non, ⟨f0, f9, .inl ⟨rfl, rfl⟩⟩, (fun j e => by cases e), rfl⟩
      · exact ⟨_, _, _, _, rfl, dd, hL5, .non, .non, ⟨f0, f9, .inl ⟨rfl, rfl⟩⟩, (fun j e => by cases e), rfl⟩
    rintro σ H5 ⟨vh, vr, hi, ri, rfl, d5, hL5, hvh, hvr, hb, hhi, hnon⟩
    have hq5 := d5.pool
    clear hL4 hq4 d4
    rcases hz with rfl | rfl
    · refine ⟨fun _ _ => Wrap False, ?_, fun _ _ z => z.ex.elim⟩
      walk_at "go"
      refine Wrap.mk fun D hD => ?_
      have nD := hq5.ne hD
      have nDL : D ≠ Lk := (ne_of_none hL5 hD).symm
      have fD := d5.none hD
      refine lc_it (walk_list (xs := ks.map V.int)) (fun j H6 => Wrap (RowsAt K H H6 q D Lk ks vh vr hi ri (fun k => decide (k ≤ 999999)) (fun v => decide (IB v)) j)) ?_ ?_ ?_ ?_
      · exact ⟨⟨⟨[], [], d5.new hD, by rw [upd_ne nDL.symm]; exact hL5, upd_same, .nil, by simp, fun d hd => by simp at hd, Nat.zero_le _, hvh.same (same_new hD), hvr.same (same_new hD)⟩⟩⟩
      · exact fun j H6 _ c => by obtain ⟨⟨⟨vs, ds, _, h2, _⟩⟩⟩ := c; exact SqL.of h2
      · rintro j v H6 H7 hj ⟨⟨vs, ds, e1, e2, e3, e4, e5, e6, e7, e8, e9⟩⟩ ⟨rfl, hx⟩
        rw [List.getElem?_map] at hx
        cases g : ks[j]? with
        | none => rw [g] at hx; cases hx
        | some kk1 =>
          rw [g] at hx
          obtain rfl : V.int kk1 = v := Option.some.inj hx
          have hq6 := e1.pool
          have hj7 : j < 7 := by have := (List.getElem?_eq_some_iff.mp g).1; omega
          walk_at "go"
          with_reducible refine by2 (fun c => ?_) (fun c => ?_)
          · walk_at "go"
            intro v8 H8 hv8 d8
            have hv8 : IB v8 := hv8
            have hq8 := d8.pool
            have e3' := d8.kp _ _ nD e3
            have hlz : vs.length < sizeLine := small1000 (by omega)
            walk_at "go"
            intro Tp hTp
            have e3'' := same_new (o := .tup [.int kk1, .int v8]) hTp _ _ e3'
            walk_at "go"
            exact ⟨RowsAt.push ⟨vs, ds, rfl, e1, e2, e3, e4, e5, e6, e7, e8, e9⟩ fD nD nDL nLk d8 hTp g c (decide_eq_true hv8)⟩
          · walk_at "go"
            exact ⟨RowsAt.skip ⟨⟨vs, ds, e1, e2, e3, e4, e5, e6, e7, e8, e9⟩⟩ g c⟩
      · rintro H6 ⟨⟨vs, ds, e1, e2, e3, e4, e5, e6, e7, e8, e9⟩⟩
        have hq6 := e1.pool
        walk_at "go"
        refine Or.inr ⟨_, rfl, ?_⟩
        walk_at "go"
        have emin : (if (999999 : Int) - (if (!decide (vh = V.non)) = true then 1 else 0) < f then (999999 : Int) - (if (!decide (vh = V.non)) = true then 1 else 0) else f) = f := by
          rw [hnon]
          rcases hb.end_ with ⟨rfl, _⟩ | ⟨j, b, rfl, _, h1, h2, _⟩
          · have e : (if (!nonD PyData.none) = true then (1 : Int) else 0) = 0 := rfl
            rw [e, if_neg (by omega)]
          · have e : (if (!nonD (PyData.int j)) = true then (1 : Int) else 0) = 1 := rfl
            rw [e, if_neg (by omega)]
        rw [emin]
        have hvl := e4.len
        rw [List.length_map] at e5 e7
        rw [List.take_length] at e5
        have fin : ∀ (H' : Hp) (a : Addr) (n : Nat), Drew H H' q → SqT K H' a (vs.take n) → DtAll K H' (vs.take n) (ds.take n) → Dt K H' vh hi → Dt K H' vr ri → ∀ tt, H' tt = none → Q (.ref tt) (upd H' tt (.tup [.str "leaf", .int f, vh, vr, .ref a])) := fun H' a n dr hs hds x1 x2 tt ht => by
          have s := same_new (o := .tup [.str "leaf", .int f, vh, vr, .ref a]) ht
          refine k _ (.tuple [.str "leaf", .int f, hi, ri, .tuple (ds.take n)]) _ (dr.same s) (.tup (SqT.of upd_same) (.cons (.str _) (.cons (.int f) (.cons (x1.same s) (.cons (x2.same s) (.cons (.tup (sqT_same s hs) (DtAll.same s hds)) .nil)))))) (leaf_of hb ?_ (fun d hd => ?_) ?_) (leaf_sm hb.sm.1 hb.sm.2.1 hb.sm.2.2 ?_ (fun d hd => ?_))
          · rw [List.length_take]; omega
          · obtain ⟨k1, v1, rfl, m, c, _⟩ := e6 d (List.mem_of_mem_take hd)
            have := kk.ge k1 m
            exact ⟨k1, v1, rfl, by omega, of_decide_eq_true c, this, fun j e => hhi j e k1 m, rfl⟩
          · rw [List.map_take, e5]
            exact (kk.pw.sublist List.filter_sublist).sublist (List.take_sublist _ _)
          · rw [List.length_take]; omega
          · obtain ⟨k1, v1, rfl, m, c, cv⟩ := e6 d (List.mem_of_mem_take hd)
            have := kk.ge k1 m
            have c := of_decide_eq_true c
            exact ⟨k1, v1, rfl, ⟨by omega, by omega⟩, of_decide_eq_true cv⟩
        walk_at "go"
        refine Or.inl ⟨SqL.of e3, fun l hl => ?_⟩
        have s7 := same_new (o := .tup vs) hl
        have hl7 : SqT K (upd H6 l (.tup vs)) l vs := SqT.of upd_same
        have e4' := DtAll.same s7 e4
        have e8' := e8.same s7
        have e9' := e9.same s7
        have d7 := e1.same s7
        generalize upd H6 l (.tup vs) = H7 at *
        have hq7 := d7.pool
        walk_at "go"
        intro r9 H8 r90 r91 d8
        have hl8 := d8.tup hq7 hl7
        have e4'' := DtAll.drew hq7 d8 e4'
        have e8'' := e8'.drew hq7 d8
        have e9'' := e9'.drew hq7 d8
        have dd8 := d7.trans d8
        walk_at "go"
        refine ⟨fun _ => ?_, fun _ p hp => ?_⟩
        · have q0 := fin H8 l vs.length dd8 (by rw [List.take_length]; exact hl8) (e4''.take _) e8'' e9''
          walk_at "go"
          exact q0
        · have s9 := same_new (o := .tup (cutV vs none (some r9))) hp
          have q0 := fin _ p _ (dd8.same s9) (SqT.of upd_same) ((DtAll.same s9 e4'').take _) (e8''.same s9) (e9''.same s9)
          walk_at "go"
          exact q0
    · have n1 : ¬ (("bough" : Str) = "leaf") := by decide +kernel
      refine ⟨fun σ H6 => Wrap (σ = [some (.ref q), some (.str "bough"), some (.int f), some (.ref Lk), v5, some vh, some vr, none, none] ∧ H6 = H5), ?_, ?_⟩
      · walk_at "go"
        with_reducible refine else_ ?_ ?_
        · exact decide_eq_false (fun e => n1 (V.str.inj e))
        exact ⟨rfl, rfl⟩
      rintro σ H6 ⟨rfl, rfl⟩
      walk_at "go"
      intro v0 H7 hv0 d7
      have hv0 : isNumI v0 := hv0
      have dd7 := d5.trans d7
      have hq7 := dd7.pool
      have hL7 := d7.kp _ _ nLk hL5
      have x1 := hvh.drew hq5 d7
      have x2 := hvr.drew hq5 d7
      walk_at "go"
      intro T0 hT0
      have s8 := same_new (o := .tup [.int f, .int v0]) hT0
      have hT8 : SqT K (upd H7 T0 (.tup [.int f, .int v0])) T0 [.int f, .int v0] := SqT.of upd_same
      have dd8 := dd7.same s8
      have hL8 := s8 _ _ hL7
      have x1 := x1.same s8
      have x2 := x2.same s8
      have nT := hq7.ne hT0
      generalize upd H7 T0 (.tup [.int f, .int v0]) = H8 at *
      walk_at "go"
      intro L0 hL0
      have s9 := same_new (o := .lst [.ref T0]) hL0
      have hL09 : upd H8 L0 (.lst [.ref T0]) L0 = some (.lst [.ref T0]) := upd_same
      have dd9 := dd8.same s9
      have hL9 := s9 _ _ hL8
      have hT9 := sqT_same s9 hT8
      have x1 := x1.same s9
      have x2 := x2.same s9
      have nL0 := dd8.pool.ne hL0
      generalize upd H8 L0 (.lst [.ref T0]) = H9 at *
      have hq9 := dd9.pool
      have xs9 : ∃ xs, SqL K H9 Lk xs := ⟨_, SqL.of hL9⟩
      walk_at "go"
      refine Wrap.mk fun D hD => ?_
      have nD := hq9.ne hD
      have nDL : D ≠ Lk := (ne_of_none hL9 hD).symm
      have d0 : Drew H9 H9 q := .refl hq9
      refine lc_it (walk_list (xs := ks.map V.int)) (fun j H6 => Wrap (RowsAt K H9 H6 q D Lk ks vh vr hi ri (fun k => decide (f < k) && decide (k ≤ 999999)) (fun v => decide (isNumI v)) j)) ?_ ?_ ?_ ?_
      · exact ⟨⟨⟨[], [], d0.new hD, by rw [upd_ne nDL.symm]; exact hL9, upd_same, .nil, by simp, fun d hd => by simp at hd, Nat.zero_le _, x1.same (same_new hD), x2.same (same_new hD)⟩⟩⟩
      · exact fun j H6 _ c => by obtain ⟨⟨⟨vs, ds, _, h2, _⟩⟩⟩ := c; exact SqL.of h2
      · rintro j v H6 H7 hj ⟨⟨vs, ds, e1, e2, e3, e4, e5, e6, e7, e8, e9⟩⟩ ⟨rfl, hx⟩
        rw [List.getElem?_map] at hx
        cases g : ks[j]? with
        | none => rw [g] at hx; cases hx
        | some kk1 =>
          rw [g] at hx
          obtain rfl : V.int kk1 = v := Option.some.inj hx
          have hq6 := e1.pool
          have hj7 : j < 7 := by have := (List.getElem?_eq_some_iff.mp g).1; omega
          walk_at "go"
          have hskip : (decide (f < kk1) && decide (kk1 ≤ 999999)) = false → Wrap (RowsAt K H9 H7 q D Lk ks vh vr hi ri (fun k => decide (f < k) && decide (k ≤ 999999)) (fun v => decide (isNumI v)) (j + 1)) := fun c => ⟨RowsAt.skip ⟨⟨vs, ds, e1, e2, e3, e4, e5, e6, e7, e8, e9⟩⟩ g c⟩
          cases c1 : decide (f < kk1) with
          | false =>
            rw [c1, Bool.false_and] at hskip
            with_reducible refine else_ rfl ?_
            walk_at "go"
            exact hskip rfl
          | true =>
            rw [c1, Bool.true_and] at hskip
            with_reducible refine then_ rfl ?_
            walk_at "go"
            cases c2 : decide (kk1 ≤ 999999) with
            | false =>
              with_reducible refine else_ rfl ?_
              exact hskip c2
            | true =>
              with_reducible refine then_ rfl ?_
              walk_at "go"
              intro v8 H8' hv8 d8
              have hv8 : isNumI v8 := hv8
              have hq8 := d8.pool
              have e3' := d8.kp _ _ nD e3
              have hlz : vs.length < sizeLine := small1000 (by omega)
              walk_at "go"
              intro Tp hTp
              have e3'' := same_new (o := .tup [.int kk1, .int v8]) hTp _ _ e3'
              walk_at "go"
              exact ⟨RowsAt.push ⟨vs, ds, rfl, e1, e2, e3, e4, e5, e6, e7, e8, e9⟩ hD nD nDL nLk d8 hTp g (Bool.and_eq_true_iff.mpr ⟨c1, c2⟩) (decide_eq_true hv8)⟩
      · rintro H6 ⟨⟨vs, ds, e1, e2, e3, e4, e5, e6, e7, e8, e9⟩⟩
        have hq6 := e1.pool
        have hL06 := e1.kp _ _ nL0 hL09
        have hT6 := e1.tup hq9 hT9
        have hvl := e4.len
        rw [List.length_map] at e5 e7
        rw [List.take_length] at e5
        have hz : ([V.ref T0] : List V).length + vs.length ≤ sizeLine := Nat.le_of_lt (small1000 (by show 1 + vs.length ≤ 1000; omega))
        walk_at "go"
        intro L2 hL2
        have s7 := same_new (o := .lst ([V.ref T0] ++ vs)) hL2
        have hL27 : upd H6 L2 (.lst ([V.ref T0] ++ vs)) L2 = some (.lst ([V.ref T0] ++ vs)) := upd_same
        have dd := (dd9.trans e1).same s7
        have hT7 := sqT_same s7 hT6
        have y1 := e8.same s7
        have y2 := e9.same s7
        have y3 := DtAll.same s7 e4
        generalize upd H6 L2 (.lst ([V.ref T0] ++ vs)) = H7 at *
        have hq7 := dd.pool
        have nL2 := hq6.ne hL2
        walk_at "go"
        intro lv H8 l0 l1 d8
        have dd8 := dd.trans d8
        have hL8 := d8.kp _ _ nL2 hL27
        have hT8 := d8.tup hq7 hT7
        have y1 := y1.drew hq7 d8
        have y2 := y2.drew hq7 d8
        have y3 := DtAll.drew hq7 d8 y3
        have hq8 := dd8.pool
        walk_at "go"
        refine Or.inl ⟨SqL.of hL8, fun l hl => ?_⟩
        have s9 := same_new (o := .tup ([V.ref T0] ++ vs)) hl
        have hl9 : SqT K (upd H8 l (.tup ([V.ref T0] ++ vs))) l ([V.ref T0] ++ vs) := SqT.of upd_same
        have dd9 := dd8.same s9
        have hT9 := sqT_same s9 hT8
        have y1 := y1.same s9
        have y2 := y2.same s9
        have y3 := DtAll.same s9 y3
        generalize upd H8 l (.tup ([V.ref T0] ++ vs)) = H10 at *
        walk_at "go"
        intro tt ht
        have s := same_new (o := .tup [.str "bough", .int (1 + lv), .int f, vh, vr, .ref l]) ht
        have q0 := k (.ref tt) (.tuple [.str "bough", .int (1 + lv), .int f, hi, ri, .tuple (.tuple [.int f, .int v0] :: ds)]) _ (dd9.same s)
          (.tup (SqT.of upd_same) (.cons (.str _) (.cons (.int _) (.cons (.int f) (.cons (y1.same s) (.cons (y2.same s) (.cons (.tup (sqT_same s hl9) (.cons (.tup (sqT_same s hT9) (.cons (.int f) (.cons (.int v0) .nil))) (DtAll.same s y3))) .nil)))))))
          (bough_of (by omega) (by omega) hb (by rw [List.length_cons]; omega) (fun d hd => by
            rcases List.mem_cons.mp hd with rfl | hd
            · refine ⟨f, v0, rfl, f0, f9, Int.le_refl _, fun j e => ?_, decide_eq_true hv0.1⟩
              rcases hb.end_ with ⟨e2, _⟩ | ⟨j', b, e2, _, h1, _⟩
              · rw [e2] at e; cases e
              · rw [e2] at e; cases e; exact h1
            · obtain ⟨k1, v1, rfl, m, c, cv⟩ := e6 d hd
              have c := Bool.and_eq_true_iff.mp c
              have := kk.ge k1 m
              exact ⟨k1, v1, rfl, by omega, of_decide_eq_true c.2, this, fun j e => hhi j e k1 m, decide_eq_true (of_decide_eq_true cv).1⟩) (by
            show (f :: ds.map keyOf).Pairwise (· < ·)
            rw [e5]
            exact List.pairwise_cons.mpr ⟨fun k1 m => of_decide_eq_true (Bool.and_eq_true_iff.mp (List.mem_filter.mp m).2).1, kk.pw.sublist List.filter_sublist⟩) rfl)
          (bough_sm ⟨by omega, by omega⟩ hb.sm.1 hb.sm.2.1 hb.sm.2.2 (by rw [List.length_cons]; omega) (fun d hd => by
            rcases List.mem_cons.mp hd with rfl | hd
            · exact ⟨f, v0, rfl, hb.sm.1, hv0.2⟩
            · obtain ⟨k1, v1, rfl, m, c, cv⟩ := e6 d hd
              have c := of_decide_eq_true (Bool.and_eq_true_iff.mp c).2
              have := kk.ge k1 m
              exact ⟨k1, v1, rfl, ⟨by omega, by omega⟩, (of_decide_eq_true cv).2⟩))
        exact q0

def spDrawn (K : PySem.W.Frag) : Sp := fun vs H Q _ => ∃ q : Addr, vs = [.ref q] ∧ PoolAt H q ∧ ∀ (x : V) (d : PyData) (H' : Hp), Drew H H' q → Dt K H' x d → recD d = true → SmR d → Q x H'
abbrev words : List Str := drawWords
theorem inS (z : Str) (ws : List Str) : inV (.str z) (ws.map V.str) = decide (z ∈ ws) := by
  unfold inV
  rw [Bool.eq_iff_iff, decide_eq_true_iff, List.any_eq_true]
  constructor
  · rintro ⟨y, hy, e⟩
    obtain ⟨a, ha, rfl⟩ := List.mem_map.mp hy
    have e : (a == z) = true := e
    rw [← eq_of_beq e]; exact ha
  · intro h
    exact ⟨.str z, List.mem_map_of_mem h, beq_self_eq_true z⟩
theorem numD_of {i : Int} (h : 0 ≤ i) : numD (.int i) = true := decide_eq_true h
theorem ok_drawn_record (T : Txt w K mg A) : FnOk P w K mg base CX0 4 A.a_drawn_record A.d_drawn_record ["_law_pool_here"] (spDrawn K) := by
  refine T.F_drawn_record.ok sc_drawn_record (fun vs H Q E h => ?_) (fun cdv A' outer s H vs Q E hr h => ?_)
  · obtain ⟨q, rfl, _⟩ := h
    rfl
  · obtain ⟨q, rfl, hq, k⟩ := h
    refine ⟨_, (pss_cons (ps_set (i := 1) sc_drawn_record.nd rfl (Or.inl rfl) (pe_lst (pa_cons pe_str (pa_cons pe_str (pa_cons pe_str (pa_cons pe_str (pa_cons pe_str (pa_cons pe_str (pa_cons pe_str (pa_cons pe_str (pa_cons pe_str (pa_cons pe_str (pa_cons pe_str (pa_cons pe_str pa_nil))))))))))))))
      (cutAt (ps_set (i := 2) sc_drawn_record.nd rfl (Or.inl rfl) (pe_ix ix_list (pv 1) (pe_call (ok_takeD T) (hr.mono (by decide)) rfl T.m_take T.F_take.kp T.b_take .nil pass0 (pa_cons (pv 0) (pa_cons pe_int pa_nil))) (fun _ _ => rfl)))
      (cutAt (ps_if (pt_cmpR op_in_seq (pv 2) (pe_lst (pa_cons pe_str (pa_cons pe_str pa_nil))) rfl)
      (pss_one (ps_ret (pe_call (ok_drawn_base T) (hr.mono (by decide)) rfl T.m_drawn_base T.F_drawn_base.kp T.b_drawn_base .nil pass0 (pa_cons (pv 0) (pa_cons (pv 2) pa_nil)))))
      pss_nil)
      (cutAt (ps_if (pt_cmpR op_in_seq (pv 2) (pe_lst (pa_cons pe_str (pa_cons pe_str (pa_cons pe_str pa_nil)))) rfl)
      (pss_one (ps_ret (pe_slice sl_tupA (pe_tup (pa_cons (pv 2) (pa_cons (pe_call (ok_number T) (hr.mono (by decide)) rfl T.m_number T.F_number.kp T.b_number .nil pass0 (pa_cons (pv 0) pa_nil)) (pa_cons (pe_call (ok_number T) (hr.mono (by decide)) rfl T.m_number T.F_number.kp T.b_number .nil pass0 (pa_cons (pv 0) pa_nil)) pa_nil)))) po_none (po_some (pe_op op_sub pe_int (pe_callTy call_int1 (by rfl) T.n_int (by decide +kernel) (pa_cons (pe_cmpR op_eq (pv 2) pe_str (nomark _)) pa_nil)))))))
      pss_nil)
      (cutAt (ps_if (pt_cmpR op_in_seq (pv 2) (pe_lst (pa_cons pe_str (pa_cons pe_str pa_nil))) rfl)
      (pss_one (ps_ret (pe_tup (pa_cons (pv 2) (pa_cons (pe_call (ok_key T) (hr.mono (by decide)) rfl T.m_key T.F_key.kp T.b_key .nil pass0 (pa_cons (pv 0) pa_nil)) (pa_cons (pe_call (ok_number T) (hr.mono (by decide)) rfl T.m_number T.F_number.kp T.b_number .nil pass0 (pa_cons (pv 0) pa_nil)) pa_nil))))))
      pss_nil)
      (cutAt (ps_if (pt_cmpR op_eq (pv 2) pe_str (nomark _))
      (pss_one (ps_ret (pe_tup (pa_cons (pv 2) (pa_cons (pe_call (ok_key T) (hr.mono (by decide)) rfl T.m_key T.F_key.kp T.b_key .nil pass0 (pa_cons (pv 0) pa_nil)) (pa_cons (pe_call (ok_value T) (hr.mono (by decide)) rfl T.m_value T.F_value.kp T.b_value .nil pass0 (pa_cons (pv 0) pa_nil)) (pa_cons (pe_call (ok_number T) (hr.mono (by decide)) rfl T.m_number T.F_number.kp T.b_number .nil pass0 (pa_cons (pv 0) pa_nil)) pa_nil)))))))
      pss_nil)
      (cutAt (ps_if (pt_cmpR op_in_seq (pv 2) (pe_lst (pa_cons pe_str (pa_cons pe_str pa_nil))) rfl)
      (pss_one (ps_ret (pe_tup (pa_cons (pv 2) (pa_cons (pe_call (ok_key T) (hr.mono (by decide)) rfl T.m_key T.F_key.kp T.b_key .nil pass0 (pa_cons (pv 0) pa_nil)) (pa_cons (pe_call (ok_number T) (hr.mono (by decide)) rfl T.m_number T.F_number.kp T.b_number .nil pass0 (pa_cons (pv 0) pa_nil)) (pa_cons (pe_call (ok_number T) (hr.mono (by decide)) rfl T.m_number T.F_number.kp T.b_number .nil pass0 (pa_cons (pv 0) pa_nil)) pa_nil)))))))
      pss_nil)
      (pss_one (ps_ret (pe_tup (pa_cons (pv 2) (pa_cons (pe_call (ok_key T) (hr.mono (by decide)) rfl T.m_key T.F_key.kp T.b_key .nil pass0 (pa_cons (pv 0) pa_nil)) (pa_cons (pe_call (ok_number T) (hr.mono (by decide)) rfl T.m_number T.F_number.kp T.b_number .nil pass0 (pa_cons (pv 0) pa_nil)) (pa_cons (pe_call (ok_number T) (hr.mono (by decide)) rfl T.m_number T.F_number.kp T.b_number .nil pass0 (pa_cons (pv 0) pa_nil)) (pa_cons (pe_call (ok_number T) (hr.mono (by decide)) rfl T.m_number T.F_number.kp T.b_number .nil pass0 (pa_cons (pv 0) pa_nil)) pa_nil))))))))))))))), ?_⟩
    walk_at "go"
    intro W hW
    have nW := hq.ne hW
    have hW1 : upd H W (.lst (words.map V.str)) W = some (.lst (words.map V.str)) := upd_same
    have d1 := (Drew.refl hq).new (o := .lst (words.map V.str)) hW
    have eW : upd H W (.lst [.str "leaf", .str "bough", .str "moved", .str "put", .str "take", .str "part", .str "entry", .str "less", .str "gone", .str "join", .str "joining", .str "lowering"]) = upd H W (.lst (words.map V.str)) := rfl
    rw [eW]
    have hq1 := d1.pool
    generalize upd H W (.lst (words.map V.str)) = H1 at *
    clear eW
    walk_at "go"
    refine ⟨fun σ H3 => Wrap (∃ z : Str, σ = [some (.ref q), some (.ref W), some (.str z)] ∧ Drew H H3 q ∧ z ∈ words), ?_, ?_⟩
    · walk_at "go"
      intro r1 H2 r10 r11 d2
      have hW2 := d2.kp _ _ nW hW1
      obtain ⟨n, rfl⟩ : ∃ n : Nat, r1 = (n : Int) := ⟨r1.toNat, by omega⟩
      have hn : n < words.length := by show n < 12; omega
      have a0 : atI (words.map V.str) (n : Int) = some (.str words[n]) := atI_nat (by rw [List.getElem?_map, List.getElem?_eq_getElem hn]; rfl)
      walk_at "go"
      exact ⟨_, rfl, d1.trans d2, List.getElem_mem hn⟩
    rintro σ H3 ⟨z, rfl, d3, hz⟩
    have hq3 := d3.pool
    refine ⟨fun σ H4 => Wrap (σ = [some (.ref q), some (.ref W), some (.str z)] ∧ Drew H H4 q ∧ z ∉ (["leaf", "bough"] : List Str)), ?_, ?_⟩
    · walk_at "go"
      intro L hL
      have d9 := d3.new (o := .lst [V.str "leaf", V.str "bough"]) hL
      have hL9 : upd H3 L (.lst [V.str "leaf", V.str "bough"]) L = some (.lst [V.str "leaf", V.str "bough"]) := upd_same
      have fl : List.all [V.str "leaf", V.str "bough"] flatV = true := rfl
      generalize upd H3 L (.lst [V.str "leaf", V.str "bough"]) = H9 at *
      have hq9 := d9.pool
      walk_at "go"
      with_reducible refine by2 (fun c => ?_) (fun c => ?_)
      · have c : z ∈ (["leaf", "bough"] : List Str) := of_decide_eq_true ((inS z ["leaf", "bough"]).symm.trans c)
        have hc : z = "leaf" ∨ z = "bough" := by simpa using c
        walk_at "go"
        exact fun x d H' e => k x d H' (d9.trans e)
      · have c : z ∉ (["leaf", "bough"] : List Str) := of_decide_eq_false ((inS z ["leaf", "bough"]).symm.trans c)
        exact ⟨rfl, d9, c⟩
    rintro σ H4 ⟨rfl, d4, x0⟩
    have hq4 := d4.pool
    refine ⟨fun σ H5 => Wrap (σ = [some (.ref q), some (.ref W), some (.str z)] ∧ Drew H H5 q ∧ z ∉ (["moved", "gone", "lowering"] : List Str)), ?_, ?_⟩
    · walk_at "go"
      intro L hL
      have d9 := d4.new (o := .lst [V.str "moved", V.str "gone", V.str "lowering"]) hL
      have hL9 : upd H4 L (.lst [V.str "moved", V.str "gone", V.str "lowering"]) L = some (.lst [V.str "moved", V.str "gone", V.str "lowering"]) := upd_same
      have fl : List.all [V.str "moved", V.str "gone", V.str "lowering"] flatV = true := rfl
      generalize upd H4 L (.lst [V.str "moved", V.str "gone", V.str "lowering"]) = H9 at *
      have hq9 := d9.pool
      walk_at "go"
      with_reducible refine by2 (fun c => ?_) (fun c => ?_)
      · have c : z ∈ (["moved", "gone", "lowering"] : List Str) := of_decide_eq_true ((inS z ["moved", "gone", "lowering"]).symm.trans c)
        have hc : z = "moved" ∨ z = "gone" ∨ z = "lowering" := by simpa using c
        walk_at "go"
        intro v10 G10 n0_10 e10
        have b0_10 : IB v10 := n0_10.2
        have n0_10 : 0 ≤ v10 := n0_10.1
        have dr10 := d9.trans e10
        have hq10_ := dr10.pool
        walk_at "go"
        intro v11 G11 n0_11 e11
        have b0_11 : IB v11 := n0_11.2
        have n0_11 : 0 ≤ v11 := n0_11.1
        have dr11 := dr10.trans e11
        have hq11_ := dr11.pool
        walk_at "go"
        intro tt ht
        have s := same_new (o := .tup [.str z, .int v10, .int v11]) ht
        have dd := dr11.same s
        have ht9 : SqT K (upd G11 tt (.tup [.str z, .int v10, .int v11])) tt [.str z, .int v10, .int v11] := SqT.of upd_same
        generalize upd G11 tt (.tup [.str z, .int v10, .int v11]) = G at *
        walk_at "go"
        refine Or.inr ⟨_, rfl, ?_⟩
        walk_at "go"
        rcases hc with rfl | rfl | rfl
        · refine ⟨fun w => ?_, fun _ p hp => ?_⟩
          · exact absurd (show HT.sIx 3 0 none = 0 ∧ HT.sIx 3 3 (some (3 - if decide (V.str "moved" = V.str "moved") = true then 1 else 0)) = 3 from w) (by decide +kernel)
          · have s2 := same_new (o := .tup [.str "moved", .int v10]) hp
            have q0 := k (.ref p) (.tuple [.str "moved", .int v10]) _ (dd.same s2) (.tup (SqT.of upd_same) (.cons (.str _) (.cons (.int _) .nil))) (form_of (ks := [.num]) (by decide +kernel) (by decide +kernel) (by decide +kernel) rfl (by
              show (numD (.int v10) && true) = true
              rw [numD_of n0_10]; rfl)) (form_sm (ns := [v10]) hz (by simp) (fun n hn => by simp only [List.mem_cons, List.not_mem_nil, or_false] at hn; rcases hn with rfl; all_goals assumption))
            exact q0
        · refine ⟨fun _ => ?_, fun w => absurd (show HT.sIx 3 0 none = 0 ∧ HT.sIx 3 3 (some (3 - if decide (V.str "gone" = V.str "moved") = true then 1 else 0)) = 3 by decide +kernel) w⟩
          exact k (.ref tt) (.tuple [.str "gone", .int v10, .int v11]) G dd (.tup ht9 (.cons (.str _) (.cons (.int _) (.cons (.int _) .nil)))) (form_of (ks := [.num, .num]) (by decide +kernel) (by decide +kernel) (by decide +kernel) rfl (by
            show (numD (.int v10) && (numD (.int v11) && true)) = true
            rw [numD_of n0_10, numD_of n0_11]; rfl)) (form_sm (ns := [v10, v11]) hz (by simp) (fun n hn => by simp only [List.mem_cons, List.not_mem_nil, or_false] at hn; rcases hn with rfl | rfl; all_goals assumption))
        · refine ⟨fun _ => ?_, fun w => absurd (show HT.sIx 3 0 none = 0 ∧ HT.sIx 3 3 (some (3 - if decide (V.str "lowering" = V.str "moved") = true then 1 else 0)) = 3 by decide +kernel) w⟩
          exact k (.ref tt) (.tuple [.str "lowering", .int v10, .int v11]) G dd (.tup ht9 (.cons (.str _) (.cons (.int _) (.cons (.int _) .nil)))) (form_of (ks := [.num, .num]) (by decide +kernel) (by decide +kernel) (by decide +kernel) rfl (by
            show (numD (.int v10) && (numD (.int v11) && true)) = true
            rw [numD_of n0_10, numD_of n0_11]; rfl)) (form_sm (ns := [v10, v11]) hz (by simp) (fun n hn => by simp only [List.mem_cons, List.not_mem_nil, or_false] at hn; rcases hn with rfl | rfl; all_goals assumption))
      · have c : z ∉ (["moved", "gone", "lowering"] : List Str) := of_decide_eq_false ((inS z ["moved", "gone", "lowering"]).symm.trans c)
        exact ⟨rfl, d9, c⟩
    rintro σ H5 ⟨rfl, d5, x1⟩
    have hq5 := d5.pool
    refine ⟨fun σ H6 => Wrap (σ = [some (.ref q), some (.ref W), some (.str z)] ∧ Drew H H6 q ∧ z ∉ (["take", "less"] : List Str)), ?_, ?_⟩
    · walk_at "go"
      intro L hL
      have d9 := d5.new (o := .lst [V.str "take", V.str "less"]) hL
      have hL9 : upd H5 L (.lst [V.str "take", V.str "less"]) L = some (.lst [V.str "take", V.str "less"]) := upd_same
      have fl : List.all [V.str "take", V.str "less"] flatV = true := rfl
      generalize upd H5 L (.lst [V.str "take", V.str "less"]) = H9 at *
      have hq9 := d9.pool
      walk_at "go"
      with_reducible refine by2 (fun c => ?_) (fun c => ?_)
      · have c : z ∈ (["take", "less"] : List Str) := of_decide_eq_true ((inS z ["take", "less"]).symm.trans c)
        have hc : z = "take" ∨ z = "less" := by simpa using c
        walk_at "go"
        intro v12 G12 ⟨k0_12, k9_12⟩ e12
        have b0_12 : IB v12 := ⟨by omega, by omega⟩
        have dr12 := d9.trans e12
        have hq12_ := dr12.pool
        walk_at "go"
        intro v13 G13 n0_13 e13
        have b0_13 : IB v13 := n0_13.2
        have n0_13 : 0 ≤ v13 := n0_13.1
        have dr13 := dr12.trans e13
        have hq13_ := dr13.pool
        walk_at "go"
        intro tt ht
        have s := same_new (o := .tup [.str z, .int v12, .int v13]) ht
        refine k (.ref tt) (.tuple [.str z, .int v12, .int v13]) _ (dr13.same s) (.tup (SqT.of upd_same) (.cons (.str z) (.cons (.int v12) (.cons (.int v13) .nil)))) ?_ (form_sm (ns := [v12, v13]) hz (by simp) (fun n hn => by simp only [List.mem_cons, List.not_mem_nil, or_false] at hn; rcases hn with rfl | rfl; all_goals assumption))
        refine form_of (ks := [.key, .num]) ?_ ?_ ?_ rfl ?_
        · rcases hc with rfl | rfl <;> decide +kernel
        · rcases hc with rfl | rfl <;> decide +kernel
        · rcases hc with rfl | rfl <;> decide +kernel
        · show (keyD (.int v12) && (numD (.int v13) && true)) = true
          rw [keyD_of k0_12 k9_12, numD_of n0_13]; rfl
      · have c : z ∉ (["take", "less"] : List Str) := of_decide_eq_false ((inS z ["take", "less"]).symm.trans c)
        exact ⟨rfl, d9, c⟩
    rintro σ H6 ⟨rfl, d6, x2⟩
    have hq6 := d6.pool
    refine ⟨fun σ H7 => Wrap (σ = [some (.ref q), some (.ref W), some (.str z)] ∧ Drew H H7 q ∧ z ≠ "put"), ?_, ?_⟩
    · walk_at "go"
      with_reducible refine by2 (fun c => ?_) (fun c => ?_)
      · have hc : z = "put" := V.str.inj (of_decide_eq_true c)
        walk_at "go"
        intro v14 G14 ⟨k0_14, k9_14⟩ e14
        have b0_14 : IB v14 := ⟨by omega, by omega⟩
        have dr14 := d6.trans e14
        have hq14_ := dr14.pool
        walk_at "go"
        intro v15 G15 b0_15 e15
        have b0_15 : IB v15 := b0_15
        have dr15 := dr14.trans e15
        have hq15_ := dr15.pool
        walk_at "go"
        intro v16 G16 n0_16 e16
        have b0_16 : IB v16 := n0_16.2
        have n0_16 : 0 ≤ v16 := n0_16.1
        have dr16 := dr15.trans e16
        have hq16_ := dr16.pool
        walk_at "go"
        intro tt ht
        have s := same_new (o := .tup [.str z, .int v14, .int v15, .int v16]) ht
        refine k (.ref tt) (.tuple [.str z, .int v14, .int v15, .int v16]) _ (dr16.same s) (.tup (SqT.of upd_same) (.cons (.str z) (.cons (.int v14) (.cons (.int v15) (.cons (.int v16) .nil))))) ?_ (form_sm (ns := [v14, v15, v16]) hz (by simp) (fun n hn => by simp only [List.mem_cons, List.not_mem_nil, or_false] at hn; rcases hn with rfl | rfl | rfl; all_goals assumption))
        refine form_of (ks := [.key, .whole, .num]) ?_ ?_ ?_ rfl ?_
        · subst hc; decide +kernel
        · subst hc; decide +kernel
        · subst hc; decide +kernel
        · show (keyD (.int v14) && (wholeD (.int v15) && (numD (.int v16) && true))) = true
          rw [keyD_of k0_14 k9_14, numD_of n0_16]; rfl
      · exact ⟨rfl, d6, fun e => of_decide_eq_false c (congrArg V.str e)⟩
    rintro σ H7 ⟨rfl, d7, x3⟩
    have hq7 := d7.pool
    refine ⟨fun σ H8 => Wrap (σ = [some (.ref q), some (.ref W), some (.str z)] ∧ Drew H H8 q ∧ z ∉ (["part", "entry"] : List Str)), ?_, ?_⟩
    · walk_at "go"
      intro L hL
      have d9 := d7.new (o := .lst [V.str "part", V.str "entry"]) hL
      have hL9 : upd H7 L (.lst [V.str "part", V.str "entry"]) L = some (.lst [V.str "part", V.str "entry"]) := upd_same
      have fl : List.all [V.str "part", V.str "entry"] flatV = true := rfl
      generalize upd H7 L (.lst [V.str "part", V.str "entry"]) = H9 at *
      have hq9 := d9.pool
      walk_at "go"
      with_reducible refine by2 (fun c => ?_) (fun c => ?_)
      · have c : z ∈ (["part", "entry"] : List Str) := of_decide_eq_true ((inS z ["part", "entry"]).symm.trans c)
        have hc : z = "part" ∨ z = "entry" := by simpa using c
        walk_at "go"
        intro v17 G17 ⟨k0_17, k9_17⟩ e17
        have b0_17 : IB v17 := ⟨by omega, by omega⟩
        have dr17 := d9.trans e17
        have hq17_ := dr17.pool
        walk_at "go"
        intro v18 G18 n0_18 e18
        have b0_18 : IB v18 := n0_18.2
        have n0_18 : 0 ≤ v18 := n0_18.1
        have dr18 := dr17.trans e18
        have hq18_ := dr18.pool
        walk_at "go"
        intro v19 G19 n0_19 e19
        have b0_19 : IB v19 := n0_19.2
        have n0_19 : 0 ≤ v19 := n0_19.1
        have dr19 := dr18.trans e19
        have hq19_ := dr19.pool
        walk_at "go"
        intro tt ht
        have s := same_new (o := .tup [.str z, .int v17, .int v18, .int v19]) ht
        refine k (.ref tt) (.tuple [.str z, .int v17, .int v18, .int v19]) _ (dr19.same s) (.tup (SqT.of upd_same) (.cons (.str z) (.cons (.int v17) (.cons (.int v18) (.cons (.int v19) .nil))))) ?_ (form_sm (ns := [v17, v18, v19]) hz (by simp) (fun n hn => by simp only [List.mem_cons, List.not_mem_nil, or_false] at hn; rcases hn with rfl | rfl | rfl; all_goals assumption))
        refine form_of (ks := [.key, .num, .num]) ?_ ?_ ?_ rfl ?_
        · rcases hc with rfl | rfl <;> decide +kernel
        · rcases hc with rfl | rfl <;> decide +kernel
        · rcases hc with rfl | rfl <;> decide +kernel
        · show (keyD (.int v17) && (numD (.int v18) && (numD (.int v19) && true))) = true
          rw [keyD_of k0_17 k9_17, numD_of n0_18, numD_of n0_19]; rfl
      · have c : z ∉ (["part", "entry"] : List Str) := of_decide_eq_false ((inS z ["part", "entry"]).symm.trans c)
        exact ⟨rfl, d9, c⟩
    rintro σ H8 ⟨rfl, d8, x4⟩
    have hq8 := d8.pool
    have hc : z = "join" ∨ z = "joining" := by
      have e : z = "leaf" ∨ z = "bough" ∨ z = "moved" ∨ z = "put" ∨ z = "take" ∨ z = "part" ∨ z = "entry" ∨ z = "less" ∨ z = "gone" ∨ z = "join" ∨ z = "joining" ∨ z = "lowering" := by simpa [words, drawWords] using hz
      rcases e with rfl | rfl | rfl | rfl | rfl | rfl | rfl | rfl | rfl | rfl | rfl | rfl
      · exact absurd (by simp) x0
      · exact absurd (by simp) x0
      · exact absurd (by simp) x1
      · exact absurd rfl x3
      · exact absurd (by simp) x2
      · exact absurd (by simp) x4
      · exact absurd (by simp) x4
      · exact absurd (by simp) x2
      · exact absurd (by simp) x1
      · exact .inl rfl
      · exact .inr rfl
      · exact absurd (by simp) x1
    walk_at "go"
    intro v20 G20 ⟨k0_20, k9_20⟩ e20
    have b0_20 : IB v20 := ⟨by omega, by omega⟩
    have dr20 := d8.trans e20
    have hq20_ := dr20.pool
    walk_at "go"
    intro v21 G21 n0_21 e21
    have b0_21 : IB v21 := n0_21.2
    have n0_21 : 0 ≤ v21 := n0_21.1
    have dr21 := dr20.trans e21
    have hq21_ := dr21.pool
    walk_at "go"
    intro v22 G22 n0_22 e22
    have b0_22 : IB v22 := n0_22.2
    have n0_22 : 0 ≤ v22 := n0_22.1
    have dr22 := dr21.trans e22
    have hq22_ := dr22.pool
    walk_at "go"
    intro v23 G23 n0_23 e23
    have b0_23 : IB v23 := n0_23.2
    have n0_23 : 0 ≤ v23 := n0_23.1
    have dr23 := dr22.trans e23
    have hq23_ := dr23.pool
    walk_at "go"
    intro tt ht
    have s := same_new (o := .tup [.str z, .int v20, .int v21, .int v22, .int v23]) ht
    refine k (.ref tt) (.tuple [.str z, .int v20, .int v21, .int v22, .int v23]) _ (dr23.same s) (.tup (SqT.of upd_same) (.cons (.str z) (.cons (.int v20) (.cons (.int v21) (.cons (.int v22) (.cons (.int v23) .nil)))))) ?_ (form_sm (ns := [v20, v21, v22, v23]) hz (by simp) (fun n hn => by simp only [List.mem_cons, List.not_mem_nil, or_false] at hn; rcases hn with rfl | rfl | rfl | rfl; all_goals assumption))
    refine form_of (ks := [.key, .num, .num, .num]) ?_ ?_ ?_ rfl ?_
    · rcases hc with rfl | rfl <;> decide +kernel
    · rcases hc with rfl | rfl <;> decide +kernel
    · rcases hc with rfl | rfl <;> decide +kernel
    · show (keyD (.int v20) && (numD (.int v21) && (numD (.int v22) && (numD (.int v23) && true)))) = true
      rw [keyD_of k0_20 k9_20, numD_of n0_21, numD_of n0_22, numD_of n0_23]; rfl

/-! ### repr of a list of dicts, their values tuples of tuples, numbers and texts -/
def keyP : Key → PyData
  | .inl i => .int i
  | .inr z => .str z
section
variable {X : Cx} {pins : List (Addr × Obj)} {σ : St} {H : Hp} {s : Shared}
mutual
theorem Dt.reads (I : Inv X pins σ H s) : ∀ {v : V} {d : PyData} {u : Value}, Dt X.K H v d → RelV v u → Reads s.heap u d []
  | _, _, _, .non, r => by cases r; exact Reads.none
  | _, _, _, .bl b, r => by cases r; exact Reads.bool b
  | _, _, _, .int i, r => by obtain ⟨t, rfl⟩ := r; exact Reads.int i t
  | _, _, _, .str z, r => by obtain ⟨t, rfl⟩ := r; exact Reads.str z t
  | _, _, _, .tup hs ha, r => by
    cases r
    obtain ⟨its, rv, ⟨o, ho, hc, n, hd⟩, _⟩ := I.tuple hs
    exact Reads.tuple ho hc hd (by simpa using DtAll.reads I ha rv)
theorem DtAll.reads (I : Inv X pins σ H s) : ∀ {vs : List V} {ds : List PyData} {us : List Value}, DtAll X.K H vs ds → Vals vs us → ReadsAll s.heap us ds []
  | _, _, _, .nil, .nil => ReadsAll.nil
  | _, _, _, .cons a t, .cons r rr => by
    have q := ReadsAll.cons (Dt.reads I a r) (DtAll.reads I t rr)
    simpa using q
end
theorem pairs_reads {h : Heap} {P : Program} {w : World} : ∀ {es : List DictEntry} {kvs : List (Key × Value)}, Pairs (mixKind P w) es kvs → ReadsAll h (es.map (·.key)) (kvs.map fun p => keyP p.1) [] ∧ es.map (·.val) = kvs.map (·.2)
  | _, _, .nil => ⟨ReadsAll.nil, rfl⟩
  | _, _, .cons (e := e) (kv := kv) h1 h2 t => by
    obtain ⟨a, b⟩ := pairs_reads (h := h) t
    have hk : Reads h e.key (keyP kv.1) [] := by
      rcases keyIs_shape (show keyIs kv.1 e.key = true from h1) with ⟨i, t, e1, e2⟩ | ⟨z, t, e1, e2⟩
      · rw [e1, e2]; exact Reads.int i t
      · rw [e1, e2]; exact Reads.str z t
    refine ⟨by simpa using ReadsAll.cons hk a, ?_⟩
    rw [List.map_cons, List.map_cons, h2, b]
/-- a dict as data -/
def dictP (kvs : List (Key × V)) (ds : List PyData) : PyData := .dict ((kvs.map fun p => keyP p.1).zip ds)
theorem zip_fst {α β : Type} : ∀ {l : List α} {r : List β}, l.length = r.length → (l.zip r).map (·.1) = l
  | [], [], _ => rfl
  | [], _ :: _, h => by cases h
  | _ :: _, [], h => by cases h
  | a :: l, b :: r, h => congrArg (a :: ·) (zip_fst (Nat.succ.inj h))
theorem zip_snd {α β : Type} : ∀ {l : List α} {r : List β}, l.length = r.length → (l.zip r).map (·.2) = r
  | [], [], _ => rfl
  | [], _ :: _, h => by cases h
  | _ :: _, [], h => by cases h
  | a :: l, b :: r, h => congrArg (b :: ·) (zip_snd (Nat.succ.inj h))
theorem kv_keys {kvs : List (Key × V)} {vs : List (Key × Value)} (r : KV kvs vs) : kvs.map (·.1) = vs.map (·.1) ∧ Vals (kvs.map (·.2)) (vs.map (·.2)) := by
  unfold KV at r
  induction r with
  | nil => exact ⟨rfl, .nil⟩
  | cons h _ ih => exact ⟨by rw [List.map_cons, List.map_cons, h.1, ih.1], .cons h.2 ih.2⟩
theorem dict_reads (I : Inv X pins σ H s) {a : Addr} {kvs : List (Key × V)} {ds : List PyData} (ha : H a = some (.dK kvs)) (hv : DtAll X.K H (kvs.map (·.2)) ds) : Reads s.heap (.ref a) (dictP kvs ds) [a] ∧ sysModules ≠ a := by
  obtain ⟨_, hy, vs, rel, o, es, ep, ho, hx, hd, _, hp, _⟩ := dk_of I.hok ha
  obtain ⟨k1, k2⟩ := kv_keys rel
  obtain ⟨r1, r2⟩ := pairs_reads (h := s.heap) hp
  have hl : (kvs.map fun p => keyP p.1).length = ds.length := by rw [List.length_map, ← hv.len, List.length_map]
  have e1 : vs.map (fun p => keyP p.1) = kvs.map fun p => keyP p.1 := by
    have := congrArg (List.map keyP) k1
    rw [List.map_map, List.map_map] at this
    exact this.symm
  refine ⟨?_, fun e => by rw [← e] at hy; simp at hy⟩
  have q := Reads.dict (kvs := (kvs.map fun p => keyP p.1).zip ds) (as := []) (bs := []) ho hx.1 hd (by rw [zip_fst hl, ← e1]; exact r1) (by rw [zip_snd hl, r2]; exact DtAll.reads I hv k2)
  exact q
/-- repr([d, e]), dicts -/
def rRepr2 (K : PySem.W.Frag) : List V → Hp → VK → Prop := fun xs H Q => ∃ (l a b : Addr) (ks ls : List (Key × V)) (ds es : List PyData), xs = [.ref l] ∧ H l = some (.lst [.ref a, .ref b]) ∧ H a = some (.dK ks) ∧ H b = some (.dK ls) ∧ DtAll K H (ks.map (·.2)) ds ∧ DtAll K H (ls.map (·.2)) es ∧
  (PyData.list [dictP ks ds, dictP ls es]).showable = true ∧ (PyData.list [dictP ks ds, dictP ls es]).depth ≤ 60 ∧ (PyData.list [dictP ks ds, dictP ls es]).shown.length ≤ 16000000 ∧ Q (.str (PyData.list [dictP ks ds, dictP ls es]).shown) H
theorem call_repr2 (hgd : X.A.guards = some []) (hu : X.A.units + 64 < cLine) : CallR X (.builtin "repr") (rRepr2 X.K) := by
  intro pins s σ H xs us Q I r h
  obtain ⟨l, a, b, ks, ls, ds, es, rfl, hl, ha, hb, hds, hes, hsh, hdp, hz, q⟩ := h
  obtain ⟨u, rfl, rx⟩ := vals1 r
  obtain rfl : u = Value.ref l := rx
  obtain ⟨its, rv, ⟨o, n, ho, hc, _, hd⟩, _⟩ := I.list (SqL.of hl)
  obtain ⟨ra, na⟩ := dict_reads I ha hds
  obtain ⟨rb, nb⟩ := dict_reads I hb hes
  have hits : its = [.ref a, .ref b] := by
    cases rv with
    | cons r1 rr =>
      cases rr with
      | cons r2 rr =>
        cases rr
        cases r1; cases r2; rfl
  subst hits
  have rl : ReadsAll s.heap [.ref a, .ref b] [dictP ks ds, dictP ls es] ([a] ++ ([b] ++ [])) := .cons ra (.cons rb .nil)
  have r0 : Reads s.heap (.ref l) (.list [dictP ks ds, dictP ls es]) (l :: ([a] ++ ([b] ++ []))) := Reads.list ho hc hd (by simpa using rl)
  have hsz : (PyData.list [dictP ks ds, dictP ls es]).shown.length ≤ sizeLine := Nat.le_trans hz (by rw [sizeLine_eq]; decide)
  have hz' : (listText (PyData.shownAll [dictP ks ds, dictP ls es])).length ≤ sizeLine := by simpa only [PyData.shown] using hsz
  obtain ⟨bs, hbs, hk⟩ := ReprAllK.of_readsAll (prog := X.prog) (w := X.w) rl (by simpa [PyData.showable] using hsh) (fun _ hm => by
    simp at hm
    rcases hm with e | e
    · exact na e
    · exact nb e) (fun t ht => Nat.le_trans (listText_mem_le ht) hz')
  have hna : l ∉ bs := not_mem_of_deeper r0 (by simp only [PyData.depth]; omega) hbs
  have hq : (PyData.list [dictP ks ds, dictP ls es]).shown = listText (PyData.shownAll [dictP ks ds, dictP ls es]) := by simp only [PyData.shown]
  have hdp' : PyData.depthAll [dictP ks ds, dictP ls es] + 1 ≤ 60 := by simpa only [PyData.depth] using hdp
  refine call_repr_slot (by omega) ⟨o, ho, hc⟩ F.slot_list_repr.toG ?_
  refine call_list_reprK ho hc hd hna (by simpa using hk.length_eq) (fun i y e => hk.item i y (by simpa using e)) hgd (fun b _ => Clear.nil b) (by show X.A.units + 1 + (PyData.depthAll [dictP ks ds, dictP ls es] + 1) < cLine; omega) (fun _ _ e => e) (fun h' u' tk hkp => ?_) hz'
  refine ⟨_, u', rfl, ?_⟩
  rw [← hq]
  exact ⟨.str _, H, I.kept (t' := tk) hkp, ⟨_, rfl⟩, q⟩
end

/-! ### k08: what its defs promise -/
/-! ### dicts that tell the same; stores beside own dicts -/
theorem putK_len_in {kvs : List (Key × V)} {k : Key} {u : V} (v : V) (h : valV kvs k = some u) : (putK kvs k v).length = kvs.length := by
  unfold putK
  rw [valV_any, h]
  simp
theorem putK_keys_in {kvs : List (Key × V)} {k : Key} {u : V} (v : V) (h : valV kvs k = some u) : (putK kvs k v).map (·.1) = kvs.map (·.1) := by
  unfold putK
  rw [valV_any, h]
  simp only [Option.isSome_some, if_true]
  rw [List.map_map]
  refine List.map_congr_left fun p _ => ?_
  by_cases c : p.1 = k
  · simp [c]
  · simp [c]
theorem IntD.put {kvs : List (Key × V)} (h : IntD kvs) (i : Int) (v : V) : IntD (putK kvs (Sum.inl i) v) := by
  obtain ⟨⟨ks, e⟩, nd⟩ := h
  cases c : valV kvs (Sum.inl i) with
  | none =>
    refine ⟨⟨ks ++ [i], ?_⟩, nd_putK v nd c⟩
    rw [putK_new v c, List.map_append, e, List.map_append]; rfl
  | some u => exact ⟨⟨ks, by rw [putK_keys_in v c]; exact e⟩, by rw [putK_keys_in v c]; exact nd⟩
theorem dropK_keys (k : Key) : ∀ kvs : List (Key × V), (dropK kvs k).map (·.1) = (kvs.map (·.1)).filter fun j => decide (j ≠ k)
  | [] => rfl
  | p :: r => by
    have ih := dropK_keys k r
    by_cases c : p.1 = k
    · rw [dropK_pos c, ih, List.map_cons, List.filter_cons, if_neg (by simp [c])]
    · rw [dropK_neg c, List.map_cons, ih, List.map_cons, List.filter_cons, if_pos (by simp [c])]
theorem IntD.drop {kvs : List (Key × V)} (h : IntD kvs) (k : Key) : IntD (dropK kvs k) := by
  obtain ⟨⟨ks, e⟩, nd⟩ := h
  refine ⟨⟨ks.filter fun i => decide ((Sum.inl i : Key) ≠ k), ?_⟩, nd_dropK nd⟩
  rw [dropK_keys, e, List.filter_map]; rfl
theorem IntD.nil : IntD [] := ⟨⟨[], rfl⟩, List.nodup_nil⟩
theorem valV_drop (k j : Key) : ∀ kvs : List (Key × V), valV (dropK kvs k) j = if j = k then none else valV kvs j
  | [] => by simp [dropK, valV_nil]
  | p :: r => by
    have ih := valV_drop k j r
    by_cases c : p.1 = k
    · rw [dropK_pos c, ih]
      by_cases e : j = k
      · rw [if_pos e, if_pos e]
      · rw [if_neg e, valV_neg (fun z => e (z.symm.trans c))]
        exact (if_neg e).symm
    · rw [dropK_neg c]
      by_cases e : p.1 = j
      · rw [valV_pos e, valV_pos e, if_neg (fun z => c (e.trans z))]
      · rw [valV_neg e, valV_neg e, ih]
theorem Told.nil : Told [] [] := ⟨rfl, List.nodup_nil, fun _ => rfl⟩
theorem Told.put {kvs ks : List (Key × V)} (t : Told kvs ks) (h : IntD ks) (i : Int) (v : V) : Told (putK kvs (Sum.inl i) v) (putK ks (Sum.inl i) v) := by
  refine ⟨?_, (h.put i v).2, fun k => by rw [valV_put, valV_put, t.val]⟩
  have e := t.val (Sum.inl i)
  cases c : valV kvs (Sum.inl i) with
  | none =>
    rw [c] at e
    rw [putK_new v c, putK_new v e, List.length_append, List.length_append, t.len]
  | some u =>
    rw [c] at e
    rw [putK_len_in v c, putK_len_in v e, t.len]
theorem Told.drop {kvs ks : List (Key × V)} (t : Told kvs ks) (h1 : IntD kvs) (h2 : IntD ks) (k : Key) : Told (dropK kvs k) (dropK ks k) := by
  refine ⟨?_, (h2.drop k).2, fun j => by rw [valV_drop, valV_drop, t.val]⟩
  have e := t.val k
  have hl := t.len
  cases c : valV kvs k with
  | none =>
    rw [c] at e
    rw [dropK_no (valV_not c), dropK_no (valV_not e), hl]
  | some u =>
    rw [c] at e
    have a1 := dropK_len h1.2 (valV_in c)
    have a2 := dropK_len h2.2 (valV_in e)
    omega
theorem Told.trans {a b c : List (Key × V)} (t : Told a b) (u : Told b c) : Told a c := ⟨u.len.trans t.len, u.nd, fun k => (u.val k).trans (t.val k)⟩
theorem Told.symm {a b : List (Key × V)} (t : Told a b) (h : IntD a) : Told b a := ⟨t.len.symm, h.2, fun k => (t.val k).symm⟩
theorem Told.refl {a : List (Key × V)} (h : IntD a) : Told a a := ⟨rfl, h.2, fun _ => rfl⟩
/-- all keys from 0 on, at most 100; what stands there is P -/
structure Good (P : V → Prop) (kvs : List (Key × V)) : Prop where
  it : IntD kvs
  all : ∀ k v, valV kvs k = some v → (∃ n : Nat, k = Sum.inl (n : Int) ∧ n ≤ 100) ∧ P v
theorem Good.nil {P : V → Prop} : Good P [] := ⟨IntD.nil, fun k v e => by rw [valV_nil] at e; cases e⟩
theorem Good.put {P : V → Prop} {kvs : List (Key × V)} (h : Good P kvs) {n : Nat} (hn : n ≤ 100) {v : V} (hv : P v) : Good P (putK kvs (Sum.inl (n : Int)) v) := by
  refine ⟨h.it.put _ _, fun k u e => ?_⟩
  rw [valV_put] at e
  by_cases c : k = Sum.inl (n : Int)
  · rw [if_pos c] at e
    cases e
    exact ⟨⟨n, c, hn⟩, hv⟩
  · rw [if_neg c] at e
    exact h.all k u e
theorem Good.drop {P : V → Prop} {kvs : List (Key × V)} (h : Good P kvs) (k : Key) : Good P (dropK kvs k) := by
  refine ⟨h.it.drop k, fun j u e => ?_⟩
  rw [valV_drop] at e
  by_cases c : j = k
  · rw [if_pos c] at e; cases e
  · rw [if_neg c] at e
    exact h.all j u e
theorem Good.told {P : V → Prop} {kvs ks : List (Key × V)} (h : Good P kvs) (t : Told kvs ks) (i : IntD ks) : Good P ks := ⟨i, fun k v e => h.all k v ((t.val k).symm.trans e)⟩
theorem Good.imp {P Q : V → Prop} {kvs : List (Key × V)} (h : Good P kvs) (f : ∀ v, P v → Q v) : Good Q kvs := ⟨h.it, fun k v e => ⟨(h.all k v e).1, f v (h.all k v e).2⟩⟩
/-- all that is no dict and no list stays -/
def FrX (H H' : Hp) : Prop := ∀ b u, (∀ l, u ≠ .dK l) → (∀ l, u ≠ .lst l) → H b = some u → H' b = some u
theorem FrX.same {H H' : Hp} (s : Same H H') : FrX H H' := fun b u _ _ e => s b u e
theorem FrX.trans {H H' H'' : Hp} (a : FrX H H') (b : FrX H' H'') : FrX H H'' := fun c u h1 h2 e => b c u h1 h2 (a c u h1 h2 e)
theorem FrX.drew {H H' : Hp} {q : Addr} (hq : PoolAt H q) (d : Drew H H' q) : FrX H H' := fun b u _ h2 e => d.kp b u (fun z => by
  obtain ⟨l, hl⟩ := hq.some
  rw [z, hl] at e
  exact h2 _ (Option.some.inj e).symm) e
theorem FrX.dict {H : Hp} {b : Addr} {l : List (Key × V)} {o : HO} (h : H b = some (.dK l)) : FrX H (upd H b o) := fun c u h1 _ e => by
  rw [upd_ne (fun z => by rw [z, h] at e; exact h1 _ (Option.some.inj e).symm)]; exact e
theorem FrX.tup {K : PySem.W.Frag} {H H' : Hp} {a : Addr} {xs : List V} (f : FrX H H') (h : SqT K H a xs) : SqT K H' a xs := by
  rcases h with (e | ⟨o, e⟩) | e
  · exact .inl (.inl (f _ _ (by intro l z; cases z) (by intro l z; cases z) e))
  · exact .inl (.inr ⟨o, f _ _ (by intro l z; cases z) (by intro l z; cases z) e⟩)
  · exact .inr e
mutual
theorem Dt.frx {K : PySem.W.Frag} {H H' : Hp} (f : FrX H H') : ∀ {v : V} {d : PyData}, Dt K H v d → Dt K H' v d
  | _, _, .non => .non
  | _, _, .bl b => .bl b
  | _, _, .int i => .int i
  | _, _, .str z => .str z
  | _, _, .tup h t => .tup (f.tup h) (DtAll.frx f t)
theorem DtAll.frx {K : PySem.W.Frag} {H H' : Hp} (f : FrX H H') : ∀ {vs : List V} {ds : List PyData}, DtAll K H vs ds → DtAll K H' vs ds
  | _, _, .nil => .nil
  | _, _, .cons a t => .cons (Dt.frx f a) (DtAll.frx f t)
end
/-- all but S stays -/
def Fr (S : List Addr) (H H' : Hp) : Prop := ∀ b u, b ∉ S → H b = some u → H' b = some u
theorem Fr.refl {S : List Addr} {H : Hp} : Fr S H H := fun _ _ _ e => e
theorem Fr.trans {S : List Addr} {H H' H'' : Hp} (a : Fr S H H') (b : Fr S H' H'') : Fr S H H'' := fun c u h e => b c u h (a c u h e)
theorem Fr.same {S : List Addr} {H H' H'' : Hp} (a : Fr S H H') (s : Same H' H'') : Fr S H H'' := fun c u h e => s c u (a c u h e)
theorem Fr.upd {S : List Addr} {H H' : Hp} {b : Addr} {o : HO} (a : Fr S H H') (h : b ∈ S) : Fr S H (upd H' b o) := fun c u hc e => by
  rw [upd_ne (fun z => hc (by rw [z]; exact h))]; exact a c u hc e
theorem Fr.drew {S : List Addr} {H H' H'' : Hp} {q : Addr} (a : Fr S H H') (d : Drew H' H'' q) (h : q ∈ S) : Fr S H H'' := fun c u hc e => d.kp c u (fun z => hc (by rw [z]; exact h)) (a c u hc e)
/-- what stands at S are dicts and lists -/
def Dl (H : Hp) (S : List Addr) : Prop := ∀ b ∈ S, (∃ l, H b = some (.dK l)) ∨ ∃ l, H b = some (.lst l)
theorem Fr.frx {S : List Addr} {H H' : Hp} (f : Fr S H H') (h : Dl H S) : FrX H H' := fun b u h1 h2 e => f b u (fun m => by
  rcases h b m with ⟨l, e2⟩ | ⟨l, e2⟩
  · rw [e2] at e; exact h1 l (Option.some.inj e).symm
  · rw [e2] at e; exact h2 l (Option.some.inj e).symm) e
theorem pool_dict {H : Hp} {q b : Addr} {l : List (Key × V)} {o : HO} (h : PoolAt H q) (hb : H b = some (.dK l)) : PoolAt (upd H b o) q := by
  obtain ⟨c, d, e, r⟩ := h
  exact ⟨c, d, by rw [upd_ne (fun z => by rw [z, hb] at e; cases e)]; exact e, r⟩
structure Ad where
  (p r h R G T : Addr)
structure Ct where
  (kvs hvs ok og : List (Key × V))
abbrev Ad.ds (a : Ad) : List Addr := [a.r, a.h, a.R, a.G]
def RecV (K : PySem.W.Frag) (H : Hp) (v : V) : Prop := ∃ d, Dt K H v d ∧ recD d = true ∧ SmR d
def HeadV (v : V) : Prop := ∃ n : Nat, v = .int (n : Int) ∧ n ≤ 100
structure Lg (P : V → Prop) (c : Ct) : Prop where
  gk : Good P c.kvs
  gh : Good HeadV c.hvs
  io : IntD c.ok
  ig : IntD c.og
  tk : Told c.kvs c.ok
  th : Told c.hvs c.og
  l6 : c.kvs.length ≤ 6
structure At (K : PySem.W.Frag) (C : Addr) (H : Hp) (a : Ad) (c : Ct) : Prop where
  so : SObj C H a.p 6 a.r a.h
  rr : H a.r = some (.dK c.kvs)
  hh : H a.h = some (.dK c.hvs)
  oR : H a.R = some (.dK c.ok)
  oG : H a.G = some (.dK c.og)
  tt : SqT K H a.T [.ref a.R, .ref a.G]
  nd : a.ds.Nodup
  lg : Lg (RecV K H) c
theorem RecV.frx {K : PySem.W.Frag} {H H' : Hp} (f : FrX H H') {v : V} (h : RecV K H v) : RecV K H' v := by
  obtain ⟨d, a, b⟩ := h
  exact ⟨d, a.frx f, b⟩
theorem Lg.imp {P Q : V → Prop} {c : Ct} (h : Lg P c) (f : ∀ v, P v → Q v) : Lg Q c := ⟨h.gk.imp f, h.gh, h.io, h.ig, h.tk, h.th, h.l6⟩
section
variable {K : PySem.W.Frag} {C : Addr} {H H' : Hp} {a : Ad} {c c' : Ct}
/-- the dicts told anew, all else as it was -/
theorem At.put (t : At K C H a c) (f : FrX H H') (e1 : H' a.r = some (.dK c'.kvs)) (e2 : H' a.h = some (.dK c'.hvs)) (e3 : H' a.R = some (.dK c'.ok)) (e4 : H' a.G = some (.dK c'.og)) (l : Lg (RecV K H) c') : At K C H' a c' := by
  obtain ⟨dx, e⟩ := t.so
  exact ⟨⟨dx, f _ _ (by intro l z; cases z) (by intro l z; cases z) e⟩, e1, e2, e3, e4, f.tup t.tt, t.nd, l.imp fun v h => h.frx f⟩
theorem At.same (t : At K C H a c) (s : Same H H') : At K C H' a c := t.put (.same s) (s _ _ t.rr) (s _ _ t.hh) (s _ _ t.oR) (s _ _ t.oG) t.lg
theorem At.drew {q : Addr} (t : At K C H a c) (hq : PoolAt H q) (d : Drew H H' q) : At K C H' a c := by
  obtain ⟨l, hl⟩ := hq.some
  have n : ∀ {b : Addr} {k : List (Key × V)}, H b = some (.dK k) → b ≠ q := fun {b k} e z => by rw [z, hl] at e; cases e
  exact t.put (.drew hq d) (d.kp _ _ (n t.rr) t.rr) (d.kp _ _ (n t.hh) t.hh) (d.kp _ _ (n t.oR) t.oR) (d.kp _ _ (n t.oG) t.oG) t.lg
theorem At.fr {S : List Addr} (t : At K C H a c) (f : Fr S H H') (hS : Dl H S) (h : ∀ b ∈ a.ds, b ∉ S) : At K C H' a c :=
  t.put (f.frx hS) (f _ _ (h _ (by simp [Ad.ds])) t.rr) (f _ _ (h _ (by simp [Ad.ds])) t.hh) (f _ _ (h _ (by simp [Ad.ds])) t.oR) (f _ _ (h _ (by simp [Ad.ds])) t.oG) t.lg
theorem At.dl (t : At K C H a c) : Dl H a.ds := fun b m => by
  simp only [Ad.ds, List.mem_cons, List.not_mem_nil, or_false] at m
  rcases m with rfl | rfl | rfl | rfl
  · exact .inl ⟨_, t.rr⟩
  · exact .inl ⟨_, t.hh⟩
  · exact .inl ⟨_, t.oR⟩
  · exact .inl ⟨_, t.oG⟩
theorem At.ne (t : At K C H a c) : a.r ≠ a.h ∧ a.r ≠ a.R ∧ a.r ≠ a.G ∧ a.h ≠ a.R ∧ a.h ≠ a.G ∧ a.R ≠ a.G := by
  have h := t.nd
  simp only [Ad.ds, List.nodup_cons, List.mem_cons, List.not_mem_nil, or_false, not_or, List.nodup_nil, and_true, not_false_eq_true] at h
  obtain ⟨⟨h1, h2, h3⟩, ⟨h4, h5⟩, h6⟩ := h
  exact ⟨h1, h2, h3, h4, h5, h6⟩
end
/-- one of the keys of a dict, by its place in their row -/
theorem key_at {kvs : List (Key × V)} {ks ys : List Int} {j : Nat} {y : Int} (hk : kvs.map (·.1) = ks.map Sum.inl) (hp : ys.Perm ks) (h : ys[j]? = some y) : ∃ v, valV kvs (Sum.inl y) = some v := by
  have hm : (Sum.inl y : Key) ∈ kvs.map (·.1) := by rw [hk]; exact List.mem_map_of_mem (hp.mem_iff.mp (List.mem_of_getElem? h))
  cases e : valV kvs (Sum.inl y) with
  | none => exact absurd hm (valV_not e)
  | some v => exact ⟨v, rfl⟩
theorem keys_len {kvs : List (Key × V)} {ks : List Int} (hk : kvs.map (·.1) = ks.map Sum.inl) : ks.length = kvs.length := by
  have := congrArg List.length hk
  rw [List.length_map, List.length_map] at this
  exact this.symm

def spLook (A : Adr) : Sp := fun vs H Q _ => ∃ (p : Addr) (m : Int) (r h : Addr) (kvs hvs : List (Key × V)), vs = [.ref p] ∧ SObj A.c_Store H p m r h ∧ H r = some (.dK kvs) ∧ H h = some (.dK hvs) ∧ IntD kvs ∧ IntD hvs ∧ kvs.length < 64 ∧ hvs.length < 64 ∧
  ∀ (H' : Hp) (t d1 d2 : Addr) (kvs' hvs' : List (Key × V)), Same H H' → H' t = some (.tup [.ref d1, .ref d2, .int (kvs.length : Int)]) → H' d1 = some (.dK kvs') → H' d2 = some (.dK hvs') → Told kvs kvs' → Told hvs hvs' → IntD kvs' → IntD hvs' → Q (.ref t) H'
def spIsFull (A : Adr) : Sp := fun vs H Q _ => ∃ (p : Addr) (r h : Addr) (kvs hvs : List (Key × V)), vs = [.ref p] ∧ SObj A.c_Store H p 6 r h ∧ H r = some (.dK kvs) ∧ H h = some (.dK hvs) ∧ IntD kvs ∧ IntD hvs ∧ kvs.length ≤ 6 ∧ hvs.length < 64 ∧
  ∀ H', Same H H' → Q (.bl true) H'
def spDeed (K : PySem.W.Frag) (A : Adr) : Sp := fun vs H Q _ => ∃ (q : Addr) (a : Ad) (c : Ct), vs = [.ref q, .ref a.p, .ref a.T] ∧ PoolAt H q ∧ At K A.c_Store H a c ∧ c.hvs.length < 40 ∧
  ∀ (H' : Hp) (c' : Ct), Fr (q :: a.ds) H H' → At K A.c_Store H' a c' → c'.hvs.length ≤ c.hvs.length + 1 → Q .non H'
def spLaw (K : PySem.W.Frag) : Sp := fun vs H Q _ => ∃ (a : Addr) (ns : List Int), vs = [.ref a] ∧ SqL K H a (ns.map V.int) ∧ ns.length ≤ 63 ∧ ∀ H', Q (.bl true) H'

/-! ### a twin -/
def spTwin (A : Adr) : Sp := fun vs H Q _ => ∃ (p : Addr) (m : Int) (r h : Addr) (kvs hvs : List (Key × V)), vs = [.ref p] ∧ SObj A.c_Store H p m r h ∧ H r = some (.dK kvs) ∧ H h = some (.dK hvs) ∧ IntD kvs ∧ IntD hvs ∧ kvs.length < 64 ∧ hvs.length < 64 ∧ 1 ≤ m ∧ m ≤ 9999 ∧
  ∀ (H' : Hp) (p' r' h' : Addr) (kvs' hvs' : List (Key × V)), Same H H' → H p' = none → H r' = none → H h' = none → r' ≠ h' → SObj A.c_Store H' p' m r' h' → H' r' = some (.dK kvs') → H' h' = some (.dK hvs') → Told kvs kvs' → Told hvs hvs' → IntD kvs' → IntD hvs' → Q (.ref p') H'
theorem ok_Store_twin (T : Txt w K mg A) : FnOk P w K mg base (L2.CX P w) 8 A.a_Store_twin A.d_Store_twin ["self"] (spTwin A) := by
  refine T.F_Store_twin.okX sc_Store_twin (fun vs H Q E h => ?_) (fun cdv A' outer s H vs Q E hr h => ?_)
  · obtain ⟨p, m, r, h', kvs, hvs, rfl, _⟩ := h
    rfl
  · obtain ⟨p, m, r, h, kvs, hvs, rfl, ⟨dx, hp⟩, hrr, hhh, ik, ih, lk, lh, m1, m2, k⟩ := h
    have cl := T.cl_Store; have n1 := T.no_Store_own_most; have n2 := T.no_Store_own_rooms; have n3 := T.no_Store_own_heads
    have f1 := sf_most m r h; have f2 := sf_rooms m r h; have f3 := sf_heads m r h
    have no1 : (sf m r h).lookup ("rooms" : Str) = none := sf_no _ _ _ (by decide +kernel) (by decide +kernel) (by decide +kernel)
    have no2 : (sf m r h).lookup ("heads" : Str) = none := sf_no _ _ _ (by decide +kernel) (by decide +kernel) (by decide +kernel)
    refine ⟨_, (pss_cons (ps_set (i := 1) sc_Store_twin.nd rfl (Or.inl rfl) (pe_makeK0 T.mk_Store (ok_Store_init T) (hr.mono (by decide)) rfl T.mg_Store (kb_of (ps := ["self", "most"]) (ks := ["most"]) (n := 1) T.F_Store_init (fun us ws => us ++ ws) (fun a b => a.append b) (fun _ _ _ _ _ _ us ws h1 h2 => match us, ws, h1, h2 with | [_], [_], _, _ => rfl)) (passes_call (takes_of rfl rfl rfl rfl) fun _ _ _ _ h => h) (pk_cons (pe_fld (pv 0) rfl) pk_nil)))
      (pss_cons (ps_fld (pv 1) (pe_meth0 (pv 0) T.cl_Store T.me_Store_rooms (ok_Store_rooms T) (hr.mono (by decide)) T.b_Store_rooms .nil pass0) rfl)
      (pss_cons (ps_fld (pv 1) (pe_meth0 (pv 0) T.cl_Store T.me_Store_heads (ok_Store_heads T) (hr.mono (by decide)) T.b_Store_heads .nil pass0) rfl)
      (pss_one (ps_ret (pv 1)))))), ?_⟩
    walk_at "go"
    intro p1 dx1 np ndx ndp
    have s0 : Same H (upd (upd H dx1 (.own p1)) p1 (.ins A.c_Store dx1 [])) := same_upd (same_new ndx) np
    have hM : mostD (.int m) = true := by show (decide (1 ≤ m) && decide (m ≤ 9999)) = true; rw [decide_eq_true m1, decide_eq_true m2]; rfl
    refine ⟨p1, dx1, .int m, .int m, rfl, upd_same, .int m, fun m' e h1 h2 H1 r1 h1' fr fh nrh so hrr1 hhh1 kp => ?_, fun c => absurd hM (by rw [c]; simp)⟩
    cases e
    obtain ⟨dx2, hp2⟩ := so
    have s1 : Same H H1 := fun b u e => kp b u (s0 _ _ e) (ne_of_none e np)
    have soa : SObj A.c_Store H1 p m r h := ⟨dx, s1 _ _ hp⟩
    have hpa := s1 _ _ hp
    have hra := s1 _ _ hrr
    have hha := s1 _ _ hhh
    refine ⟨rfl, ?_⟩
    walk_at "go"
    intro H2 d2 kvs2 s2 hd2 hdv2 told2 id2
    have hp22 := s2 _ _ hp2
    have hl2 : (sf m r1 h1').length < 1000 := sf_len m r1 h1'
    have nd2 : d2 ≠ p1 := (ne_of_none hp2 hd2).symm
    have npp : p ≠ p1 := ne_of_none hp np
    have nrp : r ≠ p1 := ne_of_none hrr np
    have nhp : h ≠ p1 := ne_of_none hhh np
    have sob : SObj A.c_Store (upd H2 p1 (.ins A.c_Store dx2 (putF "own_rooms" (V.ref d2) (sf m r1 h1')))) p m r h := ⟨dx, by rw [upd_ne npp]; exact s2 _ _ hpa⟩
    have hpb : (upd H2 p1 (.ins A.c_Store dx2 (putF "own_rooms" (V.ref d2) (sf m r1 h1')))) p = some (.ins A.c_Store dx (sf m r h)) := by rw [upd_ne npp]; exact s2 _ _ hpa
    have hhb : (upd H2 p1 (.ins A.c_Store dx2 (putF "own_rooms" (V.ref d2) (sf m r1 h1')))) h = some (.dK hvs) := by rw [upd_ne nhp]; exact s2 _ _ hha
    have hdb : (upd H2 p1 (.ins A.c_Store dx2 (putF "own_rooms" (V.ref d2) (sf m r1 h1')))) d2 = some (.dK kvs2) := by rw [upd_ne nd2]; exact hdv2
    have hp1b : (upd H2 p1 (.ins A.c_Store dx2 (putF "own_rooms" (V.ref d2) (sf m r1 h1')))) p1 = some (.ins A.c_Store dx2 (putF "own_rooms" (V.ref d2) (sf m r1 h1'))) := upd_same
    have sb : Same H (upd H2 p1 (.ins A.c_Store dx2 (putF "own_rooms" (V.ref d2) (sf m r1 h1')))) := same_upd (s1.trans s2) np
    walk_at "go"
    generalize upd H2 p1 (.ins A.c_Store dx2 (putF "own_rooms" (V.ref d2) (sf m r1 h1'))) = H3 at *
    rw [sf_putR] at hp1b
    intro H4 d4 kvs4 s4 hd4 hdv4 told4 id4
    have hp14 := s4 _ _ hp1b
    have hl4 : (sf m d2 h1').length < 1000 := sf_len m d2 h1'
    walk_at "go"
    rw [sf_putH]
    have nd24 : d2 ≠ d4 := ne_of_none hdb hd4
    have nd4 : d4 ≠ p1 := (ne_of_none hp1b hd4).symm
    refine k _ p1 d2 d4 kvs2 kvs4 (same_upd (sb.trans s4) np) np ?_ ?_ nd24 ⟨dx2, upd_same⟩ ?_ ?_ told2 told4 id2 id4
    · exact s1.free hd2
    · exact sb.free hd4
    · rw [upd_ne nd2]; exact s4 _ _ hdb
    · rw [upd_ne nd4]; exact hdv4
theorem ok_look (T : Txt w K mg A) : FnOk P w K mg base CX0 9 A.a_look A.d_look ["_law_store"] (spLook A) := by
  refine T.F_look.ok sc_look (fun vs H Q E h => ?_) (fun cdv A' outer s H vs Q E hr h => ?_)
  · obtain ⟨p, m, r, h', kvs, hvs, rfl, _⟩ := h
    rfl
  · obtain ⟨p, m, r, h, kvs, hvs, rfl, so, hrr, hhh, ik, ih, lk, lh, k⟩ := h
    obtain ⟨dx, hp⟩ := id so
    have no1 : (sf m r h).lookup ("rooms" : Str) = none := sf_no _ _ _ (by decide +kernel) (by decide +kernel) (by decide +kernel)
    have no2 : (sf m r h).lookup ("heads" : Str) = none := sf_no _ _ _ (by decide +kernel) (by decide +kernel) (by decide +kernel)
    have no3 : (sf m r h).lookup ("__len__" : Str) = none := sf_no _ _ _ (by decide +kernel) (by decide +kernel) (by decide +kernel)
    refine ⟨_, (pss_one (ps_ret (pe_tup (pa_cons (pe_meth0 (pv 0) T.cl_Store T.me_Store_rooms (ok_Store_rooms T) (hr.mono (by decide)) T.b_Store_rooms .nil pass0) (pa_cons (pe_meth0 (pv 0) T.cl_Store T.me_Store_heads (ok_Store_heads T) (hr.mono (by decide)) T.b_Store_heads .nil pass0) (pa_cons (pe_callB (MX.call_lenO (ok_Store_len T) (hr.mono (by decide)) T.b_Store___len__ T.me_Store___len__) (by rfl) T.n_len PySem.boot_len (pa_cons (pv 0) pa_nil)) pa_nil)))))), ?_⟩
    walk_at "go"
    intro H2 d2 kvs2 s2 hd2 hdv2 told2 id2
    have so2 : SObj A.c_Store H2 p m r h := ⟨dx, s2 _ _ hp⟩
    have hp2 := s2 _ _ hp
    have hr2 := s2 _ _ hrr
    have hh2 := s2 _ _ hhh
    walk_at "go"
    intro H3 d3 kvs3 s3 hd3 hdv3 told3 id3
    have so3 : SObj A.c_Store H3 p m r h := ⟨dx, s3 _ _ hp2⟩
    have hp3 := s3 _ _ hp2
    have hr3 := s3 _ _ hr2
    walk_at "go"
    intro t ht
    have s4 := same_new (o := .tup [.ref d2, .ref d3, .int (kvs.length : Int)]) ht
    exact k _ t d2 d3 kvs2 kvs3 ((s2.trans s3).trans s4) upd_same (s4 _ _ (s3 _ _ hdv2)) (s4 _ _ hdv3) told2 told3 id2 id3
theorem ok_is_full (T : Txt w K mg A) : FnOk P w K mg base CX0 12 A.a_is_full A.d_is_full ["_law_store"] (spIsFull A) := by
  refine T.F_is_full.ok sc_is_full (fun vs H Q E h => ?_) (fun cdv A' outer s H vs Q E hr h => ?_)
  · obtain ⟨p, r, h', kvs, hvs, rfl, _⟩ := h
    rfl
  · obtain ⟨p, r, h, kvs, hvs, rfl, so, hrr, hhh, ik, ih, lk, lh, k⟩ := h
    obtain ⟨dx, hp⟩ := id so
    have no1 : (sf 6 r h).lookup ("twin" : Str) = none := sf_no _ _ _ (by decide +kernel) (by decide +kernel) (by decide +kernel)
    refine ⟨_, (pss_cons (ps_set (i := 1) sc_is_full.nd rfl (Or.inl rfl) (pe_meth0 (pv 0) T.cl_Store T.me_Store_twin (ok_Store_twin T) (hr.mono (by decide)) T.b_Store_twin .nil passL))
      (pss_cons (ps_set (i := 2) sc_is_full.nd rfl (Or.inl rfl) pe_non)
      (cutAt (MX.ps_try_mix (Wout := fun _ _ _ _ => False) rfl rfl takes0 (fun W pn xe tk po => viaS (pss_one (ps_for po rfl (pi_w (pi_range1 rfl T.n_range (pa_cons pe_int pa_nil))) (pg_name (i := 3) sc_is_full.nd rfl (Or.inl rfl))
      (pss_one (ps_expr (MX.pe_methE (pv 1) T.cl_Store T.me_Store_put_in (ok_Store_put_in T) (hr.mono (by decide)) T.b_Store_put_in .nil (fun σ => passAt tk σ) (pa_cons (pe_tup (pa_cons pe_str (pa_cons (pv 3) pa_nil))) pa_nil)))))) (by first | rfl | (dsimp only [Cx.tr]; done) | (dsimp only [Cx.tr]; rfl))) (MX.HdsM.named (i := 4) sc_is_full.nd rfl rfl ⟨rfl, by decide, Or.inl T.mg_Full⟩ (fun a oe cls d pn hz hf => viaS (pss_one (ps_set (i := 2) sc_is_full.nd rfl (Or.inl rfl) (pe_xf T.ow_Full.xf T.no_Full_many hz hf (pv 4)))) (by first | rfl | (dsimp only [Cx.suite]; done) | (dsimp only [Cx.suite]; rfl))) MX.HdsM.nil))
      (pss_one (ps_ret (pe_cmpR op_eq (pv 2) pe_int (nomark _))))))), ?_⟩
    walk_at "go"
    intro H1 p1 r1 h1 kvs1 hvs1 s1 np nr nh nrh so1 hr1 hh1 told1 toldh id1 idh
    walk_at "go"
    refine ⟨fun σ H' => Wrap (∃ v3 v4, σ = [some (.ref p), some (.ref p1), some (.int 6), v3, v4] ∧ Same H H'), ?_, ?_⟩
    · walk_at "go"
      refine Wrap.mk (for_it walk_range (fun j σ H2 => Wrap (∃ v3 kv, σ = [some (.ref p), some (.ref p1), some .non, v3, none] ∧ Same H H2 ∧ SObj A.c_Store H2 p1 6 r1 h1 ∧ H2 r1 = some (.dK kv) ∧ kv.length = kvs.length + j ∧ kv.length ≤ 6))
        ⟨none, kvs1, rfl, s1, so1, hr1, told1.len, by rw [told1.len]; exact lk⟩ (fun _ _ _ _ _ => trivial) ?_ ?_)
      · rintro j v σ H2 H3 hj ⟨v3, kv, rfl, s2, ⟨dx2, hp2⟩, hr2, hl2, hl6⟩ ⟨rfl, rfl⟩
        have no2 : (sf 6 r1 h1).lookup ("put_in" : Str) = none := sf_no _ _ _ (by decide +kernel) (by decide +kernel) (by decide +kernel)
        walk_at "go"
        intro t ht
        have s3 := same_new (o := .tup [.str "moved", .int (0 + (j : Int))]) ht
        have so3 : SObj A.c_Store (upd H3 t (.tup [.str "moved", .int (0 + (j : Int))])) p1 6 r1 h1 := ⟨dx2, s3 _ _ hp2⟩
        have hp3 := s3 _ _ hp2
        have hr3 := s3 _ _ hr2
        have hd3 : Dp K (upd H3 t (.tup [.str "moved", .int (0 + (j : Int))])) (.ref t) (.tuple [.str "moved", .int (0 + (j : Int))]) := .tup (SqT.of upd_same) (.cons (.str _) (.cons (.int _) .nil))
        have hrec : recD (.tuple [.str "moved", .int (0 + (j : Int))]) = true := form_of (ks := [.num]) (by decide +kernel) (by decide +kernel) (by decide +kernel) rfl (by
          show (numD (.int (0 + (j : Int))) && true) = true
          rw [numD_of (by omega)]; rfl)
        have s23 := s2.trans s3
        generalize upd H3 t (.tup [.str "moved", .int (0 + (j : Int))]) = H4 at *
        have hk5 : kv.length < 100000 := by omega
        walk_at "go"
        intro H5 s5
        refine ⟨fun z => absurd hrec (by rw [z]; simp), fun _ c d' hd' => ?_, fun _ c n hn => ?_⟩
        · refine ⟨true, T.te_Full, fun _ a ha => ?_, fun q => Bool.noConfusion q⟩
          have s6 := same_upd (o := .xd [("many", .int 6)]) (s23.trans s5) ((s23.trans s5).free hd')
          have hx := (upd_same : upd H5 d' (.xd [("many", .int 6)]) d' = _)
          generalize upd H5 d' (.xd [("many", .int 6)]) = H6 at *
          walk_at "go"
          exact ⟨_, _, rfl, s6⟩
        · have hval := hn.1
          walk_at "go"
          refine ⟨_, putK kv (Sum.inl (n : Int)) (.ref t), rfl, same_upd (s23.trans s5) nr, ⟨dx2, ?_⟩, upd_same, ?_, ?_⟩
          · rw [upd_ne (fun z => by rw [z, hr3] at hp3; cases hp3)]; exact s5 _ _ hp3
          · rw [putK_new _ hval, List.length_append, hl2]; rfl
          · rw [putK_new _ hval, List.length_append]; show kv.length + 1 ≤ 6; omega
      · rintro σ H2 ⟨v3, kv, rfl, s2, so2, hr2, hl2, hl6⟩
        have : (7 : Int).toNat = 7 := rfl
        omega
    · rintro σ H' ⟨v3, v4, rfl, s'⟩
      walk_at "go"
      exact k H' s'

/-! ### a deed -/
def DM (K : PySem.W.Frag) (C : Addr) (H : Hp) (q : Addr) (a : Ad) (c : Ct) (n : Int) (b : Nat) (σ : St) (H' : Hp) : Prop :=
  ∃ v6 v7 v8 c', σ = [some (.ref q), some (.ref a.p), some (.ref a.T), some (.int n), some (.ref a.R), some (.ref a.G), v6, v7, v8] ∧ Fr (q :: a.ds) H H' ∧ PoolAt H' q ∧ At K C H' a c' ∧ c'.hvs.length ≤ c.hvs.length + b
theorem pick_at {kvs : List (Key × V)} {ks ys : List Int} (hk : kvs.map (·.1) = ks.map Sum.inl) (hp : ys.Perm ks) {r : Int} (r0 : 0 ≤ r) (r1 : r < (kvs.length : Int)) : ∃ y v, atI (ys.map V.int) r = some (.int y) ∧ valV kvs (Sum.inl y) = some v := by
  obtain ⟨j, rfl⟩ : ∃ j : Nat, r = (j : Int) := ⟨r.toNat, by omega⟩
  have hl := keys_len hk
  have hl2 := hp.length_eq
  have hj : j < ys.length := by omega
  have g : ys[j]? = some ys[j] := List.getElem?_eq_getElem hj
  obtain ⟨v, hv⟩ := key_at hk hp g
  exact ⟨ys[j], v, atI_nat (by rw [List.getElem?_map, g]; rfl), hv⟩
theorem DM.mono {K : PySem.W.Frag} {C : Addr} {H : Hp} {q : Addr} {a : Ad} {c : Ct} {n : Int} {b b' : Nat} {σ : St} {H' : Hp} (h : DM K C H q a c n b σ H') (e : b ≤ b') : DM K C H q a c n b' σ H' := by
  obtain ⟨v6, v7, v8, c', h1, h2, h3, h4, h5⟩ := h
  exact ⟨v6, v7, v8, c', h1, h2, h3, h4, by omega⟩
theorem not_empty {l : List (Key × V)} (h : (!l.isEmpty) = true) : 0 < l.length := by
  cases l with
  | nil => cases h
  | cons _ _ => exact Nat.succ_pos _
theorem ok_deed (T : Txt w K mg A) : FnOk P w K mg base CX0 10 A.a_deed A.d_deed ["_law_pool_here", "_law_store", "_law_own"] (spDeed K A) := by
  refine T.F_deed.ok sc_deed (fun vs H Q E h => ?_) (fun cdv A' outer s H vs Q E hr h => ?_)
  · obtain ⟨q, a, c, rfl, _⟩ := h
    rfl
  · obtain ⟨q, a, c, rfl, hq, at0, hl, k⟩ := h
    have hu := hu_of hr
    refine ⟨_, (pss_cons (ps_set (i := 3) sc_deed.nd rfl (Or.inl rfl) (pe_call (ok_takeD T) (hr.mono (by decide)) rfl T.m_take T.F_take.kp T.b_take .nil pass0 (pa_cons (pv 0) (pa_cons pe_int pa_nil))))
      (pss_cons (ps_asg (pv 2) (pg_tup (n := 2) rfl (pgs_cons (pg_name (i := 4) sc_deed.nd rfl (Or.inl rfl)) (pgs_cons (pg_name (i := 5) sc_deed.nd rfl (Or.inl rfl)) pgs_nil))))
      (cutAt (ps_if (PW.pt (pw_and (pt_cmpR op_eq (pv 3) pe_int (nomark _)) (pw_and1 (pt_cmpR op_lt (pe_callB call_lenD (by rfl) T.n_len PySem.boot_len (pa_cons (pv 4) pa_nil)) pe_int (nomark _)))))
      (pss_cons (ps_set (i := 6) sc_deed.nd rfl (Or.inl rfl) (pe_call (ok_drawn_record T) (hr.mono (by decide)) rfl T.m_drawn_record T.F_drawn_record.kp T.b_drawn_record .nil pass0 (pa_cons (pv 0) pa_nil)))
      (pss_one (ps_dput hu (pv 4) (pe_meth (pv 1) T.cl_Store T.me_Store_put_in (ok_Store_put_in T) (hr.mono (by decide)) T.b_Store_put_in .nil passL (pa_cons (pv 6) pa_nil)) (pv 6) rfl)))
      pss_nil)
      (cutAt (ps_if (PW.pt (pw_and (pt_cmpR op_eq (pv 3) pe_int (nomark _)) (pw_and1 (pt_cmpR (op_neD0 hr.units0) (pv 4) pe_dnewK (nomark _)))))
      (pss_cons (ps_set (i := 7) sc_deed.nd rfl (Or.inl rfl) (pe_ix ix_list (pe_callB (call_sortedDI rfl) (by rfl) T.n_sorted (by decide +kernel) (pa_cons (pv 4) pa_nil)) (pe_call (ok_takeD T) (hr.mono (by decide)) rfl T.m_take T.F_take.kp T.b_take .nil pass0 (pa_cons (pv 0) (pa_cons (pe_callB call_lenD (by rfl) T.n_len PySem.boot_len (pa_cons (pv 4) pa_nil)) pa_nil))) (fun _ _ => rfl)))
      (pss_cons (ps_expr (pe_dpop1 (pv 4) (pv 7) ⟨rfl, rfl, rfl, rfl⟩))
      (pss_one (ps_expr (pe_meth (pv 1) T.cl_Store T.me_Store_let_go (ok_Store_let_go T) (hr.mono (by decide)) T.b_Store_let_go .nil passL (pa_cons (pv 7) pa_nil))))))
      pss_nil)
      (cutAt (ps_if (PW.pt (pw_and (pt_cmpR op_eq (pv 3) pe_int (nomark _)) (pw_and1 (pt_cmpR (op_neD0 hr.units0) (pv 4) pe_dnewK (nomark _)))))
      (pss_cons (ps_set (i := 7) sc_deed.nd rfl (Or.inl rfl) (pe_ix ix_list (pe_callB (call_sortedDI rfl) (by rfl) T.n_sorted (by decide +kernel) (pa_cons (pv 4) pa_nil)) (pe_call (ok_takeD T) (hr.mono (by decide)) rfl T.m_take T.F_take.kp T.b_take .nil pass0 (pa_cons (pv 0) (pa_cons (pe_callB call_lenD (by rfl) T.n_len PySem.boot_len (pa_cons (pv 4) pa_nil)) pa_nil))) (fun _ _ => rfl)))
      (pss_one (ps_dput hu (pv 5) (pe_meth (pv 1) T.cl_Store T.me_Store_new_slot (ok_Store_new_slot T) (hr.mono (by decide)) T.b_Store_new_slot .nil passL (pa_cons (pv 7) pa_nil)) (pv 7) rfl)))
      pss_nil)
      (cutAt (ps_if (PW.pt (pw_and (pt_cmpR op_eq (pv 3) pe_int (nomark _)) (pw_and (pt_cmpR (op_neD0 hr.units0) (pv 5) pe_dnewK (nomark _)) (pw_and1 (pt_cmpR (op_neD0 hr.units0) (pv 4) pe_dnewK (nomark _))))))
      (pss_cons (ps_set (i := 8) sc_deed.nd rfl (Or.inl rfl) (pe_ix ix_list (pe_callB (call_sortedDI rfl) (by rfl) T.n_sorted (by decide +kernel) (pa_cons (pv 5) pa_nil)) (pe_call (ok_takeD T) (hr.mono (by decide)) rfl T.m_take T.F_take.kp T.b_take .nil pass0 (pa_cons (pv 0) (pa_cons (pe_callB call_lenD (by rfl) T.n_len PySem.boot_len (pa_cons (pv 5) pa_nil)) pa_nil))) (fun _ _ => rfl)))
      (pss_cons (ps_set (i := 7) sc_deed.nd rfl (Or.inl rfl) (pe_ix ix_list (pe_callB (call_sortedDI rfl) (by rfl) T.n_sorted (by decide +kernel) (pa_cons (pv 4) pa_nil)) (pe_call (ok_takeD T) (hr.mono (by decide)) rfl T.m_take T.F_take.kp T.b_take .nil pass0 (pa_cons (pv 0) (pa_cons (pe_callB call_lenD (by rfl) T.n_len PySem.boot_len (pa_cons (pv 4) pa_nil)) pa_nil))) (fun _ _ => rfl)))
      (pss_cons (ps_expr (pe_methK0 (pv 1) T.cl_Store T.me_Store_swap (ok_Store_swap T) (hr.mono (by decide)) (kb_of (ps := ["self", "slot", "old", "new"]) (ks := ["new", "old", "slot"]) (n := 1) T.F_Store_swap (fun us ws => us ++ ws.reverse) (fun a b => a.append (paired_rev b)) (fun _ _ _ _ _ _ us ws h1 h2 => match us, ws, h1, h2 with | [_], [_, _, _], _, _ => rfl)) passL (pk_cons (pv 7) (pk_cons (pe_dget hu (pv 5) (pv 8) (fun _ _ => rfl)) (pk_cons (pv 8) pk_nil)))))
      (pss_one (ps_dput hu (pv 5) (pv 8) (pv 7) rfl)))))
      pss_nil)
      (pss_one (ps_if (PW.pt (pw_and (pt_cmpR op_eq (pv 3) pe_int (nomark _)) (pw_and1 (pt_cmpR (op_neD0 hr.units0) (pv 5) pe_dnewK (nomark _)))))
      (pss_cons (ps_set (i := 8) sc_deed.nd rfl (Or.inl rfl) (pe_ix ix_list (pe_callB (call_sortedDI rfl) (by rfl) T.n_sorted (by decide +kernel) (pa_cons (pv 5) pa_nil)) (pe_call (ok_takeD T) (hr.mono (by decide)) rfl T.m_take T.F_take.kp T.b_take .nil pass0 (pa_cons (pv 0) (pa_cons (pe_callB call_lenD (by rfl) T.n_len PySem.boot_len (pa_cons (pv 5) pa_nil)) pa_nil))) (fun _ _ => rfl)))
      (pss_cons (ps_expr (pe_dpop1 (pv 5) (pv 8) ⟨rfl, rfl, rfl, rfl⟩))
      (pss_one (ps_expr (pe_meth (pv 1) T.cl_Store T.me_Store_drop (ok_Store_drop T) (hr.mono (by decide)) T.b_Store_drop .nil passL (pa_cons (pv 8) pa_nil))))))
      pss_nil)))))))), ?_⟩
    walk_at "go"
    intro n H1 n0 n5 d1
    have hq1 := d1.pool
    have at1 := at0.drew hq d1
    have tt1 := at1.tt
    have f1 : Fr (q :: a.ds) H H1 := Fr.refl.drew d1 (by simp)
    walk_at "go"
    obtain ⟨c1, ec1⟩ : ∃ c1, c1 = c := ⟨_, rfl⟩
    rw [← ec1] at at1
    have hl1 : c1.hvs.length ≤ c.hvs.length := by rw [ec1]; exact Nat.le_refl _
    have hto1 := at1.lg.tk.len
    have hto2 := at1.lg.th.len
    have hl6 := at1.lg.l6
    refine ⟨fun σ H' => Wrap (DM K A.c_Store H q a c n 0 σ H'), ?_, ?_⟩
    · walk_at "go"
      with_reducible refine by2 (fun cw => ?_) (fun cw => ?_)
      · have own := at1.oR
        walk_at "go"
        with_reducible refine by2 (fun c6 => ?_) (fun c6 => ?_)
        · have c6 := of_decide_eq_true c6
          walk_at "go"
          intro x d H2 dr hx hrec hsm
          have f1 := f1.drew dr (by simp)
          have at1 := at1.drew hq1 dr
          have hq1 := dr.pool
          obtain ⟨dx, hp⟩ := at1.so
          have so := at1.so
          have hrr := at1.rr
          have oR := at1.oR
          have hxd := hx.dp
          have hk5 : c1.kvs.length < 100000 := by omega
          have no : (sf 6 a.r a.h).lookup ("put_in" : Str) = none := sf_no _ _ _ (by decide +kernel) (by decide +kernel) (by decide +kernel)
          walk_at "go"
          intro H3 s3
          refine ⟨fun z => absurd hrec (by rw [z]; simp), fun _ z => absurd z (by omega), fun _ _ m hm => ?_⟩
          have f1 := f1.same s3
          have at1 := at1.same s3
          have hq1 := hq1.same s3
          have hx := hx.same s3
          obtain ⟨n1, n2, n3, n4, n5', n6⟩ := at1.ne
          have hmle := least_le hm.2
          have oR3 : upd H3 a.r (.dK (putK c1.kvs (Sum.inl (m : Int)) x)) a.R = some (.dK c1.ok) := by rw [upd_ne n2.symm]; exact at1.oR
          have dp : DPut (upd H3 a.r (.dK (putK c1.kvs (Sum.inl (m : Int)) x))) a.R (.int (m : Int)) x (upd (upd H3 a.r (.dK (putK c1.kvs (Sum.inl (m : Int)) x))) a.R (.dK (putK c1.ok (Sum.inl (m : Int)) x))) :=
            DPut.k (k := Sum.inl (m : Int)) oR3 (small1000 (by omega))
          walk_at "go"
          have fx : FrX H3 (upd (upd H3 a.r (.dK (putK c1.kvs (Sum.inl (m : Int)) x))) a.R (.dK (putK c1.ok (Sum.inl (m : Int)) x))) := (FrX.dict at1.rr).trans (FrX.dict oR3)
          refine ⟨⟨_, _, _, ⟨putK c1.kvs (Sum.inl (m : Int)) x, c1.hvs, putK c1.ok (Sum.inl (m : Int)) x, c1.og⟩, rfl, (f1.upd (by simp [Ad.ds])).upd (by simp [Ad.ds]), ?_, at1.put fx ?_ ?_ upd_same ?_ ?_, by show c1.hvs.length ≤ _; omega⟩⟩
          · exact pool_dict (pool_dict hq1 at1.rr) oR3
          · rw [upd_ne n2]; exact upd_same
          · rw [upd_ne n4, upd_ne n1.symm]; exact at1.hh
          · rw [upd_ne n6.symm, upd_ne n3.symm]; exact at1.oG
          · have g := at1.lg
            refine ⟨g.gk.put (by omega) ⟨d, hx, hrec, hsm⟩, g.gh, g.io.put _ _, g.ig, g.tk.put g.io _ _, g.th, ?_⟩
            show (putK c1.kvs (Sum.inl (m : Int)) x).length ≤ 6
            rw [putK_new _ hm.1, List.length_append]
            show c1.kvs.length + 1 ≤ 6
            omega
        · exact ⟨⟨_, _, _, c1, rfl, f1, hq1, at1, by omega⟩⟩
      · with_reducible refine else_ rfl ?_
        exact ⟨⟨_, _, _, c1, rfl, f1, hq1, at1, by omega⟩⟩
    rintro σ H1 ⟨v6, v7, v8, c1, rfl, f1, hq1, at1, hl1⟩
    have hto1 := at1.lg.tk.len
    have hto2 := at1.lg.th.len
    have hl6 := at1.lg.l6
    refine ⟨fun σ H' => Wrap (DM K A.c_Store H q a c n 0 σ H'), ?_, ?_⟩
    · walk_at "go"
      with_reducible refine by2 (fun cw => ?_) (fun cw => ?_)
      · have own := at1.oR
        walk_at "go"
        intro L0 hL0
        have s0 := same_new (o := .dK []) hL0
        have hL00 : upd H1 L0 (.dK []) L0 = some (.dK []) := upd_same
        have f1 := f1.same s0
        have hq1 := hq1.same s0
        have at1 := at1.same s0
        have own := at1.oR
        generalize upd H1 L0 (.dK []) = H1 at *
        walk_at "go"
        with_reducible refine by2 (fun c6R => ?_) (fun c6R => ?_)
        · have c6R := not_empty c6R
          clear hL0 s0 hL00 own L0
          obtain ⟨ksa, hksa⟩ := at1.lg.io.1
          have hkla := keys_len hksa
          have h64a : ksa.length < 64 := by omega
          have owna := at1.oR
          have rda : Rd H1 a.R (.dK c1.ok) := Rd.of owna
          walk_at "go"
          intro ysa La hperma _ hLa
          have sa := same_new (o := .lst (ysa.map V.int)) hLa
          have hLLa : upd H1 La (.lst (ysa.map V.int)) La = some (.lst (ysa.map V.int)) := upd_same
          have nLa := hq1.ne hLa
          have f1 := f1.same sa
          have hq1 := hq1.same sa
          have at1 := at1.same sa
          have owna := at1.oR
          clear rda
          generalize upd H1 La (.lst (ysa.map V.int)) = H1 at *
          have hna : (0 : Int) < (c1.ok.length : Int) := by omega
          have hma : (c1.ok.length : Int) < 1073741824 := by omega
          walk_at "go"
          intro ra H2 r0a r1a dra
          have f1 := f1.drew dra (by simp)
          have at1 := at1.drew hq1 dra
          have hq1 := dra.pool
          have hLLa := dra.kp _ _ nLa hLLa
          obtain ⟨y, va, haa, hva⟩ := pick_at hksa hperma r0a r1a
          clear owna
          have e1 := at1.oR
          have e2 : valV c1.kvs (Sum.inl y) = some va := (at1.lg.tk.val _).symm.trans hva
          obtain ⟨⟨m, em, _⟩, _⟩ := at1.lg.gk.all _ _ e2
          have y0 : 0 ≤ y := by have := Sum.inl.inj em; omega
          have ek : V.int y = kV (Sum.inl y) := rfl
          obtain ⟨n1, n2, n3, n4, n5', n6⟩ := at1.ne
          obtain ⟨dx, hp⟩ := at1.so
          have fR := FrX.dict (o := .dK (dropK c1.ok (Sum.inl y))) e1
          have rr3 : upd H2 a.R (.dK (dropK c1.ok (Sum.inl y))) a.r = some (.dK c1.kvs) := by rw [upd_ne n2]; exact at1.rr
          have hp3 : upd H2 a.R (.dK (dropK c1.ok (Sum.inl y))) a.p = some (.ins A.c_Store dx (sf 6 a.r a.h)) := fR _ _ (by intro l z; cases z) (by intro l z; cases z) hp
          have so3 : SObj A.c_Store (upd H2 a.R (.dK (dropK c1.ok (Sum.inl y)))) a.p 6 a.r a.h := ⟨dx, hp3⟩
          have no : (sf 6 a.r a.h).lookup ("let_go" : Str) = none := sf_no _ _ _ (by decide +kernel) (by decide +kernel) (by decide +kernel)
          have hyd : Dp K (upd H2 a.R (.dK (dropK c1.ok (Sum.inl y)))) (V.int y) (.int y) := .int _
          walk_at "go"
          refine ⟨fun i v e _ hv => ?_, fun z => ?_⟩
          · cases e
            have fx := fR.trans (FrX.dict (o := .dK (dropK c1.kvs (Sum.inl y))) rr3)
            refine ⟨⟨_, _, _, ⟨dropK c1.kvs (Sum.inl y), c1.hvs, dropK c1.ok (Sum.inl y), c1.og⟩, rfl, (f1.upd (by simp [Ad.ds])).upd (by simp [Ad.ds]), pool_dict (pool_dict hq1 e1) rr3, at1.put fx upd_same ?_ ?_ ?_ ?_, by show c1.hvs.length ≤ _; omega⟩⟩
            · rw [upd_ne n1.symm, upd_ne n4]; exact at1.hh
            · rw [upd_ne n2.symm]; exact upd_same
            · rw [upd_ne n3.symm, upd_ne n6.symm]; exact at1.oG
            · have g := at1.lg
              exact ⟨g.gk.drop _, g.gh, g.io.drop _, g.ig, g.tk.drop g.gk.it g.io _, g.th, Nat.le_trans (dropK_le _ _) g.l6⟩
          · exfalso
            have e : inK c1.kvs (.int y) = true := by
              show (decide (0 ≤ y) && (valV c1.kvs (Sum.inl y)).isSome) = true
              rw [e2, decide_eq_true y0]; rfl
            rw [e] at z; cases z
        · exact ⟨⟨_, _, _, c1, rfl, f1, hq1, at1, by omega⟩⟩
      · with_reducible refine else_ rfl ?_
        exact ⟨⟨_, _, _, c1, rfl, f1, hq1, at1, by omega⟩⟩
    rintro σ H1 ⟨v6, v7, v8, c1, rfl, f1, hq1, at1, hl1⟩
    have hto1 := at1.lg.tk.len
    have hto2 := at1.lg.th.len
    have hl6 := at1.lg.l6
    refine ⟨fun σ H' => Wrap (DM K A.c_Store H q a c n 1 σ H'), ?_, ?_⟩
    · walk_at "go"
      with_reducible refine by2 (fun cw => ?_) (fun cw => ?_)
      · have own := at1.oR
        walk_at "go"
        intro L0 hL0
        have s0 := same_new (o := .dK []) hL0
        have hL00 : upd H1 L0 (.dK []) L0 = some (.dK []) := upd_same
        have f1 := f1.same s0
        have hq1 := hq1.same s0
        have at1 := at1.same s0
        have own := at1.oR
        generalize upd H1 L0 (.dK []) = H1 at *
        walk_at "go"
        with_reducible refine by2 (fun c6R => ?_) (fun c6R => ?_)
        · have c6R := not_empty c6R
          clear hL0 s0 hL00 own L0
          obtain ⟨ksa, hksa⟩ := at1.lg.io.1
          have hkla := keys_len hksa
          have h64a : ksa.length < 64 := by omega
          have owna := at1.oR
          have rda : Rd H1 a.R (.dK c1.ok) := Rd.of owna
          walk_at "go"
          intro ysa La hperma _ hLa
          have sa := same_new (o := .lst (ysa.map V.int)) hLa
          have hLLa : upd H1 La (.lst (ysa.map V.int)) La = some (.lst (ysa.map V.int)) := upd_same
          have nLa := hq1.ne hLa
          have f1 := f1.same sa
          have hq1 := hq1.same sa
          have at1 := at1.same sa
          have owna := at1.oR
          clear rda
          generalize upd H1 La (.lst (ysa.map V.int)) = H1 at *
          have hna : (0 : Int) < (c1.ok.length : Int) := by omega
          have hma : (c1.ok.length : Int) < 1073741824 := by omega
          walk_at "go"
          intro ra H2 r0a r1a dra
          have f1 := f1.drew dra (by simp)
          have at1 := at1.drew hq1 dra
          have hq1 := dra.pool
          have hLLa := dra.kp _ _ nLa hLLa
          obtain ⟨y, va, haa, hva⟩ := pick_at hksa hperma r0a r1a
          clear owna
          have e2a : valV c1.kvs (Sum.inl y) = some va := (at1.lg.tk.val _).symm.trans hva
          obtain ⟨⟨ma, ema, hma⟩, _⟩ := at1.lg.gk.all _ _ e2a
          have y0a : 0 ≤ y := by have := Sum.inl.inj ema; omega
          have yka : y = (ma : Int) := Sum.inl.inj ema
          have ika : inK c1.kvs (.int y) = true := by
            show (decide (0 ≤ y) && (valV c1.kvs (Sum.inl y)).isSome) = true
            rw [e2a, decide_eq_true y0a]; rfl
          obtain ⟨n1, n2, n3, n4, n5', n6⟩ := at1.ne
          have so := at1.so
          obtain ⟨dx, hp⟩ := at1.so
          have hrr := at1.rr
          have hhh := at1.hh
          have oG := at1.oG
          have no : (sf 6 a.r a.h).lookup ("new_slot" : Str) = none := sf_no _ _ _ (by decide +kernel) (by decide +kernel) (by decide +kernel)
          have hyd : Dp K H2 (V.int y) (.int y) := .int _
          have hk5 : c1.hvs.length < 100000 := by omega
          walk_at "go"
          refine ⟨fun _ m hm => ?_, fun z => by rw [ika] at z; cases z⟩
          have hmle := least_le hm.2
          have oG3 : upd H2 a.h (.dK (putK c1.hvs (Sum.inl (m : Int)) (.int y))) a.G = some (.dK c1.og) := by rw [upd_ne n5'.symm]; exact at1.oG
          have dp : DPut (upd H2 a.h (.dK (putK c1.hvs (Sum.inl (m : Int)) (.int y)))) a.G (.int (m : Int)) (.int y) (upd (upd H2 a.h (.dK (putK c1.hvs (Sum.inl (m : Int)) (.int y)))) a.G (.dK (putK c1.og (Sum.inl (m : Int)) (.int y)))) :=
            DPut.k (k := Sum.inl (m : Int)) oG3 (small1000 (by omega))
          walk_at "go"
          have fx : FrX H2 (upd (upd H2 a.h (.dK (putK c1.hvs (Sum.inl (m : Int)) (.int y)))) a.G (.dK (putK c1.og (Sum.inl (m : Int)) (.int y)))) := (FrX.dict at1.hh).trans (FrX.dict oG3)
          refine ⟨⟨_, _, _, ⟨c1.kvs, putK c1.hvs (Sum.inl (m : Int)) (.int y), c1.ok, putK c1.og (Sum.inl (m : Int)) (.int y)⟩, rfl, (f1.upd (by simp [Ad.ds])).upd (by simp [Ad.ds]), pool_dict (pool_dict hq1 at1.hh) oG3, at1.put fx ?_ ?_ ?_ upd_same ?_, ?_⟩⟩
          · rw [upd_ne n3, upd_ne n1]; exact at1.rr
          · rw [upd_ne n5']; exact upd_same
          · rw [upd_ne n6, upd_ne n4.symm]; exact at1.oR
          · have g := at1.lg
            exact ⟨g.gk, g.gh.put (by omega) ⟨ma, by rw [yka], by omega⟩, g.io, g.ig.put _ _, g.tk, g.th.put g.ig _ _, g.l6⟩
          · have := length_putK c1.hvs (Sum.inl (m : Int)) (.int y)
            show (putK c1.hvs (Sum.inl (m : Int)) (.int y)).length ≤ _
            omega
        · exact ⟨⟨_, _, _, c1, rfl, f1, hq1, at1, by omega⟩⟩
      · with_reducible refine else_ rfl ?_
        exact ⟨⟨_, _, _, c1, rfl, f1, hq1, at1, by omega⟩⟩
    rintro σ H1 ⟨v6, v7, v8, c1, rfl, f1, hq1, at1, hl1⟩
    have hto1 := at1.lg.tk.len
    have hto2 := at1.lg.th.len
    have hl6 := at1.lg.l6
    refine ⟨fun σ H' => Wrap (DM K A.c_Store H q a c n 1 σ H'), ?_, ?_⟩
    · walk_at "go"
      with_reducible refine by2 (fun cw => ?_) (fun cw => ?_)
      · have own := at1.oG
        walk_at "go"
        intro L0 hL0
        have s0 := same_new (o := .dK []) hL0
        have hL00 : upd H1 L0 (.dK []) L0 = some (.dK []) := upd_same
        have f1 := f1.same s0
        have hq1 := hq1.same s0
        have at1 := at1.same s0
        have own := at1.oG
        generalize upd H1 L0 (.dK []) = H1 at *
        walk_at "go"
        with_reducible refine by2 (fun c6G => ?_) (fun c6G => ?_)
        · have c6G := not_empty c6G
          clear hL0 s0 hL00 own L0
          have own := at1.oR
          walk_at "go"
          intro L0 hL0
          have s0 := same_new (o := .dK []) hL0
          have hL00 : upd H1 L0 (.dK []) L0 = some (.dK []) := upd_same
          have f1 := f1.same s0
          have hq1 := hq1.same s0
          have at1 := at1.same s0
          have own := at1.oR
          generalize upd H1 L0 (.dK []) = H1 at *
          walk_at "go"
          with_reducible refine by2 (fun c6R => ?_) (fun c6R => ?_)
          · have c6R := not_empty c6R
            clear hL0 s0 hL00 own L0
            obtain ⟨ksa, hksa⟩ := at1.lg.ig.1
            have hkla := keys_len hksa
            have h64a : ksa.length < 64 := by omega
            have owna := at1.oG
            have rda : Rd H1 a.G (.dK c1.og) := Rd.of owna
            walk_at "go"
            intro ysa La hperma _ hLa
            have sa := same_new (o := .lst (ysa.map V.int)) hLa
            have hLLa : upd H1 La (.lst (ysa.map V.int)) La = some (.lst (ysa.map V.int)) := upd_same
            have nLa := hq1.ne hLa
            have f1 := f1.same sa
            have hq1 := hq1.same sa
            have at1 := at1.same sa
            have owna := at1.oG
            clear rda
            generalize upd H1 La (.lst (ysa.map V.int)) = H1 at *
            have hna : (0 : Int) < (c1.og.length : Int) := by omega
            have hma : (c1.og.length : Int) < 1073741824 := by omega
            walk_at "go"
            intro ra H2 r0a r1a dra
            have f1 := f1.drew dra (by simp)
            have at1 := at1.drew hq1 dra
            have hq1 := dra.pool
            have hLLa := dra.kp _ _ nLa hLLa
            obtain ⟨y, va, haa, hva⟩ := pick_at hksa hperma r0a r1a
            clear owna
            obtain ⟨ksb, hksb⟩ := at1.lg.io.1
            have hklb := keys_len hksb
            have h64b : ksb.length < 64 := by omega
            have ownb := at1.oR
            have rdb : Rd H2 a.R (.dK c1.ok) := Rd.of ownb
            walk_at "go"
            intro ysb Lb hpermb _ hLb
            have sb := same_new (o := .lst (ysb.map V.int)) hLb
            have hLLb : upd H2 Lb (.lst (ysb.map V.int)) Lb = some (.lst (ysb.map V.int)) := upd_same
            have nLb := hq1.ne hLb
            have f1 := f1.same sb
            have hq1 := hq1.same sb
            have at1 := at1.same sb
            have ownb := at1.oR
            clear rdb
            generalize upd H2 Lb (.lst (ysb.map V.int)) = H2 at *
            have hnb : (0 : Int) < (c1.ok.length : Int) := by omega
            have hmb : (c1.ok.length : Int) < 1073741824 := by omega
            walk_at "go"
            intro rb H3 r0b r1b drb
            have f1 := f1.drew drb (by simp)
            have at1 := at1.drew hq1 drb
            have hq1 := drb.pool
            have hLLb := drb.kp _ _ nLb hLLb
            obtain ⟨z, vb, hab, hvb⟩ := pick_at hksb hpermb r0b r1b
            clear ownb
            have e2b : valV c1.kvs (Sum.inl z) = some vb := (at1.lg.tk.val _).symm.trans hvb
            obtain ⟨⟨mb, emb, hmb⟩, _⟩ := at1.lg.gk.all _ _ e2b
            have y0b : 0 ≤ z := by have := Sum.inl.inj emb; omega
            have ykb : z = (mb : Int) := Sum.inl.inj emb
            have ikb : inK c1.kvs (.int z) = true := by
              show (decide (0 ≤ z) && (valV c1.kvs (Sum.inl z)).isSome) = true
              rw [e2b, decide_eq_true y0b]; rfl
            have e2a : valV c1.hvs (Sum.inl y) = some va := (at1.lg.th.val _).symm.trans hva
            obtain ⟨⟨ma, ema, hma⟩, hda⟩ := at1.lg.gh.all _ _ e2a
            have y0a : 0 ≤ y := by have := Sum.inl.inj ema; omega
            have yka : y = (ma : Int) := Sum.inl.inj ema
            have ika : inK c1.hvs (.int y) = true := by
              show (decide (0 ≤ y) && (valV c1.hvs (Sum.inl y)).isSome) = true
              rw [e2a, decide_eq_true y0a]; rfl
            obtain ⟨j, rfl, hj⟩ := hda
            obtain ⟨n1, n2, n3, n4, n5', n6⟩ := at1.ne
            have so := at1.so
            obtain ⟨dx, hp⟩ := at1.so
            have hrr := at1.rr
            have hhh := at1.hh
            have oG := at1.oG
            have no : (sf 6 a.r a.h).lookup ("swap" : Str) = none := sf_no _ _ _ (by decide +kernel) (by decide +kernel) (by decide +kernel)
            have hyd : Dp K H3 (V.int y) (.int y) := .int _
            have hzd : Dp K H3 (V.int z) (.int z) := .int _
            have hjd : Dp K H3 (V.int (j : Int)) (.int (j : Int)) := .int _
            have hk5 : c1.hvs.length < 100000 := by omega
            have dg : DGet H3 a.G (.int y) (some (.int (j : Int))) := by rw [← hva]; exact DGet.k (k := Sum.inl y) oG
            have hhv : ∀ k v, valV c1.hvs k = some v → ∃ j, v = .int j ∧ 0 ≤ j := fun k v e => by
              obtain ⟨_, n, rfl, _⟩ := at1.lg.gh.all k v e
              exact ⟨(n : Int), rfl, by omega⟩
            walk_at "go"
            refine ⟨fun w => (by rw [ika] at w; cases w), fun _ w => (by rw [ikb] at w; cases w), fun _ _ i' j' ei ej => ?_⟩
            cases ei
            rw [e2a] at ej
            cases ej
            refine ⟨fun w => absurd rfl w, fun _ => ?_⟩
            have oG3 : upd H3 a.h (.dK (putK c1.hvs (Sum.inl y) (.int z))) a.G = some (.dK c1.og) := by rw [upd_ne n5'.symm]; exact at1.oG
            have dp : DPut (upd H3 a.h (.dK (putK c1.hvs (Sum.inl y) (.int z)))) a.G (.int y) (.int z) (upd (upd H3 a.h (.dK (putK c1.hvs (Sum.inl y) (.int z)))) a.G (.dK (putK c1.og (Sum.inl y) (.int z)))) :=
              DPut.k (k := Sum.inl y) oG3 (small1000 (by omega))
            walk_at "go"
            have fx : FrX H3 (upd (upd H3 a.h (.dK (putK c1.hvs (Sum.inl y) (.int z)))) a.G (.dK (putK c1.og (Sum.inl y) (.int z)))) := (FrX.dict at1.hh).trans (FrX.dict oG3)
            refine ⟨⟨_, _, _, ⟨c1.kvs, putK c1.hvs (Sum.inl y) (.int z), c1.ok, putK c1.og (Sum.inl y) (.int z)⟩, rfl, (f1.upd (by simp [Ad.ds])).upd (by simp [Ad.ds]), pool_dict (pool_dict hq1 at1.hh) oG3, at1.put fx ?_ ?_ ?_ upd_same ?_, ?_⟩⟩
            · rw [upd_ne n3, upd_ne n1]; exact at1.rr
            · rw [upd_ne n5']; exact upd_same
            · rw [upd_ne n6, upd_ne n4.symm]; exact at1.oR
            · have g := at1.lg
              have gp := g.gh.put (v := .int z) hma ⟨mb, by rw [ykb], by omega⟩
              rw [← yka] at gp
              exact ⟨g.gk, gp, g.io, g.ig.put _ _, g.tk, g.th.put g.ig _ _, g.l6⟩
            · show (putK c1.hvs (Sum.inl y) (.int z)).length ≤ _
              rw [putK_len_in _ e2a]
              omega
          · exact ⟨⟨_, _, _, c1, rfl, f1, hq1, at1, by omega⟩⟩
        · with_reducible refine else_ rfl ?_
          exact ⟨⟨_, _, _, c1, rfl, f1, hq1, at1, by omega⟩⟩
      · with_reducible refine else_ rfl ?_
        exact ⟨⟨_, _, _, c1, rfl, f1, hq1, at1, by omega⟩⟩
    rintro σ H1 ⟨v6, v7, v8, c1, rfl, f1, hq1, at1, hl1⟩
    have hto1 := at1.lg.tk.len
    have hto2 := at1.lg.th.len
    have hl6 := at1.lg.l6
    walk_at "go"
    with_reducible refine by2 (fun cw => ?_) (fun cw => ?_)
    · have own := at1.oG
      walk_at "go"
      intro L0 hL0
      have s0 := same_new (o := .dK []) hL0
      have hL00 : upd H1 L0 (.dK []) L0 = some (.dK []) := upd_same
      have f1 := f1.same s0
      have hq1 := hq1.same s0
      have at1 := at1.same s0
      have own := at1.oG
      generalize upd H1 L0 (.dK []) = H1 at *
      walk_at "go"
      with_reducible refine by2 (fun c6G => ?_) (fun c6G => ?_)
      · have c6G := not_empty c6G
        clear hL0 s0 hL00 own L0
        obtain ⟨ksa, hksa⟩ := at1.lg.ig.1
        have hkla := keys_len hksa
        have h64a : ksa.length < 64 := by omega
        have owna := at1.oG
        have rda : Rd H1 a.G (.dK c1.og) := Rd.of owna
        walk_at "go"
        intro ysa La hperma _ hLa
        have sa := same_new (o := .lst (ysa.map V.int)) hLa
        have hLLa : upd H1 La (.lst (ysa.map V.int)) La = some (.lst (ysa.map V.int)) := upd_same
        have nLa := hq1.ne hLa
        have f1 := f1.same sa
        have hq1 := hq1.same sa
        have at1 := at1.same sa
        have owna := at1.oG
        clear rda
        generalize upd H1 La (.lst (ysa.map V.int)) = H1 at *
        have hna : (0 : Int) < (c1.og.length : Int) := by omega
        have hma : (c1.og.length : Int) < 1073741824 := by omega
        walk_at "go"
        intro ra H2 r0a r1a dra
        have f1 := f1.drew dra (by simp)
        have at1 := at1.drew hq1 dra
        have hq1 := dra.pool
        have hLLa := dra.kp _ _ nLa hLLa
        obtain ⟨y, va, haa, hva⟩ := pick_at hksa hperma r0a r1a
        clear owna
        have e1 := at1.oG
        have e2a : valV c1.hvs (Sum.inl y) = some va := (at1.lg.th.val _).symm.trans hva
        obtain ⟨⟨ma, ema, hma⟩, hda⟩ := at1.lg.gh.all _ _ e2a
        have y0a : 0 ≤ y := by have := Sum.inl.inj ema; omega
        have yka : y = (ma : Int) := Sum.inl.inj ema
        have ika : inK c1.hvs (.int y) = true := by
          show (decide (0 ≤ y) && (valV c1.hvs (Sum.inl y)).isSome) = true
          rw [e2a, decide_eq_true y0a]; rfl
        have ek : V.int y = kV (Sum.inl y) := rfl
        obtain ⟨n1, n2, n3, n4, n5', n6⟩ := at1.ne
        obtain ⟨dx, hp⟩ := at1.so
        have fR := FrX.dict (o := .dK (dropK c1.og (Sum.inl y))) e1
        have hh3 : upd H2 a.G (.dK (dropK c1.og (Sum.inl y))) a.h = some (.dK c1.hvs) := by rw [upd_ne n5']; exact at1.hh
        have hp3 : upd H2 a.G (.dK (dropK c1.og (Sum.inl y))) a.p = some (.ins A.c_Store dx (sf 6 a.r a.h)) := fR _ _ (by intro l z; cases z) (by intro l z; cases z) hp
        have so3 : SObj A.c_Store (upd H2 a.G (.dK (dropK c1.og (Sum.inl y)))) a.p 6 a.r a.h := ⟨dx, hp3⟩
        have no : (sf 6 a.r a.h).lookup ("drop" : Str) = none := sf_no _ _ _ (by decide +kernel) (by decide +kernel) (by decide +kernel)
        have hyd : Dp K (upd H2 a.G (.dK (dropK c1.og (Sum.inl y)))) (V.int y) (.int y) := .int _
        walk_at "go"
        refine ⟨fun i v e _ hv => ?_, fun z => by rw [ika] at z; cases z⟩
        cases e
        have fx := fR.trans (FrX.dict (o := .dK (dropK c1.hvs (Sum.inl y))) hh3)
        refine k _ ⟨c1.kvs, dropK c1.hvs (Sum.inl y), c1.ok, dropK c1.og (Sum.inl y)⟩ ((f1.upd (by simp [Ad.ds])).upd (by simp [Ad.ds])) (at1.put fx ?_ upd_same ?_ ?_ ?_) ?_
        · rw [upd_ne n1, upd_ne n3]; exact at1.rr
        · rw [upd_ne n4.symm, upd_ne n6]; exact at1.oR
        · rw [upd_ne n5'.symm]; exact upd_same
        · have g := at1.lg
          exact ⟨g.gk, g.gh.drop _, g.io, g.ig.drop _, g.tk, g.th.drop g.gh.it g.ig _, g.l6⟩
        · have := dropK_le c1.hvs (Sum.inl y)
          show (dropK c1.hvs (Sum.inl y)).length ≤ _
          omega
      · exact k _ c1 f1 at1 (by omega)
    · with_reducible refine else_ rfl ?_
      exact k _ c1 f1 at1 (by omega)

/-! ### the law -/
/-! ### the law's stores -/
structure WS (K : PySem.W.Frag) (C : Addr) (H0 H : Hp) (S O : Addr) (es : List (Ad × Ct)) (j : Nat) : Prop where
  sm : Same H0 H
  fS : H0 S = none
  fO : H0 O = none
  fe : ∀ e ∈ es, ∀ b ∈ e.1.ds, H0 b = none
  st : H S = some (.lst (es.map fun e => V.ref e.1.p))
  ow : H O = some (.lst (es.map fun e => V.ref e.1.T))
  so : S ≠ O
  l1 : 1 ≤ es.length
  l4 : es.length ≤ 4
  all : ∀ e ∈ es, At K C H e.1 e.2 ∧ e.2.hvs.length ≤ j
  nd : ((es.map fun e => e.1).flatMap Ad.ds).Nodup
section
variable {K : PySem.W.Frag} {C : Addr} {H0 H H' : Hp} {S O : Addr} {es : List (Ad × Ct)} {j : Nat}
theorem WS.same (w : WS K C H0 H S O es j) (s : Same H H') : WS K C H0 H' S O es j :=
  ⟨w.sm.trans s, w.fS, w.fO, w.fe, s _ _ w.st, s _ _ w.ow, w.so, w.l1, w.l4, fun e he => ⟨(w.all e he).1.same s, (w.all e he).2⟩, w.nd⟩
theorem WS.drew {q : Addr} (w : WS K C H0 H S O es j) (hq : PoolAt H q) (d : Drew H H' q) (f : H0 q = none) (nS : S ≠ q) (nO : O ≠ q) : WS K C H0 H' S O es j :=
  ⟨fun b u e => d.kp b u (ne_of_none e f) (w.sm b u e), w.fS, w.fO, w.fe, d.kp _ _ nS w.st, d.kp _ _ nO w.ow, w.so, w.l1, w.l4, fun e he => ⟨(w.all e he).1.drew hq d, (w.all e he).2⟩, w.nd⟩
theorem nd_apart {es : List (Ad × Ct)} (nd : ((es.map fun e => e.1).flatMap Ad.ds).Nodup) {i k : Nat} {e e' : Ad × Ct} (hi : es[i]? = some e) (hk : es[k]? = some e') (n : i ≠ k) : ∀ b ∈ e'.1.ds, b ∉ e.1.ds := by
  obtain ⟨_, h⟩ := List.pairwise_flatMap.mp nd
  have hi' : (es.map fun e => e.1)[i]? = some e.1 := by rw [List.getElem?_map, hi]; rfl
  have hk' : (es.map fun e => e.1)[k]? = some e'.1 := by rw [List.getElem?_map, hk]; rfl
  obtain ⟨li, ei⟩ := List.getElem?_eq_some_iff.mp hi'
  obtain ⟨lk, ek⟩ := List.getElem?_eq_some_iff.mp hk'
  intro b hb hb2
  rcases Nat.lt_or_gt_of_ne n with c | c
  · exact List.pairwise_iff_getElem.mp h i k li lk c b (by rw [ei]; exact hb2) b (by rw [ek]; exact hb) rfl
  · exact List.pairwise_iff_getElem.mp h k i lk li c b (by rw [ek]; exact hb) b (by rw [ei]; exact hb2) rfl
theorem WS.dl {i : Nat} {e : Ad × Ct} (w : WS K C H0 H S O es j) {q : Addr} (hq : PoolAt H q) (hi : es[i]? = some e) : Dl H (q :: e.1.ds) := fun b hb => by
  rcases List.mem_cons.mp hb with rfl | hb
  · exact .inr hq.some
  · exact (w.all e (List.mem_of_getElem? hi)).1.dl b hb
theorem WS.deed {q : Addr} {i : Nat} {a : Ad} {c c' : Ct} (w : WS K C H0 H S O es j) (hq : PoolAt H q) (f : H0 q = none) (nS : S ≠ q) (nO : O ≠ q) (hi : es[i]? = some (a, c)) (hf : Fr (q :: a.ds) H H') (ha : At K C H' a c') (hl : c'.hvs.length ≤ j + 1) :
    WS K C H0 H' S O (es.set i (a, c')) (j + 1) := by
  have hdl := w.dl hq hi
  have mi := List.mem_of_getElem? hi
  have nl : ∀ {b : Addr} {l : List V}, H b = some (.lst l) → b ≠ q → b ∉ q :: a.ds := fun {b l} e n m => by
    rcases List.mem_cons.mp m with rfl | m
    · exact n rfl
    · rcases (w.all _ mi).1.dl b m with ⟨l2, e2⟩ | ⟨l2, e2⟩
      · rw [e2] at e; cases e
      · obtain ⟨l3, e3⟩ : ∃ l3, H b = some (.dK l3) := by
          simp only [Ad.ds, List.mem_cons, List.not_mem_nil, or_false] at m
          have t := (w.all _ mi).1
          rcases m with rfl | rfl | rfl | rfl
          · exact ⟨_, t.rr⟩
          · exact ⟨_, t.hh⟩
          · exact ⟨_, t.oR⟩
          · exact ⟨_, t.oG⟩
        rw [e3] at e; cases e
  have ep : (es.set i (a, c')).map (fun e => V.ref e.1.p) = es.map fun e => V.ref e.1.p := map_set_same hi rfl
  have eT : (es.set i (a, c')).map (fun e => V.ref e.1.T) = es.map fun e => V.ref e.1.T := map_set_same hi rfl
  have e1 : (es.set i (a, c')).map (fun e => e.1) = es.map fun e => e.1 := map_set_same hi rfl
  have mem : ∀ e ∈ es.set i (a, c'), e = (a, c') ∨ ∃ k, k ≠ i ∧ es[k]? = some e := fun e he => by
    obtain ⟨k, hk, ek⟩ := List.getElem_of_mem he
    by_cases n : i = k
    · subst n
      left
      rw [← ek]; simp
    · right
      refine ⟨k, fun z => n z.symm, ?_⟩
      rw [List.getElem_set_ne n] at ek
      rw [List.length_set] at hk
      rw [List.getElem?_eq_getElem hk, ek]
  refine ⟨fun b u e => hf b u (fun m => ?_) (w.sm b u e), w.fS, w.fO, fun e he => ?_, ?_, ?_, w.so, by rw [List.length_set]; exact w.l1, by rw [List.length_set]; exact w.l4, fun e he => ?_, by rw [e1]; exact w.nd⟩
  · rcases List.mem_cons.mp m with rfl | m
    · rw [f] at e; cases e
    · rw [w.fe _ mi b m] at e; cases e
  · rcases mem e he with rfl | ⟨k, _, hk⟩
    · exact fun b hb => w.fe (a, c) mi b hb
    · exact w.fe e (List.mem_of_getElem? hk)
  · rw [ep]; exact hf _ _ (nl w.st nS) w.st
  · rw [eT]; exact hf _ _ (nl w.ow nO) w.ow
  · rcases mem e he with rfl | ⟨k, nk, hk⟩
    · exact ⟨ha, hl⟩
    · obtain ⟨t, l⟩ := w.all e (List.mem_of_getElem? hk)
      refine ⟨t.fr hf hdl fun b hb m => ?_, by omega⟩
      rcases List.mem_cons.mp m with rfl | m
      · obtain ⟨l2, e2⟩ := hq.some
        simp only [Ad.ds, List.mem_cons, List.not_mem_nil, or_false] at hb
        rcases hb with e3 | e3 | e3 | e3
        · have := t.rr; rw [← e3, e2] at this; cases this
        · have := t.hh; rw [← e3, e2] at this; cases this
        · have := t.oR; rw [← e3, e2] at this; cases this
        · have := t.oG; rw [← e3, e2] at this; cases this
      · exact nd_apart w.nd hi hk (fun z => nk z.symm) b hb m
/-- a dict of a store or an own dict is no new place -/
theorem WS.ne_new (w : WS K C H0 H S O es j) {b : Addr} (h : H b = none) : ∀ e ∈ es, b ∉ e.1.ds := fun e he m => by
  rcases (w.all e he).1.dl b m with ⟨l, e2⟩ | ⟨l, e2⟩ <;> (rw [h] at e2; cases e2)
theorem WS.grow {H1 : Hp} {a : Ad} {c : Ct} (w : WS K C H0 H S O es j) (s : Same H H1) (hS : H' S = some (.lst ((es.map fun e => V.ref e.1.p) ++ [V.ref a.p]))) (hO : H' O = some (.lst ((es.map fun e => V.ref e.1.T) ++ [V.ref a.T])))
    (hf : ∀ b u, b ≠ S → b ≠ O → H1 b = some u → H' b = some u) (ha : At K C H' a c) (hl : c.hvs.length ≤ j) (hn : ∀ b ∈ a.ds, H b = none) (h4 : es.length < 4) : WS K C H0 H' S O (es ++ [(a, c)]) j := by
  have s' : ∀ {b : Addr} {u : HO}, b ≠ S → b ≠ O → H b = some u → H' b = some u := fun n1 n2 e => hf _ _ n1 n2 (s _ _ e)
  refine ⟨fun b u e => s' (ne_of_none e w.fS) (ne_of_none e w.fO) (w.sm b u e), w.fS, w.fO, fun e he => ?_, ?_, ?_, w.so, by rw [List.length_append]; have := w.l1; omega, by rw [List.length_append]; show es.length + 1 ≤ 4; omega, fun e he => ?_, ?_⟩
  · rcases List.mem_append.mp he with he | he
    · exact w.fe e he
    · rw [List.mem_singleton.mp he]
      intro b hb
      cases c : H0 b with
      | none => rfl
      | some u => have := w.sm b u c; rw [hn b hb] at this; cases this
  · rw [List.map_append]; exact hS
  · rw [List.map_append]; exact hO
  · rcases List.mem_append.mp he with he | he
    · obtain ⟨t, l⟩ := w.all e he
      have nl : ∀ {b : Addr} {k : List (Key × V)}, H b = some (.dK k) → b ≠ S ∧ b ≠ O := fun {b k} e => ⟨fun z => (by rw [z, w.st] at e; cases e), fun z => (by rw [z, w.ow] at e; cases e)⟩
      refine ⟨t.put (fun b u h1 h2 e => s' (fun z => ?_) (fun z => ?_) e) (s' (nl t.rr).1 (nl t.rr).2 t.rr) (s' (nl t.hh).1 (nl t.hh).2 t.hh) (s' (nl t.oR).1 (nl t.oR).2 t.oR) (s' (nl t.oG).1 (nl t.oG).2 t.oG) t.lg, l⟩
      · rw [z, w.st] at e; exact h2 _ (Option.some.inj e).symm
      · rw [z, w.ow] at e; exact h2 _ (Option.some.inj e).symm
    · rw [List.mem_singleton.mp he]; exact ⟨ha, hl⟩
  · rw [List.map_append, List.flatMap_append]
    refine List.nodup_append.mpr ⟨w.nd, ?_, fun x hx y hy z => ?_⟩
    · show (a.ds ++ []).Nodup
      rw [List.append_nil]; exact ha.nd
    · have hy : y ∈ a.ds := by simpa using hy
      subst z
      obtain ⟨a', ha', hx⟩ := List.mem_flatMap.mp hx
      obtain ⟨e, he, rfl⟩ := List.mem_map.mp ha'
      exact w.ne_new (hn x hy) e he hx
end
/-! #### their text -/
theorem Sm.dict {n k : Nat} : ∀ {kvs : List (Key × V)} {ds : List PyData}, kvs.length = ds.length → (∀ p ∈ kvs, Sm 120 0 (keyP p.1)) → (∀ d ∈ ds, Sm n k d) → Sm ((n + 122) * ds.length) (k + 1) (dictP kvs ds) := by
  have go : ∀ {kvs : List (Key × V)} {ds : List PyData}, kvs.length = ds.length → (∀ p ∈ kvs, Sm 120 0 (keyP p.1)) → (∀ d ∈ ds, Sm n k d) →
      PyData.leavesShortKv 40 ((kvs.map fun p => keyP p.1).zip ds) = true ∧ PyData.showableKv ((kvs.map fun p => keyP p.1).zip ds) = true ∧ PyData.weightKv ((kvs.map fun p => keyP p.1).zip ds) ≤ (n + 122) * ds.length ∧ PyData.depthKv ((kvs.map fun p => keyP p.1).zip ds) ≤ k := by
    intro kvs
    induction kvs with
    | nil =>
      intro ds hl _ _
      cases ds with
      | nil => simp [PyData.leavesShortKv, PyData.showableKv, PyData.weightKv, PyData.depthKv]
      | cons _ _ => cases hl
    | cons p r ih =>
      intro ds hl h1 h2
      cases ds with
      | nil => cases hl
      | cons d ds =>
        obtain ⟨i1, i2, i3, i4⟩ := ih (ds := ds) (Nat.succ.inj hl) (fun p hp => h1 p (List.mem_cons_of_mem _ hp)) (fun d hd => h2 d (List.mem_cons_of_mem _ hd))
        have a := h1 p List.mem_cons_self
        have b := h2 d List.mem_cons_self
        have a3 := a.wt; have b3 := b.wt; have a4 := a.dp; have b4 := b.dp
        simp only [List.map_cons, List.zip_cons_cons, PyData.leavesShortKv, PyData.showableKv, PyData.weightKv, PyData.depthKv, a.ls, b.ls, a.sh, b.sh, i1, i2, Bool.and_self, true_and, List.length_cons]
        refine ⟨?_, by omega⟩
        rw [Nat.mul_add, Nat.mul_one]
        omega
  intro kvs ds hl h1 h2
  obtain ⟨i1, i2, i3, i4⟩ := go hl h1 h2
  refine ⟨?_, ?_, ?_, ?_⟩
  · simp only [dictP, PyData.leavesShort]; exact i1
  · simp only [dictP, PyData.showable]; exact i2
  · simp only [dictP, PyData.weight]; exact i3
  · simp only [dictP, PyData.depth]; omega
theorem dts_of {K : PySem.W.Frag} {H : Hp} {n k : Nat} : ∀ {kvs : List (Key × V)}, (∀ p ∈ kvs, ∃ d, Dt K H p.2 d ∧ Sm n k d) → ∃ ds, DtAll K H (kvs.map (·.2)) ds ∧ (∀ d ∈ ds, Sm n k d) ∧ kvs.length = ds.length
  | [], _ => ⟨[], .nil, fun d hd => absurd hd List.not_mem_nil, rfl⟩
  | p :: r, h => by
    obtain ⟨d, h1, h2⟩ := h p List.mem_cons_self
    obtain ⟨ds, i1, i2, i3⟩ := dts_of (kvs := r) fun p hp => h p (List.mem_cons_of_mem _ hp)
    refine ⟨d :: ds, .cons h1 i1, fun e he => ?_, congrArg (· + 1) i3⟩
    rcases List.mem_cons.mp he with rfl | he
    · exact h2
    · exact i2 e he
theorem Good.mem {Q : V → Prop} {kvs : List (Key × V)} (h : Good Q kvs) : ∀ p ∈ kvs, (∃ n : Nat, p.1 = Sum.inl (n : Int) ∧ n ≤ 100) ∧ Q p.2 := fun p hp => h.all _ _ (val_nodup h.it.2 p hp)
theorem key_sm {p : Key} (h : ∃ n : Nat, p = Sum.inl (n : Int) ∧ n ≤ 100) : Sm 120 0 (keyP p) := by
  obtain ⟨n, rfl, hn⟩ := h
  exact Sm.int ⟨by omega, by omega⟩
structure Shows (K : PySem.W.Frag) (H : Hp) (ks ls : List (Key × V)) (ds es : List PyData) : Prop where
  d1 : DtAll K H (ks.map (·.2)) ds
  d2 : DtAll K H (ls.map (·.2)) es
  sh : (PyData.list [dictP ks ds, dictP ls es]).showable = true
  dp : (PyData.list [dictP ks ds, dictP ls es]).depth ≤ 60
  sz : (PyData.list [dictP ks ds, dictP ls es]).shown.length ≤ 16000000
theorem Shows.frx {K : PySem.W.Frag} {H H' : Hp} {ks ls : List (Key × V)} {ds es : List PyData} (s : Shows K H ks ls ds es) (f : FrX H H') : Shows K H' ks ls ds es := ⟨s.d1.frx f, s.d2.frx f, s.sh, s.dp, s.sz⟩
theorem shows_of {K : PySem.W.Frag} {H : Hp} {ks ls : List (Key × V)} (h1 : Good (RecV K H) ks) (h2 : Good HeadV ls) (l1 : ks.length ≤ 6) (l2 : ls.length ≤ 64) : ∃ ds es, Shows K H ks ls ds es := by
  obtain ⟨ds, a1, a2, a3⟩ := dts_of (K := K) (H := H) (n := 4000) (k := 4) (kvs := ks) fun p hp => by
    obtain ⟨_, d, x, _, y⟩ := h1.mem p hp
    exact ⟨d, x, y⟩
  obtain ⟨es, b1, b2, b3⟩ := dts_of (K := K) (H := H) (n := 120) (k := 0) (kvs := ls) fun p hp => by
    obtain ⟨_, n, e, hn⟩ := h2.mem p hp
    rw [e]
    exact ⟨_, .int _, Sm.int ⟨by omega, by omega⟩⟩
  have s1 := Sm.dict a3 (fun p hp => key_sm (h1.mem p hp).1) a2
  have s2 := Sm.dict b3 (fun p hp => key_sm (h2.mem p hp).1) b2
  have w1 := s1.wt; have w2 := s2.wt; have p1 := s1.dp; have p2 := s2.dp
  have m1 : (4000 + 122) * ds.length ≤ (4000 + 122) * 6 := Nat.mul_le_mul_left _ (by omega)
  have m2 : (120 + 122) * es.length ≤ (120 + 122) * 64 := Nat.mul_le_mul_left _ (by omega)
  refine ⟨ds, es, a1, b1, ?_, ?_, ?_⟩
  · simp only [PyData.showable, PyData.showableAll, s1.sh, s2.sh, Bool.and_self]
  · simp only [PyData.depth, PyData.depthAll]; omega
  · have lsh : (PyData.list [dictP ks ds, dictP ls es]).leavesShort 40 = true := by simp only [PyData.leavesShort, PyData.leavesShortAll, s1.ls, s2.ls, Bool.and_self]
    have := PyData.shown_le 40 (by decide) _ lsh
    have hw : (PyData.list [dictP ks ds, dictP ls es]).weight ≤ 50000 := by simp only [PyData.weight, PyData.weightAll]; omega
    have hm : (40 + 2) * (PyData.list [dictP ks ds, dictP ls es]).weight ≤ (40 + 2) * 50000 := Nat.mul_le_mul_left _ hw
    omega
/-- what a store tells is what the own dicts hold -/
theorem told_eq {K : PySem.W.Frag} {H : Hp} {kvs kvs' ok : List (Key × V)} (a : Told kvs kvs') (b : Told kvs ok) (f : ∀ p ∈ kvs', sameB p.2 = true) : kvs'.length = ok.length ∧ ∀ p ∈ kvs', ∃ u, valV ok p.1 = some u ∧ EqW K H 1 p.2 u := by
  refine ⟨a.len.trans b.len.symm, fun p hp => ⟨p.2, ?_, ?_⟩⟩
  · rw [b.val, ← a.val]; exact val_nodup a.nd p hp
  · have := f p hp
    cases e : p.2 with
    | ref x => exact .inr (.inl ⟨x, rfl, rfl⟩)
    | _ => rw [e] at this; exact .inl ⟨rfl, this⟩
theorem RecV.same {K : PySem.W.Frag} {H : Hp} {v : V} (h : RecV K H v) : sameB v = true := by
  obtain ⟨d, hd, hr, _⟩ := h
  cases hd with
  | tup _ _ => rfl
  | non => cases (show false = true from hr)
  | bl b => cases (show false = true from hr)
  | int i => cases (show false = true from hr)
  | str z => cases (show false = true from hr)
theorem HeadV.same {v : V} (h : HeadV v) : sameB v = true := by
  obtain ⟨n, rfl, _⟩ := h
  rfl

theorem ok_law (T : Txt w K mg A) : GD.FnOkG P w K mg base 16 A.a_law A.d_law ["_law_script"] (spLaw K) := by
  refine GD.okG T.F_law sc_law (fun vs H Q E h => ?_) (fun cdv A' outer s H vs Q E hg hr h => ?_)
  · obtain ⟨a, ns, rfl, _⟩ := h
    rfl
  · obtain ⟨a, ns, rfl, hS, hns, k⟩ := h
    have hu := hu_of hr
    refine ⟨_, (pss_cons (ps_set (i := 1) sc_law.nd rfl (Or.inl rfl) (pe_lst (pa_cons (pe_makeK0 T.mk_Store (ok_Store_init T) (hr.mono (by decide)) rfl T.mg_Store (kb_of (ps := ["self", "most"]) (ks := ["most"]) (n := 1) T.F_Store_init (fun us ws => us ++ ws) (fun a b => a.append b) (fun _ _ _ _ _ _ us ws h1 h2 => match us, ws, h1, h2 with | [_], [_], _, _ => rfl)) passL (pk_cons pe_int pk_nil)) pa_nil)))
      (pss_cons (ps_set (i := 2) sc_law.nd rfl (Or.inl rfl) (pe_lst (pa_cons (pe_tup (pa_cons pe_dnewK (pa_cons pe_dnewK pa_nil))) pa_nil)))
      (pss_cons (ps_for PassesOwn.never rfl (pi_w (pi_range1 rfl T.n_range (pa_cons (pe_callB (call_max2 rfl) (by rfl) T.n_max (by decide +kernel) (pa_cons pe_int (pa_cons (pe_callB (call_min2 rfl) (by rfl) T.n_min (by decide +kernel) (pa_cons (pe_callB call_len_seq (by rfl) T.n_len PySem.boot_len (pa_cons (pv 0) pa_nil)) (pa_cons pe_int pa_nil))) pa_nil))) pa_nil))) (pg_name (i := 3) sc_law.nd rfl (Or.inl rfl))
      (pss_cons (ps_set (i := 4) sc_law.nd rfl (Or.inl rfl) (pe_call (ok_pool T) (hr.mono (by decide)) rfl T.m_pool T.F_pool.kp T.b_pool .nil pass0 (pa_cons (pv 0) (pa_cons (pv 3) pa_nil))))
      (pss_cons (ps_set (i := 5) sc_law.nd rfl (Or.inl rfl) (pe_call (ok_takeD T) (hr.mono (by decide)) rfl T.m_take T.F_take.kp T.b_take .nil pass0 (pa_cons (pv 4) (pa_cons (pe_callB call_len_seq (by rfl) T.n_len PySem.boot_len (pa_cons (pv 1) pa_nil)) pa_nil))))
      (cutAt (ps_if (PW.pt (pw_and (pt_cmpR op_lt (pe_callB call_len_seq (by rfl) T.n_len PySem.boot_len (pa_cons (pv 1) pa_nil)) pe_int (nomark _)) (pw_and1 (pt_cmpR op_eq (pe_call (ok_takeD T) (hr.mono (by decide)) rfl T.m_take T.F_take.kp T.b_take .nil pass0 (pa_cons (pv 4) (pa_cons pe_int pa_nil))) pe_int (nomark _)))))
      (pss_cons (ps_expr (pe_bm PySem.F.plainAttrs_list PySem.F.slot_list_append PySem.F.type_list_append mt_append (pv 1) (pa_cons (pe_meth0 (pe_ix ix_list (pv 1) (pv 5) (fun _ _ => rfl)) T.cl_Store T.me_Store_twin (ok_Store_twin T) (hr.mono (by decide)) T.b_Store_twin .nil passL) pa_nil)))
      (pss_one (ps_expr (pe_bm PySem.F.plainAttrs_list PySem.F.slot_list_append PySem.F.type_list_append mt_append (pv 2) (pa_cons (pe_tup (pa_cons (pe_callTy call_dictD (by rfl) T.n_dict (by decide +kernel) (pa_cons (pe_ix ix_tup (pe_ix ix_list (pv 2) (pv 5) (fun _ _ => rfl)) pe_int (fun _ _ => rfl)) pa_nil)) (pa_cons (pe_callTy call_dictD (by rfl) T.n_dict (by decide +kernel) (pa_cons (pe_ix ix_tup (pe_ix ix_list (pv 2) (pv 5) (fun _ _ => rfl)) pe_int (fun _ _ => rfl)) pa_nil)) pa_nil))) pa_nil)))))
      pss_nil)
      (pss_cons (ps_set (i := 6) sc_law.nd rfl (Or.inl rfl) (pe_lst (pa_cons (pe_meth0 (pe_ix ix_list (pv 1) (pv 5) (fun _ _ => rfl)) T.cl_Store T.me_Store_rooms (ok_Store_rooms T) (hr.mono (by decide)) T.b_Store_rooms .nil pass0) (pa_cons (pe_meth0 (pe_ix ix_list (pv 1) (pv 5) (fun _ _ => rfl)) T.cl_Store T.me_Store_heads (ok_Store_heads T) (hr.mono (by decide)) T.b_Store_heads .nil pass0) pa_nil))))
      (pss_cons (ps_set (i := 7) sc_law.nd rfl (Or.inl rfl) (pe_callB (call_repr2 hg hr.units) (by rfl) T.n_repr (by decide +kernel) (pa_cons (pv 6) pa_nil)))
      (pss_cons (ps_expr (pe_call (ok_deed T) (hr.mono (by decide)) rfl T.m_deed T.F_deed.kp T.b_deed .nil pass0 (pa_cons (pv 4) (pa_cons (pe_ix ix_list (pv 1) (pv 5) (fun _ _ => rfl)) (pa_cons (pe_ix ix_list (pv 2) (pv 5) (fun _ _ => rfl)) pa_nil)))))
      (pss_cons (ps_for PassesOwn.never rfl (pi_w (pi_zip (by rfl) T.n_zip (pa_cons (pv 1) (pa_cons (pv 2) pa_nil)))) (pg_tup (n := 2) rfl (pgs_cons (pg_name (i := 8) sc_law.nd rfl (Or.inl rfl)) (pgs_cons (pg_name (i := 9) sc_law.nd rfl (Or.inl rfl)) pgs_nil)))
      (pss_one (ps_if (PW.pt (pw_or (pt_cmpR (op_neW hr.units) (pe_call (ok_look T) (hr.mono (by decide)) rfl T.m_look T.F_look.kp T.b_look .nil pass0 (pa_cons (pv 8) pa_nil)) (pe_tup (pa_cons (pe_ix ix_tup (pv 9) pe_int (fun _ _ => rfl)) (pa_cons (pe_ix ix_tup (pv 9) pe_int (fun _ _ => rfl)) (pa_cons (pe_callB call_lenD (by rfl) T.n_len PySem.boot_len (pa_cons (pe_ix ix_tup (pv 9) pe_int (fun _ _ => rfl)) pa_nil)) pa_nil)))) (nomark _)) (pw_or1 (pt_not (pt_val (pe_call (ok_is_full T) (hr.mono (by decide)) rfl T.m_is_full T.F_is_full.kp T.b_is_full .nil pass0 (pa_cons (pv 8) pa_nil)))))))
      (pss_one (ps_ret pe_bl))
      pss_nil)))
      (pss_one (ps_if (pt_cmpR op_ne (pe_callB (call_repr2 hg hr.units) (by rfl) T.n_repr (by decide +kernel) (pa_cons (pv 6) pa_nil)) (pv 7) (nomark _))
      (pss_one (ps_ret pe_bl))
      pss_nil))))))))))
      (pss_one (ps_ret pe_bl))))), ?_⟩
    dsimp only [cxOf, Cx.nox, Cx.wish]
    walk_at "go"
    intro p dx np ndx ndp
    have s0 : Same H (upd (upd H dx (.own p)) p (.ins A.c_Store dx [])) := same_upd (same_new ndx) np
    refine ⟨p, dx, .int 6, .int 6, rfl, upd_same, .int 6, fun m e h1 h2 H1 r h fr fh nrh so1 hr1 hh1 kp => ?_, fun c => absurd (show mostD (.int 6) = true by decide) (by rw [c]; simp)⟩
    cases e
    have s1 : Same H H1 := fun b u e => kp b u (s0 _ _ e) (ne_of_none e np)
    have hS1 := s1.seq hS
    refine ⟨rfl, ?_⟩
    walk_at "go"
    intro S hSn
    have e2 : Same H1 (upd H1 S (.lst [.ref p])) := same_new hSn
    have st2 : upd H1 S (.lst [.ref p]) S = some (.lst [.ref p]) := upd_same
    generalize upd H1 S (.lst [.ref p]) = H2 at *
    walk_at "go"
    intro R hRn
    have e3 : Same H2 (upd H2 R (.dK [])) := same_new hRn
    have hR3 : upd H2 R (.dK []) R = some (.dK []) := upd_same
    generalize upd H2 R (.dK []) = H3 at *
    walk_at "go"
    intro G hGn
    have e4 : Same H3 (upd H3 G (.dK [])) := same_new hGn
    have hG4 : upd H3 G (.dK []) G = some (.dK []) := upd_same
    generalize upd H3 G (.dK []) = H4 at *
    walk_at "go"
    intro Tt hTn
    have e5 : Same H4 (upd H4 Tt (.tup [.ref R, .ref G])) := same_new hTn
    have hT5 : upd H4 Tt (.tup [.ref R, .ref G]) Tt = some (.tup [.ref R, .ref G]) := upd_same
    generalize upd H4 Tt (.tup [.ref R, .ref G]) = H5 at *
    walk_at "go"
    intro O hOn
    have e6 : Same H5 (upd H5 O (.lst [.ref Tt])) := same_new hOn
    have hO6 : upd H5 O (.lst [.ref Tt]) O = some (.lst [.ref Tt]) := upd_same
    generalize upd H5 O (.lst [.ref Tt]) = H6 at *
    have s26 : Same H2 H6 := ((e3.trans e4).trans e5).trans e6
    have w0 : WS K A.c_Store H H6 S O [(⟨p, r, h, R, G, Tt⟩, ⟨[], [], [], []⟩)] 0 := by
      obtain ⟨dx1, hp1⟩ := so1
      refine ⟨(s1.trans e2).trans s26, s1.free hSn, ((s1.trans e2).trans ((e3.trans e4).trans e5)).free hOn, fun e he b hb => ?_, s26 _ _ st2, hO6, ne_of_none (((e3.trans e4).trans e5) _ _ st2) hOn, Nat.le_refl 1, (by show 1 ≤ 4; decide), fun e he => ?_, ?_⟩
      · rw [List.mem_singleton.mp he] at hb
        have hb : b ∈ [r, h, R, G] := hb
        simp only [List.mem_cons, List.not_mem_nil, or_false] at hb
        rcases hb with rfl | rfl | rfl | rfl
        · exact s0.free fr
        · exact s0.free fh
        · exact (s1.trans e2).free hRn
        · exact ((s1.trans e2).trans e3).free hGn
      · rw [List.mem_singleton.mp he]
        have s16 := e2.trans s26
        refine ⟨⟨⟨dx1, s16 _ _ hp1⟩, s16 _ _ hr1, s16 _ _ hh1, ((e4.trans e5).trans e6) _ _ hR3, (e5.trans e6) _ _ hG4, SqT.of (e6 _ _ hT5), ?_, ?_⟩, Nat.le_refl _⟩
        · have n1 : r ≠ R := ne_of_none (e2 _ _ hr1) hRn
          have n2 : r ≠ G := ne_of_none ((e2.trans e3) _ _ hr1) hGn
          have n3 : h ≠ R := ne_of_none (e2 _ _ hh1) hRn
          have n4 : h ≠ G := ne_of_none ((e2.trans e3) _ _ hh1) hGn
          have n5 : R ≠ G := ne_of_none hR3 hGn
          show [r, h, R, G].Nodup
          simp [nrh, n1, n2, n3, n4, n5]
        · exact ⟨Good.nil, Good.nil, IntD.nil, IntD.nil, Told.nil, Told.nil, Nat.zero_le _⟩
      · have n1 : r ≠ R := ne_of_none (e2 _ _ hr1) hRn
        have n2 : r ≠ G := ne_of_none ((e2.trans e3) _ _ hr1) hGn
        have n3 : h ≠ R := ne_of_none (e2 _ _ hh1) hRn
        have n4 : h ≠ G := ne_of_none ((e2.trans e3) _ _ hh1) hGn
        have n5 : R ≠ G := ne_of_none hR3 hGn
        show [r, h, R, G].Nodup
        simp [nrh, n1, n2, n3, n4, n5]
    have hS6 := w0.sm.seq hS
    clear e2 st2 e3 hR3 e4 hG4 e5 hT5 e6 hO6 s26
    walk_at "go"
    generalize hm : (if (21 : Int) < ((ns.map V.int).length : Nat) then (21 : Int) else ((ns.map V.int).length : Nat)) = m21
    have hm21 : m21 ≤ 21 := by rw [← hm]; split <;> omega
    have hn21 : (if m21 > 3 then m21 else 3).toNat ≤ 21 := by split <;> omega
    generalize (if m21 > 3 then m21 else 3).toNat = n at *
    refine Wrap.mk (for_it walk_upto (fun j σ H2 => Wrap (∃ v3 v4 v5 v6 v7 v8 v9 es, σ = [some (.ref a), some (.ref S), some (.ref O), v3, v4, v5, v6, v7, v8, v9] ∧ WS K A.c_Store H H2 S O es j)) ⟨none, none, none, none, none, none, none, _, rfl, w0⟩ (fun _ _ _ _ _ => trivial) ?_ ?_)
    · clear w0 hS6 hr1 hh1 so1 kp fr fh nrh s0 s1 np ndx ndp hS1 hSn hRn hGn hTn hOn
      rintro j v σ H2 H3 hj ⟨v3, v4, v5, v6, v7, v8, v9, es, rfl, w⟩ ⟨rfl, rfl⟩
      have hj63 : j ≤ 63 := by omega
      have hS2 := w.sm.seq hS
      walk_at "go"
      intro q cc ss fq c0 s0 s1
      have fqH := w.sm.free fq
      have nSq : S ≠ q := ne_of_none w.st fq
      have nOq : O ≠ q := ne_of_none w.ow fq
      have hq : PoolAt (upd H3 q (.lst [.int cc, .int ss])) q := ⟨cc, ss, upd_same, c0, s0, s1⟩
      have w := w.same (same_new (o := .lst [.int cc, .int ss]) fq)
      generalize upd H3 q (.lst [.int cc, .int ss]) = H4 at *
      have stw := w.st
      have hl0 : (0 : Int) < ((es.map fun e => V.ref e.1.p).length : Int) := by rw [List.length_map]; have := w.l1; omega
      have hl1 : ((es.map fun e => V.ref e.1.p).length : Int) < 1073741824 := by rw [List.length_map]; have := w.l4; omega
      walk_at "go"
      intro r1 H5 r10 r11 d5
      have w := w.drew hq d5 fqH nSq nOq
      have hq := d5.pool
      rw [List.length_map] at r11
      obtain ⟨i, rfl⟩ : ∃ i : Nat, r1 = (i : Int) := ⟨r1.toNat, by omega⟩
      have hi : i < es.length := by omega
      clear stw hl0 hl1 d5
      refine ⟨fun σ H6 => Wrap (∃ es', σ = [some (.ref a), some (.ref S), some (.ref O), some (.int (j : Int)), some (.ref q), some (.int (i : Int)), v6, v7, v8, v9] ∧ WS K A.c_Store H H6 S O es' j ∧ PoolAt H6 q ∧ i < es'.length), ?_, ?_⟩
      · have stw := w.st
        have hu1 := hr.units0
        walk_at "go"
        with_reducible refine by2 (fun c4 => ?_) (fun c4 => ?_)
        · have c4 := of_decide_eq_true c4
          rw [List.length_map] at c4
          walk_at "go"
          intro r4 H6 r40 r41 d6
          have w := w.drew hq d6 fqH nSq nOq
          have hq := d6.pool
          walk_at "go"
          with_reducible refine by2 (fun c5 => ?_) (fun c5 => ?_)
          · obtain ⟨⟨ad, ct⟩, hie⟩ : ∃ e, es[i]? = some e := ⟨_, List.getElem?_eq_getElem hi⟩
            obtain ⟨t, htl⟩ := w.all _ (List.mem_of_getElem? hie)
            have t : At K A.c_Store H6 ad ct := t
            have htl : ct.hvs.length ≤ j := htl
            have so := t.so
            obtain ⟨dx2, hp2⟩ := id so
            have trr := t.rr
            have thh := t.hh
            have ik := t.lg.gk.it
            have ih := t.lg.gh.it
            have l6 := t.lg.l6
            have a0 : atI (es.map fun e => V.ref e.1.p) (i : Int) = some (.ref ad.p) := atI_nat (by rw [List.getElem?_map, hie]; rfl)
            have stw := w.st
            have no : (sf 6 ad.r ad.h).lookup ("twin" : Str) = none := sf_no _ _ _ (by decide +kernel) (by decide +kernel) (by decide +kernel)
            walk_at "go"
            intro H7 p' r' h' ks1 ls1 s7 pn rn hn nrh so7 hr7 hh7 told1 told2 id1 id2
            have hS7 := s7 _ _ stw
            have hlz : (es.map fun e => V.ref e.1.p).length < sizeLine := by rw [List.length_map]; exact small1000 (by omega)
            have k8 : ∀ b u, b ≠ S → H7 b = some u → upd H7 S (.lst ((es.map fun e => V.ref e.1.p) ++ [.ref p'])) b = some u := fun b u n e => by rw [upd_ne n]; exact e
            have hO8 : upd H7 S (.lst ((es.map fun e => V.ref e.1.p) ++ [.ref p'])) O = some (.lst (es.map fun e => V.ref e.1.T)) := k8 _ _ w.so.symm (s7 _ _ w.ow)
            have tt8 : SqT K (upd H7 S (.lst ((es.map fun e => V.ref e.1.p) ++ [.ref p']))) ad.T [.ref ad.R, .ref ad.G] := tup_lst hS7 (t.same s7).tt
            have nds : ∀ {b : Addr} {l : List (Key × V)}, H6 b = some (.dK l) → b ≠ S := fun {b l} e z => by rw [z, stw] at e; cases e
            have hR8 : Rd (upd H7 S (.lst ((es.map fun e => V.ref e.1.p) ++ [.ref p']))) ad.R (.dK ct.ok) := Rd.of (k8 _ _ (nds t.oR) (s7 _ _ t.oR))
            have hG8 : upd H7 S (.lst ((es.map fun e => V.ref e.1.p) ++ [.ref p'])) ad.G = some (.dK ct.og) := k8 _ _ (nds t.oG) (s7 _ _ t.oG)
            have hS8 : upd H7 S (.lst ((es.map fun e => V.ref e.1.p) ++ [.ref p'])) S = some (.lst ((es.map fun e => V.ref e.1.p) ++ [.ref p'])) := upd_same
            have a1 : atI (es.map fun e => V.ref e.1.T) (i : Int) = some (.ref ad.T) := atI_nat (by rw [List.getElem?_map, hie]; rfl)
            have i0 : atI [V.ref ad.R, .ref ad.G] 0 = some (.ref ad.R) := atI_nat (j := 0) rfl
            have i1 : atI [V.ref ad.R, .ref ad.G] 1 = some (.ref ad.G) := atI_nat (j := 1) rfl
            walk_at "go"
            generalize upd H7 S (.lst ((es.map fun e => V.ref e.1.p) ++ [.ref p'])) = H8 at *
            intro R' hRn
            have e9 := same_new (o := .dK ct.ok) hRn
            have hR9 : upd H8 R' (.dK ct.ok) R' = some (.dK ct.ok) := upd_same
            have hO9 := e9 _ _ hO8
            have tt9 := sqT_same e9 tt8
            have hG9 : Rd (upd H8 R' (.dK ct.ok)) ad.G (.dK ct.og) := Rd.of (e9 _ _ hG8)
            walk_at "go"
            generalize upd H8 R' (.dK ct.ok) = H9 at *
            intro G' hGn
            have e10 := same_new (o := .dK ct.og) hGn
            have hG10 : upd H9 G' (.dK ct.og) G' = some (.dK ct.og) := upd_same
            generalize upd H9 G' (.dK ct.og) = H10 at *
            walk_at "go"
            intro T' hTn
            have e11 := same_new (o := .tup [.ref R', .ref G']) hTn
            have hT11 : upd H10 T' (.tup [.ref R', .ref G']) T' = some (.tup [.ref R', .ref G']) := upd_same
            have hO11 := e11 _ _ (e10 _ _ hO9)
            have hlz2 : (es.map fun e => V.ref e.1.T).length < sizeLine := by rw [List.length_map]; exact small1000 (by omega)
            walk_at "go"
            generalize upd H10 T' (.tup [.ref R', .ref G']) = H11 at *
            have e811 := (e9.trans e10).trans e11
            have keep : ∀ b u, b ≠ S → b ≠ O → H7 b = some u → upd H11 O (.lst ((es.map fun e => V.ref e.1.T) ++ [.ref T'])) b = some u := fun b u n1 n2 e => by rw [upd_ne n2]; exact e811 _ _ (k8 _ _ n1 e)
            have up : ∀ b u, b ≠ O → H11 b = some u → upd H11 O (.lst ((es.map fun e => V.ref e.1.T) ++ [.ref T'])) b = some u := fun b u n e => by rw [upd_ne n]; exact e
            obtain ⟨dx7, hp7⟩ := so7
            have hO7 := s7 _ _ w.ow
            have nk : ∀ {b : Addr} {u : HO}, H7 b = some u → (∀ l, u ≠ .lst l) → b ≠ S ∧ b ≠ O := fun {b u} e n => ⟨fun z => (by rw [z, hS7] at e; exact n _ (Option.some.inj e).symm), fun z => (by rw [z, hO7] at e; exact n _ (Option.some.inj e).symm)⟩
            have kp7 : ∀ {b : Addr} {u : HO}, H7 b = some u → (∀ l, u ≠ .lst l) → upd H11 O (.lst ((es.map fun e => V.ref e.1.T) ++ [.ref T'])) b = some u := fun {b u} e n => keep b u (nk e n).1 (nk e n).2 e
            have no8 : ∀ {b : Addr}, H8 b = none → b ≠ O := fun {b} e => (ne_of_none hO8 e).symm
            have no7 : ∀ {b : Addr} {u : HO}, H8 b = none → H7 b = some u → (∀ l, u ≠ .lst l) → False := fun {b u} e e2 n => by rw [k8 b u (nk e2 n).1 e2] at e; cases e
            have g7 := t.lg.gk.imp fun v x => x.frx (.same s7)
            have frk : FrX H7 (upd H11 O (.lst ((es.map fun e => V.ref e.1.T) ++ [.ref T']))) := fun b u _ n2 e => kp7 e n2
            have hRn9 : H8 R' = none := hRn
            have hGn8 : H8 G' = none := e9.free hGn
            have n1 : r' ≠ R' := fun z => no7 hRn (z ▸ hr7) (by intro l z; cases z)
            have n2 : r' ≠ G' := fun z => no7 hGn8 (z ▸ hr7) (by intro l z; cases z)
            have n3 : h' ≠ R' := fun z => no7 hRn (z ▸ hh7) (by intro l z; cases z)
            have n4 : h' ≠ G' := fun z => no7 hGn8 (z ▸ hh7) (by intro l z; cases z)
            have n5 : R' ≠ G' := ne_of_none hR9 hGn
            have free6 : ∀ {b : Addr}, H8 b = none → b ≠ S → H6 b = none := fun {b} e n => by
              cases c : H6 b with
              | none => rfl
              | some u => rw [k8 b u n (s7 _ _ c)] at e; cases e
            have nS8 : ∀ {b : Addr}, H8 b = none → b ≠ S := fun {b} e => (ne_of_none hS8 e).symm
            refine ⟨es ++ [(⟨p', r', h', R', G', T'⟩, ⟨ks1, ls1, ct.ok, ct.og⟩)], rfl, w.grow (H1 := H7) s7 ?_ upd_same keep ?_ ?_ ?_ (by omega), ?_, by rw [List.length_append]; omega⟩
            · exact up _ _ w.so (e811 _ _ hS8)
            · refine ⟨⟨dx7, kp7 hp7 (by intro l z; cases z)⟩, kp7 hr7 (by intro l z; cases z), kp7 hh7 (by intro l z; cases z), up _ _ (no8 hRn) ((e10.trans e11) _ _ hR9), up _ _ (no8 hGn8) (e11 _ _ hG10), SqT.of (up _ _ (no8 ((e9.trans e10).free hTn)) hT11), ?_, ?_⟩
              · show [r', h', R', G'].Nodup
                simp [nrh, n1, n2, n3, n4, n5]
              · exact ⟨(g7.told told1 id1).imp fun v x => x.frx frk, t.lg.gh.told told2 id2, t.lg.io, t.lg.ig, (told1.symm ik).trans t.lg.tk, (told2.symm ih).trans t.lg.th, by show ks1.length ≤ 6; rw [told1.len]; exact l6⟩
            · show ls1.length ≤ j
              rw [told2.len]; exact htl
            · intro b hb
              have hb : b ∈ [r', h', R', G'] := hb
              simp only [List.mem_cons, List.not_mem_nil, or_false] at hb
              rcases hb with rfl | rfl | rfl | rfl
              · exact rn
              · exact hn
              · exact free6 hRn (nS8 hRn)
              · exact free6 hGn8 (nS8 hGn8)
            · obtain ⟨cp, ce, hpe, hps⟩ := hq
              exact ⟨cp, ce, keep _ _ nSq.symm nOq.symm (s7 _ _ hpe), hps⟩
          · exact ⟨es, rfl, w, hq, hi⟩
        · with_reducible refine else_ rfl ?_
          exact ⟨es, rfl, w, hq, hi⟩
      clear w hq hi
      rintro σ H6 ⟨es, rfl, w, hq, hi⟩
      obtain ⟨⟨ad, ct⟩, hie⟩ : ∃ e, es[i]? = some e := ⟨_, List.getElem?_eq_getElem hi⟩
      obtain ⟨t, htl⟩ := w.all _ (List.mem_of_getElem? hie)
      have t : At K A.c_Store H6 ad ct := t
      have htl : ct.hvs.length ≤ j := htl
      have so := t.so
      obtain ⟨dx2, hp2⟩ := id so
      have trr := t.rr
      have thh := t.hh
      have ik := t.lg.gk.it
      have ih := t.lg.gh.it
      have l6 := t.lg.l6
      have a0 : atI (es.map fun e => V.ref e.1.p) (i : Int) = some (.ref ad.p) := atI_nat (by rw [List.getElem?_map, hie]; rfl)
      have a1 : atI (es.map fun e => V.ref e.1.T) (i : Int) = some (.ref ad.T) := atI_nat (by rw [List.getElem?_map, hie]; rfl)
      have stw := w.st
      have no1 : (sf 6 ad.r ad.h).lookup ("rooms" : Str) = none := sf_no _ _ _ (by decide +kernel) (by decide +kernel) (by decide +kernel)
      have no2 : (sf 6 ad.r ad.h).lookup ("heads" : Str) = none := sf_no _ _ _ (by decide +kernel) (by decide +kernel) (by decide +kernel)
      walk_at "go"
      intro H7 d1 ks1 s7 hd1n hd1 told1 id1
      have so7 : SObj A.c_Store H7 ad.p 6 ad.r ad.h := ⟨dx2, s7 _ _ hp2⟩
      have hp7 := s7 _ _ hp2
      have hh7 := s7 _ _ thh
      have st7 := s7 _ _ stw
      walk_at "go"
      intro H8 d2 ls1 s8 hd2n hd2 told2 id2
      walk_at "go"
      intro L hLn
      have e9 := same_new (o := .lst [.ref d1, .ref d2]) hLn
      have hL9 : upd H8 L (.lst [.ref d1, .ref d2]) L = some (.lst [.ref d1, .ref d2]) := upd_same
      have hd19 := e9 _ _ (s8 _ _ hd1)
      have hd29 := e9 _ _ hd2
      have s69 := (s7.trans s8).trans e9
      have w9 := w.same s69
      have hq9 := hq.same s69
      have t9 := t.same s69
      obtain ⟨ds, dss, shw⟩ := shows_of ((t9.lg.gk).told told1 id1) (t9.lg.gh.told told2 id2) (by rw [told1.len]; exact l6) (by rw [told2.len]; omega)
      have x1 := shw.d1; have x2 := shw.d2; have x3 := shw.sh; have x4 := shw.dp; have x5 := shw.sz
      generalize upd H8 L (.lst [.ref d1, .ref d2]) = H9 at *
      have st9 := w9.st
      have ow9 := w9.ow
      walk_at "go"
      intro H10 c' f10 t10 hl10
      have hdl := w9.dl hq9 hie
      have fx := f10.frx hdl
      have w10 := w9.deed hq9 fqH nSq nOq hie f10 t10 (by omega)
      have hl10' := w10.l4
      have nq1 : d1 ≠ q := fun z => by obtain ⟨l, hl⟩ := hq9.some; rw [← z, hd19] at hl; cases hl
      have nq2 : d2 ≠ q := fun z => by obtain ⟨l, hl⟩ := hq9.some; rw [← z, hd29] at hl; cases hl
      have mie := List.mem_of_getElem? hie
      have nin : ∀ {b : Addr} {u : HO}, H6 b = none → H9 b = some u → b ≠ q → H10 b = some u := fun {b u} e e2 n => f10 _ _ (fun m => by
        rcases List.mem_cons.mp m with z | m
        · exact n z
        · exact w.ne_new e _ mie m) e2
      have hd110 := nin hd1n hd19 nq1
      have hd210 := nin (s7.free hd2n) hd29 nq2
      have hL10 := nin ((s7.trans s8).free hLn) hL9 ((hq.same (s7.trans s8)).ne hLn)
      have shw10 := shw.frx fx
      generalize es.set i (ad, c') = es2 at *
      clear w w9 hq hq9 t t9 t10 f10 fx hie mie hdl so hp2 trr thh so7 hp7 hh7 st7 st9 ow9 x1 x2 x3 x4 x5 shw hd19 hd29 hL9 hd1 hd2 nin stw a0 a1
      have st10 := w10.st
      have ow10 := w10.ow
      walk_at "go"
      refine Wrap.mk (for_it (walk_zip (n := es2.length) (xs := es2.map fun e => V.ref e.1.p) (ys := es2.map fun e => V.ref e.1.T) (by rw [List.length_map, List.length_map, Nat.min_self])) (fun _ σ H' => Wrap (∃ v8 v9, σ = [some (.ref a), some (.ref S), some (.ref O), some (.int (j : Int)), some (.ref q), some (.int (i : Int)), some (.ref L), some (.str (PyData.list [dictP ks1 ds, dictP ls1 dss]).shown), v8, v9] ∧ Same H10 H')) ⟨v8, v9, rfl, Same.refl _⟩
        (fun _ σ H' _ c => by obtain ⟨_, _, _, s⟩ := c.ex; exact ⟨SqL.of (s _ _ st10), SqL.of (s _ _ ow10)⟩) ?_ ?_)
      · rintro i' v σ H11 H12 hi' ⟨v8', v9', rfl, s11⟩ ⟨Tp, x, y, rfl, hTn, rfl, hx, hy⟩
        have hx : (es2.map fun e => V.ref e.1.p)[i']? = some x := hx
        have hy : (es2.map fun e => V.ref e.1.T)[i']? = some y := hy
        rw [List.getElem?_map] at hx hy
        obtain ⟨⟨ae, ce⟩, hee⟩ : ∃ e, es2[i']? = some e := ⟨_, List.getElem?_eq_getElem hi'⟩
        rw [hee] at hx hy
        obtain rfl : V.ref ae.p = x := Option.some.inj hx
        obtain rfl : V.ref ae.T = y := Option.some.inj hy
        have e12 := same_new (o := .tup [V.ref ae.p, .ref ae.T]) hTn
        have hT12 : upd H11 Tp (.tup [V.ref ae.p, .ref ae.T]) Tp = some (.tup [V.ref ae.p, .ref ae.T]) := upd_same
        have t : At K A.c_Store (upd H11 Tp (.tup [V.ref ae.p, .ref ae.T])) ae ce := (w10.all _ (List.mem_of_getElem? hee)).1.same (s11.trans e12)
        have tl : ce.hvs.length ≤ j + 1 := (w10.all _ (List.mem_of_getElem? hee)).2
        have s12 := s11.trans e12
        generalize upd H11 Tp (.tup [V.ref ae.p, .ref ae.T]) = H12 at *
        have so := t.so
        have trr := t.rr
        have thh := t.hh
        have ik := t.lg.gk.it
        have ih := t.lg.gh.it
        have l6 := t.lg.l6
        walk_at "go"
        intro H13 tt dd1 dd2 ka la s13 htt hdd1 hdd2 tk1 tk2 ia ib
        have t13 := t.same s13
        have tt13 := t13.tt
        have oR13 := t13.oR
        have i0 : atI [V.ref ae.R, .ref ae.G] 0 = some (.ref ae.R) := atI_nat (j := 0) rfl
        have i1 : atI [V.ref ae.R, .ref ae.G] 1 = some (.ref ae.G) := atI_nat (j := 1) rfl
        walk_at "go"
        intro t2 ht2
        have e14 := same_new (o := .tup [.ref ae.R, .ref ae.G, .int (ce.ok.length : Int)]) ht2
        have g1 := told_eq (K := K) (H := upd H13 t2 (.tup [.ref ae.R, .ref ae.G, .int (ce.ok.length : Int)])) tk1 t.lg.tk fun p hp => (((t.lg.gk.told tk1 ia).mem p hp).2).same
        have g2 := told_eq (K := K) (H := upd H13 t2 (.tup [.ref ae.R, .ref ae.G, .int (ce.ok.length : Int)])) tk2 t.lg.th fun p hp => (((t.lg.gh.told tk2 ib).mem p hp).2).same
        have hEq : EqT K (upd H13 t2 (.tup [.ref ae.R, .ref ae.G, .int (ce.ok.length : Int)])) (EqW K (upd H13 t2 (.tup [.ref ae.R, .ref ae.G, .int (ce.ok.length : Int)])) 2) (.ref tt) (.ref t2) := by
          refine ⟨tt, t2, _, _, rfl, rfl, SqT.of (e14 _ _ htt), SqT.of upd_same, .cons ?_ (.cons ?_ (.cons ?_ .nil))⟩
          · exact .inr (.inr (.inl (.inr ⟨dd1, ae.R, ka, ce.ok, rfl, rfl, e14 _ _ hdd1, e14 _ _ t13.oR, g1.1, g1.2⟩)))
          · exact .inr (.inr (.inl (.inr ⟨dd2, ae.G, la, ce.og, rfl, rfl, e14 _ _ hdd2, e14 _ _ t13.oG, g2.1, g2.2⟩)))
          · exact .inl ⟨by rw [t.lg.tk.len], rfl⟩
        have hone : (2 : Nat) ≤ 60 := by decide
        have t14 := t13.same e14
        have s14 := (s12.trans s13).trans e14
        generalize upd H13 t2 (.tup [.ref ae.R, .ref ae.G, .int (ce.ok.length : Int)]) = H14 at *
        have so14 := t14.so
        have trr14 := t14.rr
        have thh14 := t14.hh
        walk_at "go"
        intro H15 s15
        walk_at "go"
        with_reducible refine else_ rfl ?_
        exact ⟨_, _, rfl, s14.trans s15⟩
      · rintro σ H11 ⟨v8', v9', rfl, s11⟩
        have hd111 := s11 _ _ hd110
        have hd211 := s11 _ _ hd210
        have hL11 := s11 _ _ hL10
        have shw := shw10.frx (.same s11)
        have x1 := shw.d1; have x2 := shw.d2; have x3 := shw.sh; have x4 := shw.dp; have x5 := shw.sz
        walk_at "go"
        with_reducible refine else_ (by simp) ?_
        exact ⟨_, _, _, _, _, _, _, es2, rfl, w10.same s11⟩
    · rintro σ H2 ⟨v3, v4, v5, v6, v7, v8, v9, es, rfl, w⟩
      walk_at "go"
      exact k _

end
theorem all_mk {l : PySem.W.OpenLaw} {w : World} {K : PySem.W.Frag} {h : Heap} {mg : Str → Option Value} {fa : Addr} (X : K.In h) (G : h.Ns mainGlobals mg) (hfa : mg "law" = some (.ref fa))
    {a_NoSize_init a_NoRoom_init a_NoSlot_init a_Full_init a_is_whole a_is_key a_is_number a_are_rows a_are_bounds a_is_leaf a_is_bough a_is_record a_look_at_most a_least_free a_Store_init a_Store_look_at_room a_Store_look_at_slot a_Store_look_at_free a_Store_put_in a_Store_let_go a_Store_new_slot a_Store_drop a_Store_swap a_Store_rooms a_Store_heads a_Store_twin a_Store___len__ a_pool a_take a_key a_number a_value a_drawn_base a_drawn_record a_look a_deed a_is_full a_law c_Store c_NoSize c_NoRoom c_Full c_NoSlot c_NoRecord k_FORMS k_FORMS_0 k_FORMS_1 k_FORMS_2 k_FORMS_3 k_FORMS_4 k_FORMS_5 k_FORMS_6 k_FORMS_7 k_FORMS_8 k_FORMS_9 : Addr} {od0 an0 od1 an1 od2 an2 od3 an3 od4 an4 od5 an5 od6 an6 od7 an7 od8 an8 od9 an9 od10 an10 od11 an11 od12 an12 od13 an13 od14 an14 od15 an15 od16 an16 od17 an17 od18 an18 od19 an19 od20 an20 od21 an21 od22 an22 od23 an23 od24 an24 od25 an25 od26 an26 od27 an27 od28 an28 od29 an29 od30 an30 od31 an31 od32 an32 od33 an33 od34 an34 od35 an35 od36 an36 od37 an37 : Option Addr} {sl0 sl1 sl2 sl3 sl4 sl5 sl6 sl7 sl8 sl9 sl10 sl11 sl12 sl13 sl14 sl15 sl16 sl17 sl18 sl19 sl20 sl21 sl22 sl23 sl24 sl25 sl26 sl27 sl28 sl29 sl30 sl31 sl32 sl33 sl34 sl35 sl36 sl37 : Array (Option Value)} {oc0 kV0 dc0 pm0 cd0 ct0 oc1 kV1 dc1 pm1 cd1 ct1 oc2 kV2 dc2 pm2 cd2 ct2 oc3 kV3 dc3 pm3 cd3 ct3 oc4 kV4 dc4 pm4 cd4 ct4 oc5 kV5 dc5 pm5 cd5 ct5 oc6 kV6 dc6 pm6 cd6 ct6 oc7 kV7 dc7 pm7 cd7 ct7 oc8 kV8 dc8 pm8 cd8 ct8 oc9 kV9 dc9 pm9 cd9 ct9 oc10 kV10 dc10 pm10 cd10 ct10 oc11 kV11 dc11 pm11 cd11 ct11 oc12 kV12 dc12 pm12 cd12 ct12 oc13 kV13 dc13 pm13 cd13 ct13 oc14 dc14 pm14 cd14 ct14 oc15 kV15 dc15 pm15 cd15 ct15 oc16 kV16 dc16 pm16 cd16 ct16 oc17 kV17 dc17 pm17 cd17 ct17 oc18 kV18 dc18 pm18 cd18 ct18 oc19 kV19 dc19 pm19 cd19 ct19 oc20 kV20 dc20 pm20 cd20 ct20 oc21 kV21 dc21 pm21 cd21 ct21 oc22 kV22 dc22 pm22 cd22 ct22 oc23 kV23 dc23 pm23 cd23 ct23 oc24 kV24 dc24 pm24 cd24 ct24 oc25 kV25 dc25 pm25 cd25 ct25 oc26 kV26 dc26 pm26 cd26 ct26 oc27 kV27 dc27 pm27 cd27 ct27 oc28 kV28 dc28 pm28 cd28 ct28 oc29 kV29 dc29 pm29 cd29 ct29 oc30 kV30 dc30 pm30 cd30 ct30 oc31 kV31 dc31 pm31 cd31 ct31 oc32 kV32 dc32 pm32 cd32 ct32 oc33 kV33 dc33 pm33 cd33 ct33 oc34 kV34 dc34 pm34 cd34 ct34 oc35 kV35 dc35 pm35 cd35 ct35 oc36 kV36 dc36 pm36 cd36 ct36 oc37 kV37 dc37 pm37 cd37 ct37 : Value} {tk_MOST_KEY tk_MOST_LEVEL tk_MOST_ROWS tk_MOST_ROOMS tk_ROOMS : Tok} {es_FORMS : Array DictEntry} {nn_FORMS : Nat} {dd_FORMS_0 dd_FORMS_1 dd_FORMS_2 dd_FORMS_3 dd_FORMS_4 dd_FORMS_5 dd_FORMS_6 dd_FORMS_7 dd_FORMS_8 dd_FORMS_9 : Option Addr} {tn_FORMS_0 tn_FORMS_1 tn_FORMS_2 tn_FORMS_3 tn_FORMS_4 tn_FORMS_5 tn_FORMS_6 tn_FORMS_7 tn_FORMS_8 tn_FORMS_9 : Nat} {ts_FORMS_0 ts_FORMS_1 ts_FORMS_2 ts_FORMS_3 ts_FORMS_4 ts_FORMS_5 ts_FORMS_6 ts_FORMS_7 ts_FORMS_8 ts_FORMS_9 : Array (Option Value)} {nm_NoSize qq_NoSize : Str} {NN_NoSize : Addr} {bs_NoSize : List Value} {sn_NoSize : List Str} {sub_NoSize : List Value} {ab_NoSize : Bool} {col_NoSize : Option Bool} {dd_NoSize : Option Addr} {m0_NoSize m1_NoSize m2_NoSize m3_NoSize m5_NoSize : Option Value} {nm_NoRoom qq_NoRoom : Str} {NN_NoRoom : Addr} {bs_NoRoom : List Value} {sn_NoRoom : List Str} {sub_NoRoom : List Value} {ab_NoRoom : Bool} {col_NoRoom : Option Bool} {dd_NoRoom : Option Addr} {m0_NoRoom m1_NoRoom m2_NoRoom m3_NoRoom m5_NoRoom : Option Value} {nm_Full qq_Full : Str} {NN_Full : Addr} {bs_Full : List Value} {sn_Full : List Str} {sub_Full : List Value} {ab_Full : Bool} {col_Full : Option Bool} {dd_Full : Option Addr} {m0_Full m1_Full m2_Full m3_Full m5_Full : Option Value} {nm_NoSlot qq_NoSlot : Str} {NN_NoSlot : Addr} {bs_NoSlot : List Value} {sn_NoSlot : List Str} {sub_NoSlot : List Value} {ab_NoSlot : Bool} {col_NoSlot : Option Bool} {dd_NoSlot : Option Addr} {m0_NoSlot m1_NoSlot m2_NoSlot m3_NoSlot m5_NoSlot : Option Value} {kvA_Store_init : Addr} {kvT_Store_init : Tok}
    (aC0 : PySem.W.nsIn K mainGlobals "Store" = some (some (.ref c_Store)))
    (gE_NoSize : PySem.W.nsIn K mainGlobals "NoSize" = some (some (.ref c_NoSize)))
    (xE_NoSize : K.lookup c_NoSize = some (excClassObj nm_NoSize qq_NoSize c_NoSize NN_NoSize bs_NoSize ER.tlV true sn_NoSize sub_NoSize ab_NoSize col_NoSize dd_NoSize m0_NoSize m1_NoSize m2_NoSize m3_NoSize m5_NoSize "ValueError.__new__"))
    (sE_NoSize : PySem.W.findIn K (.ref c_NoSize) "__setattr__" = some (some (.builtin "object.__setattr__")))
    (rE_NoSize : PySem.W.findIn K (.ref c_NoSize) "__getattribute__" = some (some (.builtin "BaseException.__getattribute__")))
    (tE_NoSize : PySem.W.findIn K (.ref c_NoSize) "__getattr__" = some none)
    (dE_NoSize : PySem.W.hasDictIn K c_NoSize = true)
    (nE_NoSize_word : PySem.W.findIn K (.ref c_NoSize) "word" = some none)
    (bE_NoSize : PySem.W.subIn K (.ref c_NoSize) (.type "BaseException") = some true)
    (yE_NoSize : PySem.W.typeIn K (.ref c_NoSize) = some (.type "type"))
    (kE_NoSize : PySem.W.keepIn K (.ref c_NoSize) = true)
    (iE_NoSize : PySem.W.isClsIn K c_NoSize = true)
    (uE_NoSize : PySem.W.subIn K (.ref c_NoSize) (.ref c_NoSize) = some true)
    (gE_NoRoom : PySem.W.nsIn K mainGlobals "NoRoom" = some (some (.ref c_NoRoom)))
    (xE_NoRoom : K.lookup c_NoRoom = some (excClassObj nm_NoRoom qq_NoRoom c_NoRoom NN_NoRoom bs_NoRoom ER.tlI true sn_NoRoom sub_NoRoom ab_NoRoom col_NoRoom dd_NoRoom m0_NoRoom m1_NoRoom m2_NoRoom m3_NoRoom m5_NoRoom "IndexError.__new__"))
    (sE_NoRoom : PySem.W.findIn K (.ref c_NoRoom) "__setattr__" = some (some (.builtin "object.__setattr__")))
    (rE_NoRoom : PySem.W.findIn K (.ref c_NoRoom) "__getattribute__" = some (some (.builtin "BaseException.__getattribute__")))
    (tE_NoRoom : PySem.W.findIn K (.ref c_NoRoom) "__getattr__" = some none)
    (dE_NoRoom : PySem.W.hasDictIn K c_NoRoom = true)
    (nE_NoRoom_room : PySem.W.findIn K (.ref c_NoRoom) "room" = some none)
    (bE_NoRoom : PySem.W.subIn K (.ref c_NoRoom) (.type "BaseException") = some true)
    (yE_NoRoom : PySem.W.typeIn K (.ref c_NoRoom) = some (.type "type"))
    (kE_NoRoom : PySem.W.keepIn K (.ref c_NoRoom) = true)
    (iE_NoRoom : PySem.W.isClsIn K c_NoRoom = true)
    (uE_NoRoom : PySem.W.subIn K (.ref c_NoRoom) (.ref c_NoRoom) = some true)
    (gE_Full : PySem.W.nsIn K mainGlobals "Full" = some (some (.ref c_Full)))
    (xE_Full : K.lookup c_Full = some (excClassObj nm_Full qq_Full c_Full NN_Full bs_Full ER.tlO true sn_Full sub_Full ab_Full col_Full dd_Full m0_Full m1_Full m2_Full m3_Full m5_Full "OverflowError.__new__"))
    (sE_Full : PySem.W.findIn K (.ref c_Full) "__setattr__" = some (some (.builtin "object.__setattr__")))
    (rE_Full : PySem.W.findIn K (.ref c_Full) "__getattribute__" = some (some (.builtin "BaseException.__getattribute__")))
    (tE_Full : PySem.W.findIn K (.ref c_Full) "__getattr__" = some none)
    (dE_Full : PySem.W.hasDictIn K c_Full = true)
    (nE_Full_many : PySem.W.findIn K (.ref c_Full) "many" = some none)
    (bE_Full : PySem.W.subIn K (.ref c_Full) (.type "BaseException") = some true)
    (yE_Full : PySem.W.typeIn K (.ref c_Full) = some (.type "type"))
    (kE_Full : PySem.W.keepIn K (.ref c_Full) = true)
    (iE_Full : PySem.W.isClsIn K c_Full = true)
    (uE_Full : PySem.W.subIn K (.ref c_Full) (.ref c_Full) = some true)
    (gE_NoSlot : PySem.W.nsIn K mainGlobals "NoSlot" = some (some (.ref c_NoSlot)))
    (xE_NoSlot : K.lookup c_NoSlot = some (excClassObj nm_NoSlot qq_NoSlot c_NoSlot NN_NoSlot bs_NoSlot ER.tlI true sn_NoSlot sub_NoSlot ab_NoSlot col_NoSlot dd_NoSlot m0_NoSlot m1_NoSlot m2_NoSlot m3_NoSlot m5_NoSlot "IndexError.__new__"))
    (sE_NoSlot : PySem.W.findIn K (.ref c_NoSlot) "__setattr__" = some (some (.builtin "object.__setattr__")))
    (rE_NoSlot : PySem.W.findIn K (.ref c_NoSlot) "__getattribute__" = some (some (.builtin "BaseException.__getattribute__")))
    (tE_NoSlot : PySem.W.findIn K (.ref c_NoSlot) "__getattr__" = some none)
    (dE_NoSlot : PySem.W.hasDictIn K c_NoSlot = true)
    (nE_NoSlot_slot : PySem.W.findIn K (.ref c_NoSlot) "slot" = some none)
    (bE_NoSlot : PySem.W.subIn K (.ref c_NoSlot) (.type "BaseException") = some true)
    (yE_NoSlot : PySem.W.typeIn K (.ref c_NoSlot) = some (.type "type"))
    (kE_NoSlot : PySem.W.keepIn K (.ref c_NoSlot) = true)
    (iE_NoSlot : PySem.W.isClsIn K c_NoSlot = true)
    (uE_NoSlot : PySem.W.subIn K (.ref c_NoSlot) (.ref c_NoSlot) = some true)
    (gE_NoRecord : PySem.W.nsIn K mainGlobals "NoRecord" = some (some (.ref c_NoRecord)))
    (qE_NoRecord : PySem.W.excIn K c_NoRecord ER.tlV "ValueError.__new__" = true)
    (bE_NoRecord : PySem.W.subIn K (.ref c_NoRecord) (.type "BaseException") = some true)
    (yE_NoRecord : PySem.W.typeIn K (.ref c_NoRecord) = some (.type "type"))
    (kE_NoRecord : PySem.W.keepIn K (.ref c_NoRecord) = true)
    (iE_NoRecord : PySem.W.isClsIn K c_NoRecord = true)
    (uE_NoRecord : PySem.W.subIn K (.ref c_NoRecord) (.ref c_NoRecord) = some true)
    (a0 : PySem.W.findIn K (.ref c_NoSize) "__init__" = some (some (.ref a_NoSize_init)))
    (i0 : PySem.W.typeIn K (.ref a_NoSize_init) = some (.type "function"))
    (l0 : K.lookup a_NoSize_init = some ⟨oc0, od0, .func (PySem.W.fnOf "__init__" "NoSize.__init__" (defArgs s_NoSize_init) (defBody s_NoSize_init) (defScope s_NoSize_init) .none kV0 dc0 pm0 an0 cd0 ct0), sl0⟩)
    (c0 : PySem.W.codeIn K cd0 "NoSize.__init__" = true)
    (k0 : PySem.W.keepIn K (.ref a_NoSize_init) = true)
    (a1 : PySem.W.findIn K (.ref c_NoRoom) "__init__" = some (some (.ref a_NoRoom_init)))
    (i1 : PySem.W.typeIn K (.ref a_NoRoom_init) = some (.type "function"))
    (l1 : K.lookup a_NoRoom_init = some ⟨oc1, od1, .func (PySem.W.fnOf "__init__" "NoRoom.__init__" (defArgs s_NoRoom_init) (defBody s_NoRoom_init) (defScope s_NoRoom_init) .none kV1 dc1 pm1 an1 cd1 ct1), sl1⟩)
    (c1 : PySem.W.codeIn K cd1 "NoRoom.__init__" = true)
    (k1 : PySem.W.keepIn K (.ref a_NoRoom_init) = true)
    (a2 : PySem.W.findIn K (.ref c_NoSlot) "__init__" = some (some (.ref a_NoSlot_init)))
    (i2 : PySem.W.typeIn K (.ref a_NoSlot_init) = some (.type "function"))
    (l2 : K.lookup a_NoSlot_init = some ⟨oc2, od2, .func (PySem.W.fnOf "__init__" "NoSlot.__init__" (defArgs s_NoSlot_init) (defBody s_NoSlot_init) (defScope s_NoSlot_init) .none kV2 dc2 pm2 an2 cd2 ct2), sl2⟩)
    (c2 : PySem.W.codeIn K cd2 "NoSlot.__init__" = true)
    (k2 : PySem.W.keepIn K (.ref a_NoSlot_init) = true)
    (a3 : PySem.W.findIn K (.ref c_Full) "__init__" = some (some (.ref a_Full_init)))
    (i3 : PySem.W.typeIn K (.ref a_Full_init) = some (.type "function"))
    (l3 : K.lookup a_Full_init = some ⟨oc3, od3, .func (PySem.W.fnOf "__init__" "Full.__init__" (defArgs s_Full_init) (defBody s_Full_init) (defScope s_Full_init) .none kV3 dc3 pm3 an3 cd3 ct3), sl3⟩)
    (c3 : PySem.W.codeIn K cd3 "Full.__init__" = true)
    (k3 : PySem.W.keepIn K (.ref a_Full_init) = true)
    (a4 : PySem.W.nsIn K mainGlobals "is_whole" = some (some (.ref a_is_whole)))
    (l4 : K.lookup a_is_whole = some ⟨oc4, od4, .func (PySem.W.fnOf "is_whole" "is_whole" (defArgs s_is_whole) (defBody s_is_whole) (defScope s_is_whole) .none kV4 dc4 pm4 an4 cd4 ct4), sl4⟩)
    (c4 : PySem.W.codeIn K cd4 "is_whole" = true)
    (k4 : PySem.W.keepIn K (.ref a_is_whole) = true)
    (a5 : PySem.W.nsIn K mainGlobals "is_key" = some (some (.ref a_is_key)))
    (l5 : K.lookup a_is_key = some ⟨oc5, od5, .func (PySem.W.fnOf "is_key" "is_key" (defArgs s_is_key) (defBody s_is_key) (defScope s_is_key) .none kV5 dc5 pm5 an5 cd5 ct5), sl5⟩)
    (c5 : PySem.W.codeIn K cd5 "is_key" = true)
    (k5 : PySem.W.keepIn K (.ref a_is_key) = true)
    (a6 : PySem.W.nsIn K mainGlobals "is_number" = some (some (.ref a_is_number)))
    (l6 : K.lookup a_is_number = some ⟨oc6, od6, .func (PySem.W.fnOf "is_number" "is_number" (defArgs s_is_number) (defBody s_is_number) (defScope s_is_number) .none kV6 dc6 pm6 an6 cd6 ct6), sl6⟩)
    (c6 : PySem.W.codeIn K cd6 "is_number" = true)
    (k6 : PySem.W.keepIn K (.ref a_is_number) = true)
    (a7 : PySem.W.nsIn K mainGlobals "are_rows" = some (some (.ref a_are_rows)))
    (l7 : K.lookup a_are_rows = some ⟨oc7, od7, .func (PySem.W.fnOf "are_rows" "are_rows" (defArgs s_are_rows) (defBody s_are_rows) (defScope s_are_rows) .none kV7 dc7 pm7 an7 cd7 ct7), sl7⟩)
    (c7 : PySem.W.codeIn K cd7 "are_rows" = true)
    (k7 : PySem.W.keepIn K (.ref a_are_rows) = true)
    (a8 : PySem.W.nsIn K mainGlobals "are_bounds" = some (some (.ref a_are_bounds)))
    (l8 : K.lookup a_are_bounds = some ⟨oc8, od8, .func (PySem.W.fnOf "are_bounds" "are_bounds" (defArgs s_are_bounds) (defBody s_are_bounds) (defScope s_are_bounds) .none kV8 dc8 pm8 an8 cd8 ct8), sl8⟩)
    (c8 : PySem.W.codeIn K cd8 "are_bounds" = true)
    (k8 : PySem.W.keepIn K (.ref a_are_bounds) = true)
    (a9 : PySem.W.nsIn K mainGlobals "is_leaf" = some (some (.ref a_is_leaf)))
    (l9 : K.lookup a_is_leaf = some ⟨oc9, od9, .func (PySem.W.fnOf "is_leaf" "is_leaf" (defArgs s_is_leaf) (defBody s_is_leaf) (defScope s_is_leaf) .none kV9 dc9 pm9 an9 cd9 ct9), sl9⟩)
    (c9 : PySem.W.codeIn K cd9 "is_leaf" = true)
    (k9 : PySem.W.keepIn K (.ref a_is_leaf) = true)
    (a10 : PySem.W.nsIn K mainGlobals "is_bough" = some (some (.ref a_is_bough)))
    (l10 : K.lookup a_is_bough = some ⟨oc10, od10, .func (PySem.W.fnOf "is_bough" "is_bough" (defArgs s_is_bough) (defBody s_is_bough) (defScope s_is_bough) .none kV10 dc10 pm10 an10 cd10 ct10), sl10⟩)
    (c10 : PySem.W.codeIn K cd10 "is_bough" = true)
    (k10 : PySem.W.keepIn K (.ref a_is_bough) = true)
    (a11 : PySem.W.nsIn K mainGlobals "is_record" = some (some (.ref a_is_record)))
    (l11 : K.lookup a_is_record = some ⟨oc11, od11, .func (PySem.W.fnOf "is_record" "is_record" (defArgs s_is_record) (defBody s_is_record) (defScope s_is_record) .none kV11 dc11 pm11 an11 cd11 ct11), sl11⟩)
    (c11 : PySem.W.codeIn K cd11 "is_record" = true)
    (k11 : PySem.W.keepIn K (.ref a_is_record) = true)
    (a12 : PySem.W.nsIn K mainGlobals "look_at_most" = some (some (.ref a_look_at_most)))
    (l12 : K.lookup a_look_at_most = some ⟨oc12, od12, .func (PySem.W.fnOf "look_at_most" "look_at_most" (defArgs s_look_at_most) (defBody s_look_at_most) (defScope s_look_at_most) .none kV12 dc12 pm12 an12 cd12 ct12), sl12⟩)
    (c12 : PySem.W.codeIn K cd12 "look_at_most" = true)
    (k12 : PySem.W.keepIn K (.ref a_look_at_most) = true)
    (a13 : PySem.W.nsIn K mainGlobals "least_free" = some (some (.ref a_least_free)))
    (l13 : K.lookup a_least_free = some ⟨oc13, od13, .func (PySem.W.fnOf "least_free" "least_free" (defArgs s_least_free) (defBody s_least_free) (defScope s_least_free) .none kV13 dc13 pm13 an13 cd13 ct13), sl13⟩)
    (c13 : PySem.W.codeIn K cd13 "least_free" = true)
    (k13 : PySem.W.keepIn K (.ref a_least_free) = true)
    (a14 : PySem.W.findIn K (.ref c_Store) "__init__" = some (some (.ref a_Store_init)))
    (i14 : PySem.W.isFn K (.ref a_Store_init) = true)
    (l14 : K.lookup a_Store_init = some ⟨oc14, od14, .func (PySem.W.fnOf "__init__" "Store.__init__" (defArgs s_Store_init) (defBody s_Store_init) (defScope s_Store_init) .none (.ref kvA_Store_init) dc14 pm14 an14 cd14 ct14), sl14⟩)
    (kvn_Store_init : PySem.W.nsIn K kvA_Store_init "most" = some (some (.int 4000 kvT_Store_init)))
    (c14 : PySem.W.codeIn K cd14 "Store.__init__" = true)
    (k14 : PySem.W.keepIn K (.ref a_Store_init) = true)
    (a15 : PySem.W.findIn K (.ref c_Store) "look_at_room" = some (some (.ref a_Store_look_at_room)))
    (i15 : PySem.W.isFn K (.ref a_Store_look_at_room) = true)
    (l15 : K.lookup a_Store_look_at_room = some ⟨oc15, od15, .func (PySem.W.fnOf "look_at_room" "Store.look_at_room" (defArgs s_Store_look_at_room) (defBody s_Store_look_at_room) (defScope s_Store_look_at_room) .none kV15 dc15 pm15 an15 cd15 ct15), sl15⟩)
    (c15 : PySem.W.codeIn K cd15 "Store.look_at_room" = true)
    (k15 : PySem.W.keepIn K (.ref a_Store_look_at_room) = true)
    (a16 : PySem.W.findIn K (.ref c_Store) "look_at_slot" = some (some (.ref a_Store_look_at_slot)))
    (i16 : PySem.W.isFn K (.ref a_Store_look_at_slot) = true)
    (l16 : K.lookup a_Store_look_at_slot = some ⟨oc16, od16, .func (PySem.W.fnOf "look_at_slot" "Store.look_at_slot" (defArgs s_Store_look_at_slot) (defBody s_Store_look_at_slot) (defScope s_Store_look_at_slot) .none kV16 dc16 pm16 an16 cd16 ct16), sl16⟩)
    (c16 : PySem.W.codeIn K cd16 "Store.look_at_slot" = true)
    (k16 : PySem.W.keepIn K (.ref a_Store_look_at_slot) = true)
    (a17 : PySem.W.findIn K (.ref c_Store) "look_at_free" = some (some (.ref a_Store_look_at_free)))
    (i17 : PySem.W.isFn K (.ref a_Store_look_at_free) = true)
    (l17 : K.lookup a_Store_look_at_free = some ⟨oc17, od17, .func (PySem.W.fnOf "look_at_free" "Store.look_at_free" (defArgs s_Store_look_at_free) (defBody s_Store_look_at_free) (defScope s_Store_look_at_free) .none kV17 dc17 pm17 an17 cd17 ct17), sl17⟩)
    (c17 : PySem.W.codeIn K cd17 "Store.look_at_free" = true)
    (k17 : PySem.W.keepIn K (.ref a_Store_look_at_free) = true)
    (a18 : PySem.W.findIn K (.ref c_Store) "put_in" = some (some (.ref a_Store_put_in)))
    (i18 : PySem.W.isFn K (.ref a_Store_put_in) = true)
    (l18 : K.lookup a_Store_put_in = some ⟨oc18, od18, .func (PySem.W.fnOf "put_in" "Store.put_in" (defArgs s_Store_put_in) (defBody s_Store_put_in) (defScope s_Store_put_in) .none kV18 dc18 pm18 an18 cd18 ct18), sl18⟩)
    (c18 : PySem.W.codeIn K cd18 "Store.put_in" = true)
    (k18 : PySem.W.keepIn K (.ref a_Store_put_in) = true)
    (a19 : PySem.W.findIn K (.ref c_Store) "let_go" = some (some (.ref a_Store_let_go)))
    (i19 : PySem.W.isFn K (.ref a_Store_let_go) = true)
    (l19 : K.lookup a_Store_let_go = some ⟨oc19, od19, .func (PySem.W.fnOf "let_go" "Store.let_go" (defArgs s_Store_let_go) (defBody s_Store_let_go) (defScope s_Store_let_go) .none kV19 dc19 pm19 an19 cd19 ct19), sl19⟩)
    (c19 : PySem.W.codeIn K cd19 "Store.let_go" = true)
    (k19 : PySem.W.keepIn K (.ref a_Store_let_go) = true)
    (a20 : PySem.W.findIn K (.ref c_Store) "new_slot" = some (some (.ref a_Store_new_slot)))
    (i20 : PySem.W.isFn K (.ref a_Store_new_slot) = true)
    (l20 : K.lookup a_Store_new_slot = some ⟨oc20, od20, .func (PySem.W.fnOf "new_slot" "Store.new_slot" (defArgs s_Store_new_slot) (defBody s_Store_new_slot) (defScope s_Store_new_slot) .none kV20 dc20 pm20 an20 cd20 ct20), sl20⟩)
    (c20 : PySem.W.codeIn K cd20 "Store.new_slot" = true)
    (k20 : PySem.W.keepIn K (.ref a_Store_new_slot) = true)
    (a21 : PySem.W.findIn K (.ref c_Store) "drop" = some (some (.ref a_Store_drop)))
    (i21 : PySem.W.isFn K (.ref a_Store_drop) = true)
    (l21 : K.lookup a_Store_drop = some ⟨oc21, od21, .func (PySem.W.fnOf "drop" "Store.drop" (defArgs s_Store_drop) (defBody s_Store_drop) (defScope s_Store_drop) .none kV21 dc21 pm21 an21 cd21 ct21), sl21⟩)
    (c21 : PySem.W.codeIn K cd21 "Store.drop" = true)
    (k21 : PySem.W.keepIn K (.ref a_Store_drop) = true)
    (a22 : PySem.W.findIn K (.ref c_Store) "swap" = some (some (.ref a_Store_swap)))
    (i22 : PySem.W.isFn K (.ref a_Store_swap) = true)
    (l22 : K.lookup a_Store_swap = some ⟨oc22, od22, .func (PySem.W.fnOf "swap" "Store.swap" (defArgs s_Store_swap) (defBody s_Store_swap) (defScope s_Store_swap) .none kV22 dc22 pm22 an22 cd22 ct22), sl22⟩)
    (c22 : PySem.W.codeIn K cd22 "Store.swap" = true)
    (k22 : PySem.W.keepIn K (.ref a_Store_swap) = true)
    (a23 : PySem.W.findIn K (.ref c_Store) "rooms" = some (some (.ref a_Store_rooms)))
    (i23 : PySem.W.isFn K (.ref a_Store_rooms) = true)
    (l23 : K.lookup a_Store_rooms = some ⟨oc23, od23, .func (PySem.W.fnOf "rooms" "Store.rooms" (defArgs s_Store_rooms) (defBody s_Store_rooms) (defScope s_Store_rooms) .none kV23 dc23 pm23 an23 cd23 ct23), sl23⟩)
    (c23 : PySem.W.codeIn K cd23 "Store.rooms" = true)
    (k23 : PySem.W.keepIn K (.ref a_Store_rooms) = true)
    (a24 : PySem.W.findIn K (.ref c_Store) "heads" = some (some (.ref a_Store_heads)))
    (i24 : PySem.W.isFn K (.ref a_Store_heads) = true)
    (l24 : K.lookup a_Store_heads = some ⟨oc24, od24, .func (PySem.W.fnOf "heads" "Store.heads" (defArgs s_Store_heads) (defBody s_Store_heads) (defScope s_Store_heads) .none kV24 dc24 pm24 an24 cd24 ct24), sl24⟩)
    (c24 : PySem.W.codeIn K cd24 "Store.heads" = true)
    (k24 : PySem.W.keepIn K (.ref a_Store_heads) = true)
    (a25 : PySem.W.findIn K (.ref c_Store) "twin" = some (some (.ref a_Store_twin)))
    (i25 : PySem.W.isFn K (.ref a_Store_twin) = true)
    (l25 : K.lookup a_Store_twin = some ⟨oc25, od25, .func (PySem.W.fnOf "twin" "Store.twin" (defArgs s_Store_twin) (defBody s_Store_twin) (defScope s_Store_twin) .none kV25 dc25 pm25 an25 cd25 ct25), sl25⟩)
    (c25 : PySem.W.codeIn K cd25 "Store.twin" = true)
    (k25 : PySem.W.keepIn K (.ref a_Store_twin) = true)
    (a26 : PySem.W.findIn K (.ref c_Store) "__len__" = some (some (.ref a_Store___len__)))
    (i26 : PySem.W.isFn K (.ref a_Store___len__) = true)
    (l26 : K.lookup a_Store___len__ = some ⟨oc26, od26, .func (PySem.W.fnOf "__len__" "Store.__len__" (defArgs s_Store___len__) (defBody s_Store___len__) (defScope s_Store___len__) .none kV26 dc26 pm26 an26 cd26 ct26), sl26⟩)
    (c26 : PySem.W.codeIn K cd26 "Store.__len__" = true)
    (k26 : PySem.W.keepIn K (.ref a_Store___len__) = true)
    (a27 : PySem.W.nsIn K mainGlobals "_law_pool" = some (some (.ref a_pool)))
    (l27 : K.lookup a_pool = some ⟨oc27, od27, .func (PySem.W.fnOf "_law_pool" "_law_pool" (defArgs s_pool) (defBody s_pool) (defScope s_pool) .none kV27 dc27 pm27 an27 cd27 ct27), sl27⟩)
    (c27 : PySem.W.codeIn K cd27 "_law_pool" = true)
    (k27 : PySem.W.keepIn K (.ref a_pool) = true)
    (a28 : PySem.W.nsIn K mainGlobals "_law_take" = some (some (.ref a_take)))
    (l28 : K.lookup a_take = some ⟨oc28, od28, .func (PySem.W.fnOf "_law_take" "_law_take" (defArgs s_take) (defBody s_take) (defScope s_take) .none kV28 dc28 pm28 an28 cd28 ct28), sl28⟩)
    (c28 : PySem.W.codeIn K cd28 "_law_take" = true)
    (k28 : PySem.W.keepIn K (.ref a_take) = true)
    (a29 : PySem.W.nsIn K mainGlobals "_law_key" = some (some (.ref a_key)))
    (l29 : K.lookup a_key = some ⟨oc29, od29, .func (PySem.W.fnOf "_law_key" "_law_key" (defArgs s_key) (defBody s_key) (defScope s_key) .none kV29 dc29 pm29 an29 cd29 ct29), sl29⟩)
    (c29 : PySem.W.codeIn K cd29 "_law_key" = true)
    (k29 : PySem.W.keepIn K (.ref a_key) = true)
    (a30 : PySem.W.nsIn K mainGlobals "_law_number" = some (some (.ref a_number)))
    (l30 : K.lookup a_number = some ⟨oc30, od30, .func (PySem.W.fnOf "_law_number" "_law_number" (defArgs s_number) (defBody s_number) (defScope s_number) .none kV30 dc30 pm30 an30 cd30 ct30), sl30⟩)
    (c30 : PySem.W.codeIn K cd30 "_law_number" = true)
    (k30 : PySem.W.keepIn K (.ref a_number) = true)
    (a31 : PySem.W.nsIn K mainGlobals "_law_value" = some (some (.ref a_value)))
    (l31 : K.lookup a_value = some ⟨oc31, od31, .func (PySem.W.fnOf "_law_value" "_law_value" (defArgs s_value) (defBody s_value) (defScope s_value) .none kV31 dc31 pm31 an31 cd31 ct31), sl31⟩)
    (c31 : PySem.W.codeIn K cd31 "_law_value" = true)
    (k31 : PySem.W.keepIn K (.ref a_value) = true)
    (a32 : PySem.W.nsIn K mainGlobals "_law_drawn_base" = some (some (.ref a_drawn_base)))
    (l32 : K.lookup a_drawn_base = some ⟨oc32, od32, .func (PySem.W.fnOf "_law_drawn_base" "_law_drawn_base" (defArgs s_drawn_base) (defBody s_drawn_base) (defScope s_drawn_base) .none kV32 dc32 pm32 an32 cd32 ct32), sl32⟩)
    (c32 : PySem.W.codeIn K cd32 "_law_drawn_base" = true)
    (k32 : PySem.W.keepIn K (.ref a_drawn_base) = true)
    (a33 : PySem.W.nsIn K mainGlobals "_law_drawn_record" = some (some (.ref a_drawn_record)))
    (l33 : K.lookup a_drawn_record = some ⟨oc33, od33, .func (PySem.W.fnOf "_law_drawn_record" "_law_drawn_record" (defArgs s_drawn_record) (defBody s_drawn_record) (defScope s_drawn_record) .none kV33 dc33 pm33 an33 cd33 ct33), sl33⟩)
    (c33 : PySem.W.codeIn K cd33 "_law_drawn_record" = true)
    (k33 : PySem.W.keepIn K (.ref a_drawn_record) = true)
    (a34 : PySem.W.nsIn K mainGlobals "_law_look" = some (some (.ref a_look)))
    (l34 : K.lookup a_look = some ⟨oc34, od34, .func (PySem.W.fnOf "_law_look" "_law_look" (defArgs s_look) (defBody s_look) (defScope s_look) .none kV34 dc34 pm34 an34 cd34 ct34), sl34⟩)
    (c34 : PySem.W.codeIn K cd34 "_law_look" = true)
    (k34 : PySem.W.keepIn K (.ref a_look) = true)
    (a35 : PySem.W.nsIn K mainGlobals "_law_deed" = some (some (.ref a_deed)))
    (l35 : K.lookup a_deed = some ⟨oc35, od35, .func (PySem.W.fnOf "_law_deed" "_law_deed" (defArgs s_deed) (defBody s_deed) (defScope s_deed) .none kV35 dc35 pm35 an35 cd35 ct35), sl35⟩)
    (c35 : PySem.W.codeIn K cd35 "_law_deed" = true)
    (k35 : PySem.W.keepIn K (.ref a_deed) = true)
    (a36 : PySem.W.nsIn K mainGlobals "_law_is_full" = some (some (.ref a_is_full)))
    (l36 : K.lookup a_is_full = some ⟨oc36, od36, .func (PySem.W.fnOf "_law_is_full" "_law_is_full" (defArgs s_is_full) (defBody s_is_full) (defScope s_is_full) .none kV36 dc36 pm36 an36 cd36 ct36), sl36⟩)
    (c36 : PySem.W.codeIn K cd36 "_law_is_full" = true)
    (k36 : PySem.W.keepIn K (.ref a_is_full) = true)
    (a37 : PySem.W.nsIn K mainGlobals "law" = some (some (.ref a_law)))
    (l37 : K.lookup a_law = some ⟨oc37, od37, .func (PySem.W.fnOf "law" "law" (defArgs s_law) (defBody s_law) (defScope s_law) .none kV37 dc37 pm37 an37 cd37 ct37), sl37⟩)
    (c37 : PySem.W.codeIn K cd37 "law" = true)
    (k37 : PySem.W.keepIn K (.ref a_law) = true)
    (pg0 : PySem.W.plainGet K c_Store Str.empty = true)
    (hd0 : PySem.W.hasDictIn K c_Store = true)
    (po0 : PySem.W.plainOver K c_Store = true)
    (sa0 : PySem.W.findIn K (.ref c_Store) "__setattr__" = some (some (.builtin "object.__setattr__")))
    (mk0 : PySem.W.makesIn K c_Store = true)
    (kc0 : PySem.W.keepIn K (.ref c_Store) = true)
    (no0_own_most : PySem.W.findIn K (.ref c_Store) "own_most" = some none)
    (no0_own_rooms : PySem.W.findIn K (.ref c_Store) "own_rooms" = some none)
    (no0_own_heads : PySem.W.findIn K (.ref c_Store) "own_heads" = some none)
    (z_isinstance : PySem.W.nsIn K mainGlobals "isinstance" = some none)
    (z_int : PySem.W.nsIn K mainGlobals "int" = some none)
    (z_bool : PySem.W.nsIn K mainGlobals "bool" = some none)
    (z_tuple : PySem.W.nsIn K mainGlobals "tuple" = some none)
    (z_str : PySem.W.nsIn K mainGlobals "str" = some none)
    (z_len : PySem.W.nsIn K mainGlobals "len" = some none)
    (z_all : PySem.W.nsIn K mainGlobals "all" = some none)
    (z_zip : PySem.W.nsIn K mainGlobals "zip" = some none)
    (z_ValueError : PySem.W.nsIn K mainGlobals "ValueError" = some none)
    (z_IndexError : PySem.W.nsIn K mainGlobals "IndexError" = some none)
    (z_OverflowError : PySem.W.nsIn K mainGlobals "OverflowError" = some none)
    (z_sorted : PySem.W.nsIn K mainGlobals "sorted" = some none)
    (z_dict : PySem.W.nsIn K mainGlobals "dict" = some none)
    (z_range : PySem.W.nsIn K mainGlobals "range" = some none)
    (z_min : PySem.W.nsIn K mainGlobals "min" = some none)
    (z_max : PySem.W.nsIn K mainGlobals "max" = some none)
    (z_repr : PySem.W.nsIn K mainGlobals "repr" = some none)
    (kg_FORMS : PySem.W.nsIn K mainGlobals "FORMS" = some (some (.ref k_FORMS)))
    (kl_FORMS : K.lookup k_FORMS = some ⟨.type "dict", none, .dict es_FORMS nn_FORMS, #[]⟩)
    (km_FORMS : (k_FORMS == sysModules) = false)
    (kn_FORMS_0 : PySem.W.nsIn K k_FORMS "put" = some (some (.ref k_FORMS_0)))
    (kn_FORMS_1 : PySem.W.nsIn K k_FORMS "take" = some (some (.ref k_FORMS_1)))
    (kn_FORMS_2 : PySem.W.nsIn K k_FORMS "part" = some (some (.ref k_FORMS_2)))
    (kn_FORMS_3 : PySem.W.nsIn K k_FORMS "entry" = some (some (.ref k_FORMS_3)))
    (kn_FORMS_4 : PySem.W.nsIn K k_FORMS "less" = some (some (.ref k_FORMS_4)))
    (kn_FORMS_5 : PySem.W.nsIn K k_FORMS "gone" = some (some (.ref k_FORMS_5)))
    (kn_FORMS_6 : PySem.W.nsIn K k_FORMS "join" = some (some (.ref k_FORMS_6)))
    (kn_FORMS_7 : PySem.W.nsIn K k_FORMS "joining" = some (some (.ref k_FORMS_7)))
    (kn_FORMS_8 : PySem.W.nsIn K k_FORMS "lowering" = some (some (.ref k_FORMS_8)))
    (kn_FORMS_9 : PySem.W.nsIn K k_FORMS "moved" = some (some (.ref k_FORMS_9)))
    (kq_FORMS : Keyed w.params es_FORMS.toList [("put", .ref k_FORMS_0), ("take", .ref k_FORMS_1), ("part", .ref k_FORMS_2), ("entry", .ref k_FORMS_3), ("less", .ref k_FORMS_4), ("gone", .ref k_FORMS_5), ("join", .ref k_FORMS_6), ("joining", .ref k_FORMS_7), ("lowering", .ref k_FORMS_8), ("moved", .ref k_FORMS_9)])
    (kt_FORMS_0 : K.lookup k_FORMS_0 = some ⟨.type "tuple", dd_FORMS_0, .seq #[.ref a_is_key, .ref a_is_whole, .ref a_is_number] tn_FORMS_0, ts_FORMS_0⟩)
    (kt_FORMS_1 : K.lookup k_FORMS_1 = some ⟨.type "tuple", dd_FORMS_1, .seq #[.ref a_is_key, .ref a_is_number] tn_FORMS_1, ts_FORMS_1⟩)
    (kt_FORMS_2 : K.lookup k_FORMS_2 = some ⟨.type "tuple", dd_FORMS_2, .seq #[.ref a_is_key, .ref a_is_number, .ref a_is_number] tn_FORMS_2, ts_FORMS_2⟩)
    (kt_FORMS_3 : K.lookup k_FORMS_3 = some ⟨.type "tuple", dd_FORMS_3, .seq #[.ref a_is_key, .ref a_is_number, .ref a_is_number] tn_FORMS_3, ts_FORMS_3⟩)
    (kt_FORMS_4 : K.lookup k_FORMS_4 = some ⟨.type "tuple", dd_FORMS_4, .seq #[.ref a_is_key, .ref a_is_number] tn_FORMS_4, ts_FORMS_4⟩)
    (kt_FORMS_5 : K.lookup k_FORMS_5 = some ⟨.type "tuple", dd_FORMS_5, .seq #[.ref a_is_number, .ref a_is_number] tn_FORMS_5, ts_FORMS_5⟩)
    (kt_FORMS_6 : K.lookup k_FORMS_6 = some ⟨.type "tuple", dd_FORMS_6, .seq #[.ref a_is_key, .ref a_is_number, .ref a_is_number, .ref a_is_number] tn_FORMS_6, ts_FORMS_6⟩)
    (kt_FORMS_7 : K.lookup k_FORMS_7 = some ⟨.type "tuple", dd_FORMS_7, .seq #[.ref a_is_key, .ref a_is_number, .ref a_is_number, .ref a_is_number] tn_FORMS_7, ts_FORMS_7⟩)
    (kt_FORMS_8 : K.lookup k_FORMS_8 = some ⟨.type "tuple", dd_FORMS_8, .seq #[.ref a_is_number, .ref a_is_number] tn_FORMS_8, ts_FORMS_8⟩)
    (kt_FORMS_9 : K.lookup k_FORMS_9 = some ⟨.type "tuple", dd_FORMS_9, .seq #[.ref a_is_number] tn_FORMS_9, ts_FORMS_9⟩)
    (v_MOST_KEY : PySem.W.nsIn K mainGlobals "MOST_KEY" = some (some (.int 999999 tk_MOST_KEY)))
    (v_MOST_LEVEL : PySem.W.nsIn K mainGlobals "MOST_LEVEL" = some (some (.int 40 tk_MOST_LEVEL)))
    (v_MOST_ROWS : PySem.W.nsIn K mainGlobals "MOST_ROWS" = some (some (.int 400 tk_MOST_ROWS)))
    (v_MOST_ROOMS : PySem.W.nsIn K mainGlobals "MOST_ROOMS" = some (some (.int 9999 tk_MOST_ROOMS)))
    (v_ROOMS : PySem.W.nsIn K mainGlobals "ROOMS" = some (some (.int 4000 tk_ROOMS))) :
    ∃ fd : FuncData, (∀ (s : Shared) (v : Value), BindsTo s fd ⟨[v], []⟩ [("_law_script", v)]) ∧ ∀ base : Heap, K.In base → base.Ns mainGlobals mg → GD.FnOkG l.prog w K mg base 16 fa fd ["_law_script"] (spLaw K) := by
  have e := hfa.symm.trans (PySem.W.mg_of X G a37)
  cases e
  have F0 := fun_mk (st := s_NoSize_init) l0 c0 k0
  have F1 := fun_mk (st := s_NoRoom_init) l1 c1 k1
  have F2 := fun_mk (st := s_NoSlot_init) l2 c2 k2
  have F3 := fun_mk (st := s_Full_init) l3 c3 k3
  have F4 := fun_mk (st := s_is_whole) l4 c4 k4
  have F5 := fun_mk (st := s_is_key) l5 c5 k5
  have F6 := fun_mk (st := s_is_number) l6 c6 k6
  have F7 := fun_mk (st := s_are_rows) l7 c7 k7
  have F8 := fun_mk (st := s_are_bounds) l8 c8 k8
  have F9 := fun_mk (st := s_is_leaf) l9 c9 k9
  have F10 := fun_mk (st := s_is_bough) l10 c10 k10
  have F11 := fun_mk (st := s_is_record) l11 c11 k11
  have F12 := fun_mk (st := s_look_at_most) l12 c12 k12
  have F13 := fun_mk (st := s_least_free) l13 c13 k13
  have F14 := fun_mk (st := s_Store_init) l14 c14 k14
  have F15 := fun_mk (st := s_Store_look_at_room) l15 c15 k15
  have F16 := fun_mk (st := s_Store_look_at_slot) l16 c16 k16
  have F17 := fun_mk (st := s_Store_look_at_free) l17 c17 k17
  have F18 := fun_mk (st := s_Store_put_in) l18 c18 k18
  have F19 := fun_mk (st := s_Store_let_go) l19 c19 k19
  have F20 := fun_mk (st := s_Store_new_slot) l20 c20 k20
  have F21 := fun_mk (st := s_Store_drop) l21 c21 k21
  have F22 := fun_mk (st := s_Store_swap) l22 c22 k22
  have F23 := fun_mk (st := s_Store_rooms) l23 c23 k23
  have F24 := fun_mk (st := s_Store_heads) l24 c24 k24
  have F25 := fun_mk (st := s_Store_twin) l25 c25 k25
  have F26 := fun_mk (st := s_Store___len__) l26 c26 k26
  have F27 := fun_mk (st := s_pool) l27 c27 k27
  have F28 := fun_mk (st := s_take) l28 c28 k28
  have F29 := fun_mk (st := s_key) l29 c29 k29
  have F30 := fun_mk (st := s_number) l30 c30 k30
  have F31 := fun_mk (st := s_value) l31 c31 k31
  have F32 := fun_mk (st := s_drawn_base) l32 c32 k32
  have F33 := fun_mk (st := s_drawn_record) l33 c33 k33
  have F34 := fun_mk (st := s_look) l34 c34 k34
  have F35 := fun_mk (st := s_deed) l35 c35 k35
  have F36 := fun_mk (st := s_is_full) l36 c36 k36
  have F37 := fun_mk (st := s_law) l37 c37 k37
  have b0 := F0.binds (ps := ["self", "word"]) fun _ _ _ _ _ _ us hl => match us, hl with | [_, _], _ => rfl
  have b1 := F1.binds (ps := ["self", "room"]) fun _ _ _ _ _ _ us hl => match us, hl with | [_, _], _ => rfl
  have b2 := F2.binds (ps := ["self", "slot"]) fun _ _ _ _ _ _ us hl => match us, hl with | [_, _], _ => rfl
  have b3 := F3.binds (ps := ["self", "many"]) fun _ _ _ _ _ _ us hl => match us, hl with | [_, _], _ => rfl
  have b4 := F4.binds (ps := ["thing"]) fun _ _ _ _ _ _ us hl => match us, hl with | [_], _ => rfl
  have b5 := F5.binds (ps := ["thing"]) fun _ _ _ _ _ _ us hl => match us, hl with | [_], _ => rfl
  have b6 := F6.binds (ps := ["thing"]) fun _ _ _ _ _ _ us hl => match us, hl with | [_], _ => rfl
  have b7 := F7.binds (ps := ["thing", "low", "high"]) fun _ _ _ _ _ _ us hl => match us, hl with | [_, _, _], _ => rfl
  have b8 := F8.binds (ps := ["low", "high", "right"]) fun _ _ _ _ _ _ us hl => match us, hl with | [_, _, _], _ => rfl
  have b11 := F11.binds (ps := ["thing"]) fun _ _ _ _ _ _ us hl => match us, hl with | [_], _ => rfl
  have b12 := F12.binds (ps := ["most"]) fun _ _ _ _ _ _ us hl => match us, hl with | [_], _ => rfl
  have b13 := F13.binds (ps := ["taken"]) fun _ _ _ _ _ _ us hl => match us, hl with | [_], _ => rfl
  have b15 := F15.binds (ps := ["self", "room"]) fun _ _ _ _ _ _ us hl => match us, hl with | [_, _], _ => rfl
  have b16 := F16.binds (ps := ["self", "slot"]) fun _ _ _ _ _ _ us hl => match us, hl with | [_, _], _ => rfl
  have b17 := F17.binds (ps := ["self", "many"]) fun _ _ _ _ _ _ us hl => match us, hl with | [_, _], _ => rfl
  have b18 := F18.binds (ps := ["self", "record"]) fun _ _ _ _ _ _ us hl => match us, hl with | [_, _], _ => rfl
  have b19 := F19.binds (ps := ["self", "room"]) fun _ _ _ _ _ _ us hl => match us, hl with | [_, _], _ => rfl
  have b20 := F20.binds (ps := ["self", "head"]) fun _ _ _ _ _ _ us hl => match us, hl with | [_, _], _ => rfl
  have b21 := F21.binds (ps := ["self", "slot"]) fun _ _ _ _ _ _ us hl => match us, hl with | [_, _], _ => rfl
  have b22 := F22.binds (ps := ["self", "slot", "old", "new"]) fun _ _ _ _ _ _ us hl => match us, hl with | [_, _, _, _], _ => rfl
  have b23 := F23.binds (ps := ["self"]) fun _ _ _ _ _ _ us hl => match us, hl with | [_], _ => rfl
  have b24 := F24.binds (ps := ["self"]) fun _ _ _ _ _ _ us hl => match us, hl with | [_], _ => rfl
  have b25 := F25.binds (ps := ["self"]) fun _ _ _ _ _ _ us hl => match us, hl with | [_], _ => rfl
  have b26 := F26.binds (ps := ["self"]) fun _ _ _ _ _ _ us hl => match us, hl with | [_], _ => rfl
  have b27 := F27.binds (ps := ["_law_script", "_law_k"]) fun _ _ _ _ _ _ us hl => match us, hl with | [_, _], _ => rfl
  have b28 := F28.binds (ps := ["_law_pool_here", "_law_many"]) fun _ _ _ _ _ _ us hl => match us, hl with | [_, _], _ => rfl
  have b29 := F29.binds (ps := ["_law_pool_here"]) fun _ _ _ _ _ _ us hl => match us, hl with | [_], _ => rfl
  have b30 := F30.binds (ps := ["_law_pool_here"]) fun _ _ _ _ _ _ us hl => match us, hl with | [_], _ => rfl
  have b31 := F31.binds (ps := ["_law_pool_here"]) fun _ _ _ _ _ _ us hl => match us, hl with | [_], _ => rfl
  have b32 := F32.binds (ps := ["_law_pool_here", "_law_word"]) fun _ _ _ _ _ _ us hl => match us, hl with | [_, _], _ => rfl
  have b33 := F33.binds (ps := ["_law_pool_here"]) fun _ _ _ _ _ _ us hl => match us, hl with | [_], _ => rfl
  have b34 := F34.binds (ps := ["_law_store"]) fun _ _ _ _ _ _ us hl => match us, hl with | [_], _ => rfl
  have b35 := F35.binds (ps := ["_law_pool_here", "_law_store", "_law_own"]) fun _ _ _ _ _ _ us hl => match us, hl with | [_, _, _], _ => rfl
  have b36 := F36.binds (ps := ["_law_store"]) fun _ _ _ _ _ _ us hl => match us, hl with | [_], _ => rfl
  have b37 := F37.binds (ps := ["_law_script"]) fun _ _ _ _ _ _ us hl => match us, hl with | [_], _ => rfl
  let A : Adr := { a_NoSize_init := a_NoSize_init, a_NoRoom_init := a_NoRoom_init, a_NoSlot_init := a_NoSlot_init, a_Full_init := a_Full_init, a_is_whole := a_is_whole, a_is_key := a_is_key, a_is_number := a_is_number, a_are_rows := a_are_rows, a_are_bounds := a_are_bounds, a_is_leaf := a_is_leaf, a_is_bough := a_is_bough, a_is_record := a_is_record, a_look_at_most := a_look_at_most, a_least_free := a_least_free, a_Store_init := a_Store_init, a_Store_look_at_room := a_Store_look_at_room, a_Store_look_at_slot := a_Store_look_at_slot, a_Store_look_at_free := a_Store_look_at_free, a_Store_put_in := a_Store_put_in, a_Store_let_go := a_Store_let_go, a_Store_new_slot := a_Store_new_slot, a_Store_drop := a_Store_drop, a_Store_swap := a_Store_swap, a_Store_rooms := a_Store_rooms, a_Store_heads := a_Store_heads, a_Store_twin := a_Store_twin, a_Store___len__ := a_Store___len__, a_pool := a_pool, a_take := a_take, a_key := a_key, a_number := a_number, a_value := a_value, a_drawn_base := a_drawn_base, a_drawn_record := a_drawn_record, a_look := a_look, a_deed := a_deed, a_is_full := a_is_full, a_law := fa, d_NoSize_init := PySem.W.fnOf "__init__" "NoSize.__init__" (defArgs s_NoSize_init) (defBody s_NoSize_init) (defScope s_NoSize_init) .none kV0 dc0 pm0 an0 cd0 ct0, d_NoRoom_init := PySem.W.fnOf "__init__" "NoRoom.__init__" (defArgs s_NoRoom_init) (defBody s_NoRoom_init) (defScope s_NoRoom_init) .none kV1 dc1 pm1 an1 cd1 ct1, d_NoSlot_init := PySem.W.fnOf "__init__" "NoSlot.__init__" (defArgs s_NoSlot_init) (defBody s_NoSlot_init) (defScope s_NoSlot_init) .none kV2 dc2 pm2 an2 cd2 ct2, d_Full_init := PySem.W.fnOf "__init__" "Full.__init__" (defArgs s_Full_init) (defBody s_Full_init) (defScope s_Full_init) .none kV3 dc3 pm3 an3 cd3 ct3, d_is_whole := PySem.W.fnOf "is_whole" "is_whole" (defArgs s_is_whole) (defBody s_is_whole) (defScope s_is_whole) .none kV4 dc4 pm4 an4 cd4 ct4, d_is_key := PySem.W.fnOf "is_key" "is_key" (defArgs s_is_key) (defBody s_is_key) (defScope s_is_key) .none kV5 dc5 pm5 an5 cd5 ct5, d_is_number := PySem.W.fnOf "is_number" "is_number" (defArgs s_is_number) (defBody s_is_number) (defScope s_is_number) .none kV6 dc6 pm6 an6 cd6 ct6, d_are_rows := PySem.W.fnOf "are_rows" "are_rows" (defArgs s_are_rows) (defBody s_are_rows) (defScope s_are_rows) .none kV7 dc7 pm7 an7 cd7 ct7, d_are_bounds := PySem.W.fnOf "are_bounds" "are_bounds" (defArgs s_are_bounds) (defBody s_are_bounds) (defScope s_are_bounds) .none kV8 dc8 pm8 an8 cd8 ct8, d_is_leaf := PySem.W.fnOf "is_leaf" "is_leaf" (defArgs s_is_leaf) (defBody s_is_leaf) (defScope s_is_leaf) .none kV9 dc9 pm9 an9 cd9 ct9, d_is_bough := PySem.W.fnOf "is_bough" "is_bough" (defArgs s_is_bough) (defBody s_is_bough) (defScope s_is_bough) .none kV10 dc10 pm10 an10 cd10 ct10, d_is_record := PySem.W.fnOf "is_record" "is_record" (defArgs s_is_record) (defBody s_is_record) (defScope s_is_record) .none kV11 dc11 pm11 an11 cd11 ct11, d_look_at_most := PySem.W.fnOf "look_at_most" "look_at_most" (defArgs s_look_at_most) (defBody s_look_at_most) (defScope s_look_at_most) .none kV12 dc12 pm12 an12 cd12 ct12, d_least_free := PySem.W.fnOf "least_free" "least_free" (defArgs s_least_free) (defBody s_least_free) (defScope s_least_free) .none kV13 dc13 pm13 an13 cd13 ct13, d_Store_init := PySem.W.fnOf "__init__" "Store.__init__" (defArgs s_Store_init) (defBody s_Store_init) (defScope s_Store_init) .none (.ref kvA_Store_init) dc14 pm14 an14 cd14 ct14, d_Store_look_at_room := PySem.W.fnOf "look_at_room" "Store.look_at_room" (defArgs s_Store_look_at_room) (defBody s_Store_look_at_room) (defScope s_Store_look_at_room) .none kV15 dc15 pm15 an15 cd15 ct15, d_Store_look_at_slot := PySem.W.fnOf "look_at_slot" "Store.look_at_slot" (defArgs s_Store_look_at_slot) (defBody s_Store_look_at_slot) (defScope s_Store_look_at_slot) .none kV16 dc16 pm16 an16 cd16 ct16, d_Store_look_at_free := PySem.W.fnOf "look_at_free" "Store.look_at_free" (defArgs s_Store_look_at_free) (defBody s_Store_look_at_free) (defScope s_Store_look_at_free) .none kV17 dc17 pm17 an17 cd17 ct17, d_Store_put_in := PySem.W.fnOf "put_in" "Store.put_in" (defArgs s_Store_put_in) (defBody s_Store_put_in) (defScope s_Store_put_in) .none kV18 dc18 pm18 an18 cd18 ct18, d_Store_let_go := PySem.W.fnOf "let_go" "Store.let_go" (defArgs s_Store_let_go) (defBody s_Store_let_go) (defScope s_Store_let_go) .none kV19 dc19 pm19 an19 cd19 ct19, d_Store_new_slot := PySem.W.fnOf "new_slot" "Store.new_slot" (defArgs s_Store_new_slot) (defBody s_Store_new_slot) (defScope s_Store_new_slot) .none kV20 dc20 pm20 an20 cd20 ct20, d_Store_drop := PySem.W.fnOf "drop" "Store.drop" (defArgs s_Store_drop) (defBody s_Store_drop) (defScope s_Store_drop) .none kV21 dc21 pm21 an21 cd21 ct21, d_Store_swap := PySem.W.fnOf "swap" "Store.swap" (defArgs s_Store_swap) (defBody s_Store_swap) (defScope s_Store_swap) .none kV22 dc22 pm22 an22 cd22 ct22, d_Store_rooms := PySem.W.fnOf "rooms" "Store.rooms" (defArgs s_Store_rooms) (defBody s_Store_rooms) (defScope s_Store_rooms) .none kV23 dc23 pm23 an23 cd23 ct23, d_Store_heads := PySem.W.fnOf "heads" "Store.heads" (defArgs s_Store_heads) (defBody s_Store_heads) (defScope s_Store_heads) .none kV24 dc24 pm24 an24 cd24 ct24, d_Store_twin := PySem.W.fnOf "twin" "Store.twin" (defArgs s_Store_twin) (defBody s_Store_twin) (defScope s_Store_twin) .none kV25 dc25 pm25 an25 cd25 ct25, d_Store___len__ := PySem.W.fnOf "__len__" "Store.__len__" (defArgs s_Store___len__) (defBody s_Store___len__) (defScope s_Store___len__) .none kV26 dc26 pm26 an26 cd26 ct26, d_pool := PySem.W.fnOf "_law_pool" "_law_pool" (defArgs s_pool) (defBody s_pool) (defScope s_pool) .none kV27 dc27 pm27 an27 cd27 ct27, d_take := PySem.W.fnOf "_law_take" "_law_take" (defArgs s_take) (defBody s_take) (defScope s_take) .none kV28 dc28 pm28 an28 cd28 ct28, d_key := PySem.W.fnOf "_law_key" "_law_key" (defArgs s_key) (defBody s_key) (defScope s_key) .none kV29 dc29 pm29 an29 cd29 ct29, d_number := PySem.W.fnOf "_law_number" "_law_number" (defArgs s_number) (defBody s_number) (defScope s_number) .none kV30 dc30 pm30 an30 cd30 ct30, d_value := PySem.W.fnOf "_law_value" "_law_value" (defArgs s_value) (defBody s_value) (defScope s_value) .none kV31 dc31 pm31 an31 cd31 ct31, d_drawn_base := PySem.W.fnOf "_law_drawn_base" "_law_drawn_base" (defArgs s_drawn_base) (defBody s_drawn_base) (defScope s_drawn_base) .none kV32 dc32 pm32 an32 cd32 ct32, d_drawn_record := PySem.W.fnOf "_law_drawn_record" "_law_drawn_record" (defArgs s_drawn_record) (defBody s_drawn_record) (defScope s_drawn_record) .none kV33 dc33 pm33 an33 cd33 ct33, d_look := PySem.W.fnOf "_law_look" "_law_look" (defArgs s_look) (defBody s_look) (defScope s_look) .none kV34 dc34 pm34 an34 cd34 ct34, d_deed := PySem.W.fnOf "_law_deed" "_law_deed" (defArgs s_deed) (defBody s_deed) (defScope s_deed) .none kV35 dc35 pm35 an35 cd35 ct35, d_is_full := PySem.W.fnOf "_law_is_full" "_law_is_full" (defArgs s_is_full) (defBody s_is_full) (defScope s_is_full) .none kV36 dc36 pm36 an36 cd36 ct36, d_law := PySem.W.fnOf "law" "law" (defArgs s_law) (defBody s_law) (defScope s_law) .none kV37 dc37 pm37 an37 cd37 ct37, c_Store := c_Store, c_NoSize := c_NoSize, c_NoRoom := c_NoRoom, c_Full := c_Full, c_NoSlot := c_NoSlot, c_NoRecord := c_NoRecord, k_FORMS := k_FORMS, k_FORMS_0 := k_FORMS_0, k_FORMS_1 := k_FORMS_1, k_FORMS_2 := k_FORMS_2, k_FORMS_3 := k_FORMS_3, k_FORMS_4 := k_FORMS_4, k_FORMS_5 := k_FORMS_5, k_FORMS_6 := k_FORMS_6, k_FORMS_7 := k_FORMS_7, k_FORMS_8 := k_FORMS_8, k_FORMS_9 := k_FORMS_9 }
  have T : Txt w K mg A := { F_NoSize_init := F0, b_NoSize_init := b0, ic_NoSize := a0, ti_NoSize := i0, F_NoRoom_init := F1, b_NoRoom_init := b1, ic_NoRoom := a1, ti_NoRoom := i1, F_NoSlot_init := F2, b_NoSlot_init := b2, ic_NoSlot := a2, ti_NoSlot := i2, F_Full_init := F3, b_Full_init := b3, ic_Full := a3, ti_Full := i3, F_is_whole := F4, b_is_whole := b4, m_is_whole := PySem.W.mg_of X G a4, F_is_key := F5, b_is_key := b5, m_is_key := PySem.W.mg_of X G a5, F_is_number := F6, b_is_number := b6, m_is_number := PySem.W.mg_of X G a6, F_are_rows := F7, b_are_rows := b7, m_are_rows := PySem.W.mg_of X G a7, F_are_bounds := F8, b_are_bounds := b8, m_are_bounds := PySem.W.mg_of X G a8, F_is_leaf := F9, m_is_leaf := PySem.W.mg_of X G a9, F_is_bough := F10, m_is_bough := PySem.W.mg_of X G a10, F_is_record := F11, b_is_record := b11, m_is_record := PySem.W.mg_of X G a11, F_look_at_most := F12, b_look_at_most := b12, m_look_at_most := PySem.W.mg_of X G a12, F_least_free := F13, b_least_free := b13, m_least_free := PySem.W.mg_of X G a13, F_Store_init := F14, mk_Store := ⟨mk0, a14, i14, kc0⟩, bd_Store_init := ⟨_, bd_kw (n := 1) kvn_Store_init (by decide) (fun us hl => match us, hl with | [_], _ => ⟨_, _, _, _, _, _, rfl, rfl, rfl⟩), ⟨_, rfl⟩⟩, F_Store_look_at_room := F15, b_Store_look_at_room := b15, me_Store_look_at_room := ⟨a15, i15, k15⟩, F_Store_look_at_slot := F16, b_Store_look_at_slot := b16, me_Store_look_at_slot := ⟨a16, i16, k16⟩, F_Store_look_at_free := F17, b_Store_look_at_free := b17, me_Store_look_at_free := ⟨a17, i17, k17⟩, F_Store_put_in := F18, b_Store_put_in := b18, me_Store_put_in := ⟨a18, i18, k18⟩, F_Store_let_go := F19, b_Store_let_go := b19, me_Store_let_go := ⟨a19, i19, k19⟩, F_Store_new_slot := F20, b_Store_new_slot := b20, me_Store_new_slot := ⟨a20, i20, k20⟩, F_Store_drop := F21, b_Store_drop := b21, me_Store_drop := ⟨a21, i21, k21⟩, F_Store_swap := F22, b_Store_swap := b22, me_Store_swap := ⟨a22, i22, k22⟩, F_Store_rooms := F23, b_Store_rooms := b23, me_Store_rooms := ⟨a23, i23, k23⟩, F_Store_heads := F24, b_Store_heads := b24, me_Store_heads := ⟨a24, i24, k24⟩, F_Store_twin := F25, b_Store_twin := b25, me_Store_twin := ⟨a25, i25, k25⟩, F_Store___len__ := F26, b_Store___len__ := b26, me_Store___len__ := ⟨a26, i26, k26⟩, F_pool := F27, b_pool := b27, m_pool := PySem.W.mg_of X G a27, F_take := F28, b_take := b28, m_take := PySem.W.mg_of X G a28, F_key := F29, b_key := b29, m_key := PySem.W.mg_of X G a29, F_number := F30, b_number := b30, m_number := PySem.W.mg_of X G a30, F_value := F31, b_value := b31, m_value := PySem.W.mg_of X G a31, F_drawn_base := F32, b_drawn_base := b32, m_drawn_base := PySem.W.mg_of X G a32, F_drawn_record := F33, b_drawn_record := b33, m_drawn_record := PySem.W.mg_of X G a33, F_look := F34, b_look := b34, m_look := PySem.W.mg_of X G a34, F_deed := F35, b_deed := b35, m_deed := PySem.W.mg_of X G a35, F_is_full := F36, b_is_full := b36, m_is_full := PySem.W.mg_of X G a36, F_law := F37, b_law := b37, m_law := PySem.W.mg_of X G a37, mg_NoSize := PySem.W.mg_of X G gE_NoSize, te_NoSize := exm_self bE_NoSize iE_NoSize yE_NoSize uE_NoSize, ow_NoSize := ⟨ER.bV, ⟨nm_NoSize, qq_NoSize, NN_NoSize, bs_NoSize, sn_NoSize, sub_NoSize, ab_NoSize, col_NoSize, dd_NoSize, m0_NoSize, m1_NoSize, m2_NoSize, m3_NoSize, m5_NoSize, xE_NoSize⟩, sE_NoSize, rE_NoSize, tE_NoSize, bE_NoSize, yE_NoSize, kE_NoSize, dE_NoSize⟩, no_NoSize_word := nE_NoSize_word, mg_NoRoom := PySem.W.mg_of X G gE_NoRoom, te_NoRoom := exm_self bE_NoRoom iE_NoRoom yE_NoRoom uE_NoRoom, ow_NoRoom := ⟨ER.bI, ⟨nm_NoRoom, qq_NoRoom, NN_NoRoom, bs_NoRoom, sn_NoRoom, sub_NoRoom, ab_NoRoom, col_NoRoom, dd_NoRoom, m0_NoRoom, m1_NoRoom, m2_NoRoom, m3_NoRoom, m5_NoRoom, xE_NoRoom⟩, sE_NoRoom, rE_NoRoom, tE_NoRoom, bE_NoRoom, yE_NoRoom, kE_NoRoom, dE_NoRoom⟩, no_NoRoom_room := nE_NoRoom_room, mg_Full := PySem.W.mg_of X G gE_Full, te_Full := exm_self bE_Full iE_Full yE_Full uE_Full, ow_Full := ⟨ER.bO, ⟨nm_Full, qq_Full, NN_Full, bs_Full, sn_Full, sub_Full, ab_Full, col_Full, dd_Full, m0_Full, m1_Full, m2_Full, m3_Full, m5_Full, xE_Full⟩, sE_Full, rE_Full, tE_Full, bE_Full, yE_Full, kE_Full, dE_Full⟩, no_Full_many := nE_Full_many, mg_NoSlot := PySem.W.mg_of X G gE_NoSlot, te_NoSlot := exm_self bE_NoSlot iE_NoSlot yE_NoSlot uE_NoSlot, ow_NoSlot := ⟨ER.bI, ⟨nm_NoSlot, qq_NoSlot, NN_NoSlot, bs_NoSlot, sn_NoSlot, sub_NoSlot, ab_NoSlot, col_NoSlot, dd_NoSlot, m0_NoSlot, m1_NoSlot, m2_NoSlot, m3_NoSlot, m5_NoSlot, xE_NoSlot⟩, sE_NoSlot, rE_NoSlot, tE_NoSlot, bE_NoSlot, yE_NoSlot, kE_NoSlot, dE_NoSlot⟩, no_NoSlot_slot := nE_NoSlot_slot, mg_NoRecord := PySem.W.mg_of X G gE_NoRecord, te_NoRecord := exm_self bE_NoRecord iE_NoRecord yE_NoRecord uE_NoRecord, ex_NoRecord := qE_NoRecord, kc_NoRecord := kE_NoRecord, sb_NoRecord := bE_NoRecord, ty_NoRecord := yE_NoRecord, cl_Store := ⟨pg0, hd0, po0, sa0⟩, mg_Store := PySem.W.mg_of X G aC0, no_Store_own_most := no0_own_most, no_Store_own_rooms := no0_own_rooms, no_Store_own_heads := no0_own_heads, n_isinstance := PySem.W.mg_none_of X G z_isinstance, n_int := PySem.W.mg_none_of X G z_int, n_bool := PySem.W.mg_none_of X G z_bool, n_tuple := PySem.W.mg_none_of X G z_tuple, n_str := PySem.W.mg_none_of X G z_str, n_len := PySem.W.mg_none_of X G z_len, n_all := PySem.W.mg_none_of X G z_all, n_zip := PySem.W.mg_none_of X G z_zip, n_ValueError := PySem.W.mg_none_of X G z_ValueError, n_IndexError := PySem.W.mg_none_of X G z_IndexError, n_OverflowError := PySem.W.mg_none_of X G z_OverflowError, n_sorted := PySem.W.mg_none_of X G z_sorted, n_dict := PySem.W.mg_none_of X G z_dict, n_range := PySem.W.mg_none_of X G z_range, n_min := PySem.W.mg_none_of X G z_min, n_max := PySem.W.mg_none_of X G z_max, n_repr := PySem.W.mg_none_of X G z_repr, mk_FORMS := PySem.W.mg_of X G kg_FORMS, kd_FORMS := ⟨⟨_, _, kl_FORMS, kq_FORMS, km_FORMS⟩⟩, kt_FORMS_0 := kt_sq kt_FORMS_0 (by rw [sizeLine_eq]; show 3 ≤ 16777216; decide) (.cons rfl (.cons rfl (.cons rfl .nil))), kt_FORMS_1 := kt_sq kt_FORMS_1 (by rw [sizeLine_eq]; show 2 ≤ 16777216; decide) (.cons rfl (.cons rfl .nil)), kt_FORMS_2 := kt_sq kt_FORMS_2 (by rw [sizeLine_eq]; show 3 ≤ 16777216; decide) (.cons rfl (.cons rfl (.cons rfl .nil))), kt_FORMS_3 := kt_sq kt_FORMS_3 (by rw [sizeLine_eq]; show 3 ≤ 16777216; decide) (.cons rfl (.cons rfl (.cons rfl .nil))), kt_FORMS_4 := kt_sq kt_FORMS_4 (by rw [sizeLine_eq]; show 2 ≤ 16777216; decide) (.cons rfl (.cons rfl .nil)), kt_FORMS_5 := kt_sq kt_FORMS_5 (by rw [sizeLine_eq]; show 2 ≤ 16777216; decide) (.cons rfl (.cons rfl .nil)), kt_FORMS_6 := kt_sq kt_FORMS_6 (by rw [sizeLine_eq]; show 4 ≤ 16777216; decide) (.cons rfl (.cons rfl (.cons rfl (.cons rfl .nil)))), kt_FORMS_7 := kt_sq kt_FORMS_7 (by rw [sizeLine_eq]; show 4 ≤ 16777216; decide) (.cons rfl (.cons rfl (.cons rfl (.cons rfl .nil)))), kt_FORMS_8 := kt_sq kt_FORMS_8 (by rw [sizeLine_eq]; show 2 ≤ 16777216; decide) (.cons rfl (.cons rfl .nil)), kt_FORMS_9 := kt_sq kt_FORMS_9 (by rw [sizeLine_eq]; show 1 ≤ 16777216; decide) (.cons rfl .nil), v_MOST_KEY := ⟨_, PySem.W.mg_of X G v_MOST_KEY⟩, v_MOST_LEVEL := ⟨_, PySem.W.mg_of X G v_MOST_LEVEL⟩, v_MOST_ROWS := ⟨_, PySem.W.mg_of X G v_MOST_ROWS⟩, v_MOST_ROOMS := ⟨_, PySem.W.mg_of X G v_MOST_ROOMS⟩, v_ROOMS := ⟨_, PySem.W.mg_of X G v_ROOMS⟩ }
  exact ⟨A.d_law, fun s v => .of_eq rfl, fun base _ _ => ok_law T⟩
theorem walk {l : PySem.W.OpenLaw} {q : Program} {loose : List Str} {XP : (Str → Option Value) → Heap → Prop} {YP : World → Heap → Prop} {d : DefRec} {K : Params → PySem.W.Frag} (hn : l.most = some 63) (hdf : d.params.defaults = [])
    (hY : ∀ (w : World) (h : Heap), YP w h → (K w.params).In h)
    (F : ∀ (w : World) (mg : Str → Option Value) (fa : Addr) (h : Heap), (K w.params).In h → h.Ns mainGlobals mg → mg d.name = some (.ref fa) →
      ∃ fd : FuncData, (∀ (s : Shared) (u : Value), BindsTo s fd ⟨[u], []⟩ [("_law_script", u)]) ∧ ∀ base : Heap, (K w.params).In base → base.Ns mainGlobals mg → GD.FnOkG l.prog w (K w.params) mg base 16 fa fd ["_law_script"] (spLaw (K w.params))) :
    PySem.W.WalkO q loose XP YP l.row.toRowW d [] (fun f vs => PySem.call f vs) :=
  GD.walk_ofG (n := 63) (k := 16) (x := "_law_script") (sp := fun w => spLaw (K w.params)) hn (by decide) hdf ⟨rfl, by decide, by decide⟩ hY F (fun _ _ a ns hl _ hS => ⟨a, ns, rfl, hS, hl, fun _ => rfl⟩)
end LawK08
open PySem PySem.W PyProof.Rows in
set_option maxRecDepth 100000 in
set_option maxHeartbeats 0 in
theorem PySem.Challenge.cw_deltaboughs_k08_whole_stores_apart_holds : PySem.Challenge.rw_deltaboughs_k08_whole_stores_apart.Holds := by
  w_on; o_law; k_head; (case hw => w_witness2)
  k_fill
  refine LawK08.walk (l := PySem.Challenge.rw_deltaboughs_k08_whole_stores_apart) rfl rfl (fun w h Y => PySem.W.kIn_of Y) ?F
  case F =>
    intro w mg fa h KX G hmg
    refine' LawK08.all_mk KX G hmg ?aC0 ?gE_NoSize ?xE_NoSize ?sE_NoSize ?rE_NoSize ?tE_NoSize ?dE_NoSize ?nE_NoSize_word ?bE_NoSize ?yE_NoSize ?kE_NoSize ?iE_NoSize ?uE_NoSize ?gE_NoRoom ?xE_NoRoom ?sE_NoRoom ?rE_NoRoom ?tE_NoRoom ?dE_NoRoom ?nE_NoRoom_room ?bE_NoRoom ?yE_NoRoom ?kE_NoRoom ?iE_NoRoom ?uE_NoRoom ?gE_Full ?xE_Full ?sE_Full ?rE_Full ?tE_Full ?dE_Full ?nE_Full_many ?bE_Full ?yE_Full ?kE_Full ?iE_Full ?uE_Full ?gE_NoSlot ?xE_NoSlot ?sE_NoSlot ?rE_NoSlot ?tE_NoSlot ?dE_NoSlot ?nE_NoSlot_slot ?bE_NoSlot ?yE_NoSlot ?kE_NoSlot ?iE_NoSlot ?uE_NoSlot ?gE_NoRecord ?qE_NoRecord ?bE_NoRecord ?yE_NoRecord ?kE_NoRecord ?iE_NoRecord ?uE_NoRecord ?a0 ?i0 ?l0 ?c0 ?k0 ?a1 ?i1 ?l1 ?c1 ?k1 ?a2 ?i2 ?l2 ?c2 ?k2 ?a3 ?i3 ?l3 ?c3 ?k3 ?a4 ?l4 ?c4 ?k4 ?a5 ?l5 ?c5 ?k5 ?a6 ?l6 ?c6 ?k6 ?a7 ?l7 ?c7 ?k7 ?a8 ?l8 ?c8 ?k8 ?a9 ?l9 ?c9 ?k9 ?a10 ?l10 ?c10 ?k10 ?a11 ?l11 ?c11 ?k11 ?a12 ?l12 ?c12 ?k12 ?a13 ?l13 ?c13 ?k13 ?a14 ?i14 ?l14 ?kvn_Store_init ?c14 ?k14 ?a15 ?i15 ?l15 ?c15 ?k15 ?a16 ?i16 ?l16 ?c16 ?k16 ?a17 ?i17 ?l17 ?c17 ?k17 ?a18 ?i18 ?l18 ?c18 ?k18 ?a19 ?i19 ?l19 ?c19 ?k19 ?a20 ?i20 ?l20 ?c20 ?k20 ?a21 ?i21 ?l21 ?c21 ?k21 ?a22 ?i22 ?l22 ?c22 ?k22 ?a23 ?i23 ?l23 ?c23 ?k23 ?a24 ?i24 ?l24 ?c24 ?k24 ?a25 ?i25 ?l25 ?c25 ?k25 ?a26 ?i26 ?l26 ?c26 ?k26 ?a27 ?l27 ?c27 ?k27 ?a28 ?l28 ?c28 ?k28 ?a29 ?l29 ?c29 ?k29 ?a30 ?l30 ?c30 ?k30 ?a31 ?l31 ?c31 ?k31 ?a32 ?l32 ?c32 ?k32 ?a33 ?l33 ?c33 ?k33 ?a34 ?l34 ?c34 ?k34 ?a35 ?l35 ?c35 ?k35 ?a36 ?l36 ?c36 ?k36 ?a37 ?l37 ?c37 ?k37 ?pg0 ?hd0 ?po0 ?sa0 ?mk0 ?kc0 ?no0_own_most ?no0_own_rooms ?no0_own_heads ?z_isinstance ?z_int ?z_bool ?z_tuple ?z_str ?z_len ?z_all ?z_zip ?z_ValueError ?z_IndexError ?z_OverflowError ?z_sorted ?z_dict ?z_range ?z_min ?z_max ?z_repr ?kg_FORMS ?kl_FORMS ?km_FORMS ?kn_FORMS_0 ?kn_FORMS_1 ?kn_FORMS_2 ?kn_FORMS_3 ?kn_FORMS_4 ?kn_FORMS_5 ?kn_FORMS_6 ?kn_FORMS_7 ?kn_FORMS_8 ?kn_FORMS_9 ?kq_FORMS ?kt_FORMS_0 ?kt_FORMS_1 ?kt_FORMS_2 ?kt_FORMS_3 ?kt_FORMS_4 ?kt_FORMS_5 ?kt_FORMS_6 ?kt_FORMS_7 ?kt_FORMS_8 ?kt_FORMS_9 ?v_MOST_KEY ?v_MOST_LEVEL ?v_MOST_ROWS ?v_MOST_ROOMS ?v_ROOMS
    (case aC0 => k_is)
    (case gE_NoSize => k_is)
    (case xE_NoSize => k_is)
    (case sE_NoSize => k_is)
    (case rE_NoSize => k_is)
    (case tE_NoSize => k_is)
    (case dE_NoSize => k_is)
    (case nE_NoSize_word => k_is)
    (case bE_NoSize => k_is)
    (case yE_NoSize => k_is)
    (case kE_NoSize => k_is)
    (case iE_NoSize => k_is)
    (case uE_NoSize => first | rfl | k_is)
    (case gE_NoRoom => k_is)
    (case xE_NoRoom => k_is)
    (case sE_NoRoom => k_is)
    (case rE_NoRoom => k_is)
    (case tE_NoRoom => k_is)
    (case dE_NoRoom => k_is)
    (case nE_NoRoom_room => k_is)
    (case bE_NoRoom => k_is)
    (case yE_NoRoom => k_is)
    (case kE_NoRoom => k_is)
    (case iE_NoRoom => k_is)
    (case uE_NoRoom => first | rfl | k_is)
    (case gE_Full => k_is)
    (case xE_Full => k_is)
    (case sE_Full => k_is)
    (case rE_Full => k_is)
    (case tE_Full => k_is)
    (case dE_Full => k_is)
    (case nE_Full_many => k_is)
    (case bE_Full => k_is)
    (case yE_Full => k_is)
    (case kE_Full => k_is)
    (case iE_Full => k_is)
    (case uE_Full => first | rfl | k_is)
    (case gE_NoSlot => k_is)
    (case xE_NoSlot => k_is)
    (case sE_NoSlot => k_is)
    (case rE_NoSlot => k_is)
    (case tE_NoSlot => k_is)
    (case dE_NoSlot => k_is)
    (case nE_NoSlot_slot => k_is)
    (case bE_NoSlot => k_is)
    (case yE_NoSlot => k_is)
    (case kE_NoSlot => k_is)
    (case iE_NoSlot => k_is)
    (case uE_NoSlot => first | rfl | k_is)
    (case gE_NoRecord => k_is)
    (case qE_NoRecord => k_exc)
    (case bE_NoRecord => k_is)
    (case yE_NoRecord => k_is)
    (case kE_NoRecord => k_is)
    (case iE_NoRecord => k_is)
    (case uE_NoRecord => first | rfl | k_is)
    (case a0 => k_is)
    (case i0 => k_is)
    (case l0 => k_is)
    (case c0 => k_is)
    (case k0 => k_is)
    (case a1 => k_is)
    (case i1 => k_is)
    (case l1 => k_is)
    (case c1 => k_is)
    (case k1 => k_is)
    (case a2 => k_is)
    (case i2 => k_is)
    (case l2 => k_is)
    (case c2 => k_is)
    (case k2 => k_is)
    (case a3 => k_is)
    (case i3 => k_is)
    (case l3 => k_is)
    (case c3 => k_is)
    (case k3 => k_is)
    (case a4 => k_is)
    (case l4 => k_is)
    (case c4 => k_is)
    (case k4 => k_is)
    (case a5 => k_is)
    (case l5 => k_is)
    (case c5 => k_is)
    (case k5 => k_is)
    (case a6 => k_is)
    (case l6 => k_is)
    (case c6 => k_is)
    (case k6 => k_is)
    (case a7 => k_is)
    (case l7 => k_is)
    (case c7 => k_is)
    (case k7 => k_is)
    (case a8 => k_is)
    (case l8 => k_is)
    (case c8 => k_is)
    (case k8 => k_is)
    (case a9 => k_is)
    (case l9 => k_is)
    (case c9 => k_is)
    (case k9 => k_is)
    (case a10 => k_is)
    (case l10 => k_is)
    (case c10 => k_is)
    (case k10 => k_is)
    (case a11 => k_is)
    (case l11 => k_is)
    (case c11 => k_is)
    (case k11 => k_is)
    (case a12 => k_is)
    (case l12 => k_is)
    (case c12 => k_is)
    (case k12 => k_is)
    (case a13 => k_is)
    (case l13 => k_is)
    (case c13 => k_is)
    (case k13 => k_is)
    (case a14 => k_is)
    (case i14 => k_is)
    (case l14 => k_is)
    (case kvn_Store_init => k_is)
    (case c14 => k_is)
    (case k14 => k_is)
    (case a15 => k_is)
    (case i15 => k_is)
    (case l15 => k_is)
    (case c15 => k_is)
    (case k15 => k_is)
    (case a16 => k_is)
    (case i16 => k_is)
    (case l16 => k_is)
    (case c16 => k_is)
    (case k16 => k_is)
    (case a17 => k_is)
    (case i17 => k_is)
    (case l17 => k_is)
    (case c17 => k_is)
    (case k17 => k_is)
    (case a18 => k_is)
    (case i18 => k_is)
    (case l18 => k_is)
    (case c18 => k_is)
    (case k18 => k_is)
    (case a19 => k_is)
    (case i19 => k_is)
    (case l19 => k_is)
    (case c19 => k_is)
    (case k19 => k_is)
    (case a20 => k_is)
    (case i20 => k_is)
    (case l20 => k_is)
    (case c20 => k_is)
    (case k20 => k_is)
    (case a21 => k_is)
    (case i21 => k_is)
    (case l21 => k_is)
    (case c21 => k_is)
    (case k21 => k_is)
    (case a22 => k_is)
    (case i22 => k_is)
    (case l22 => k_is)
    (case c22 => k_is)
    (case k22 => k_is)
    (case a23 => k_is)
    (case i23 => k_is)
    (case l23 => k_is)
    (case c23 => k_is)
    (case k23 => k_is)
    (case a24 => k_is)
    (case i24 => k_is)
    (case l24 => k_is)
    (case c24 => k_is)
    (case k24 => k_is)
    (case a25 => k_is)
    (case i25 => k_is)
    (case l25 => k_is)
    (case c25 => k_is)
    (case k25 => k_is)
    (case a26 => k_is)
    (case i26 => k_is)
    (case l26 => k_is)
    (case c26 => k_is)
    (case k26 => k_is)
    (case a27 => k_is)
    (case l27 => k_is)
    (case c27 => k_is)
    (case k27 => k_is)
    (case a28 => k_is)
    (case l28 => k_is)
    (case c28 => k_is)
    (case k28 => k_is)
    (case a29 => k_is)
    (case l29 => k_is)
    (case c29 => k_is)
    (case k29 => k_is)
    (case a30 => k_is)
    (case l30 => k_is)
    (case c30 => k_is)
    (case k30 => k_is)
    (case a31 => k_is)
    (case l31 => k_is)
    (case c31 => k_is)
    (case k31 => k_is)
    (case a32 => k_is)
    (case l32 => k_is)
    (case c32 => k_is)
    (case k32 => k_is)
    (case a33 => k_is)
    (case l33 => k_is)
    (case c33 => k_is)
    (case k33 => k_is)
    (case a34 => k_is)
    (case l34 => k_is)
    (case c34 => k_is)
    (case k34 => k_is)
    (case a35 => k_is)
    (case l35 => k_is)
    (case c35 => k_is)
    (case k35 => k_is)
    (case a36 => k_is)
    (case l36 => k_is)
    (case c36 => k_is)
    (case k36 => k_is)
    (case a37 => k_is)
    (case l37 => k_is)
    (case c37 => k_is)
    (case k37 => k_is)
    (case pg0 => k_is)
    (case hd0 => k_is)
    (case po0 => k_is)
    (case sa0 => k_is)
    (case mk0 => k_is)
    (case kc0 => k_is)
    (case no0_own_most => k_is)
    (case no0_own_rooms => k_is)
    (case no0_own_heads => k_is)
    (case z_isinstance => k_is)
    (case z_int => k_is)
    (case z_bool => k_is)
    (case z_tuple => k_is)
    (case z_str => k_is)
    (case z_len => k_is)
    (case z_all => k_is)
    (case z_zip => k_is)
    (case z_ValueError => k_is)
    (case z_IndexError => k_is)
    (case z_OverflowError => k_is)
    (case z_sorted => k_is)
    (case z_dict => k_is)
    (case z_range => k_is)
    (case z_min => k_is)
    (case z_max => k_is)
    (case z_repr => k_is)
    (case kg_FORMS => k_is)
    (case kl_FORMS => k_is)
    (case km_FORMS => rfl)
    (case kn_FORMS_0 => k_is)
    (case kn_FORMS_1 => k_is)
    (case kn_FORMS_2 => k_is)
    (case kn_FORMS_3 => k_is)
    (case kn_FORMS_4 => k_is)
    (case kn_FORMS_5 => k_is)
    (case kn_FORMS_6 => k_is)
    (case kn_FORMS_7 => k_is)
    (case kn_FORMS_8 => k_is)
    (case kn_FORMS_9 => k_is)
    (case kq_FORMS => repeat' (first | exact True.intro | exact ⟨_, rfl⟩ | exact rfl | apply And.intro))
    (case kt_FORMS_0 => k_is)
    (case kt_FORMS_1 => k_is)
    (case kt_FORMS_2 => k_is)
    (case kt_FORMS_3 => k_is)
    (case kt_FORMS_4 => k_is)
    (case kt_FORMS_5 => k_is)
    (case kt_FORMS_6 => k_is)
    (case kt_FORMS_7 => k_is)
    (case kt_FORMS_8 => k_is)
    (case kt_FORMS_9 => k_is)
    (case v_MOST_KEY => k_is)
    (case v_MOST_LEVEL => k_is)
    (case v_MOST_ROWS => k_is)
    (case v_MOST_ROOMS => k_is)
    (case v_ROOMS => k_is)
