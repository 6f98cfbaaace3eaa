import PyProof.Rows.All
import Wide.All
import OpenK.AllK
import Wide.FinOn
import HandS.ForMost
import HandS.More
import HandS.Conv
import HandS.Codes

import HandS.Flow
import HandS.Finally
import HandS.Walk
import HandS.IsInst
import HandS.Defaults
import HandS.MakeKwOnly
import HandS.DeepEq
import HandS.CallLocal
import HandS.Zip
import HandS.ExcInit
import HandS.RaiseFrom
import HandS.ExcIs
import HandS.ExcField
import KE.KEqNest
import KE.GoesZip
import KE.GoesMore
import HandS.WordsExc
import HandS.ExcValue
import HandS.DictComp
import HandS.TupAny
import HandS.CallSlots
import HandS.TryMany
import PySem.Challenge.RW_deltaboughs_k02_refusals_made
set_option Elab.async false
set_option maxRecDepth 100000
set_option maxHeartbeats 4000000
/-! ### own classes of errors, each right under a built-in one -/
namespace ER
open PySem PySem.W PySem.Calls PySem.HandSPX Builtin Builtin.ObjectAttr
/-- B: the built-in class above; nw: what makes its instances, the one of nB; ini: what starts them; tl: B's line -/
structure Base (B nB nw nI ini : String) (tB tl : List Value) : Prop where
  N : ExcBaseFacts nB nw nI tB
  hasN : tl.contains (.type nB) = true
  noA : tl.contains (.type "AttributeError") = false
  noE : tl.contains (.type "NameError") = false
  hasB : tl.contains (.type B) = true
  slot : Slot B "__init__" ini
  entry : entryFor table ini = some Builtin.«BaseException.__init__»
  kind : builtinKind ini = some .slot
  split : splitId ini = some (B, "__init__")
  row : Manifest.signature? ini = some ⟨.positional, "*", B, .self, [⟨"args", .varPos, false⟩]⟩
  star : (B != "*") = true
  obj : tl.contains (.type "object") = true
  pass : ∀ v, refuseLoop v "__setattr__" tl = pure ()
  ty : typeOf (.type B) = pure (.type "type")
abbrev tlV : List Value := [.type "ValueError", .type "Exception", .type "BaseException", .type "object"]
abbrev tlI : List Value := [.type "IndexError", .type "LookupError", .type "Exception", .type "BaseException", .type "object"]
abbrev tlK : List Value := [.type "KeyError", .type "LookupError", .type "Exception", .type "BaseException", .type "object"]
abbrev tlL : List Value := [.type "LookupError", .type "Exception", .type "BaseException", .type "object"]
abbrev tlR : List Value := [.type "RuntimeError", .type "Exception", .type "BaseException", .type "object"]
abbrev tlO : List Value := [.type "OverflowError", .type "ArithmeticError", .type "Exception", .type "BaseException", .type "object"]
theorem Base.of {B nw ini : String} {tl : List Value} (F : ExcBaseFacts B nw ini tl) (o : tl.contains (.type "object") = true) (p : ∀ v, refuseLoop v "__setattr__" tl = pure ()) (y : typeOf (.type B) = pure (.type "type")) : Base B B nw ini ini tl tl :=
  ⟨F, F.hasB, F.noAttr, F.noName, F.hasB, F.init, F.initEntry, F.initKind, F.initSplit, F.initRow, F.noStar, o, p, y⟩
theorem bV : Base "ValueError" "ValueError" "ValueError.__new__" "ValueError.__init__" "ValueError.__init__" tlV tlV := .of F.excBase_ValueError (by decide +kernel) (fun _ => by kernel_rfl) (by kernel_rfl)
theorem bI : Base "IndexError" "IndexError" "IndexError.__new__" "IndexError.__init__" "IndexError.__init__" tlI tlI := .of F.excBase_IndexError (by decide +kernel) (fun _ => by kernel_rfl) (by kernel_rfl)
theorem bL : Base "LookupError" "LookupError" "LookupError.__new__" "LookupError.__init__" "LookupError.__init__" tlL tlL := .of F.excBase_LookupError (by decide +kernel) (fun _ => by kernel_rfl) (by kernel_rfl)
theorem bR : Base "RuntimeError" "RuntimeError" "RuntimeError.__new__" "RuntimeError.__init__" "RuntimeError.__init__" tlR tlR := .of F.excBase_RuntimeError (by decide +kernel) (fun _ => by kernel_rfl) (by kernel_rfl)
theorem bO : Base "OverflowError" "OverflowError" "OverflowError.__new__" "OverflowError.__init__" "OverflowError.__init__" tlO tlO := .of F.excBase_OverflowError (by decide +kernel) (fun _ => by kernel_rfl) (by kernel_rfl)
theorem bK : Base "KeyError" "LookupError" "LookupError.__new__" "LookupError.__init__" "KeyError.__init__" tlL tlK :=
  ⟨F.excBase_LookupError, by decide +kernel, by decide +kernel, by decide +kernel, by decide +kernel, PyProof.Rows.excClass_KeyError.init, PyProof.Rows.excClass_KeyError.initEntry, PyProof.Rows.excClass_KeyError.initKind, PyProof.Rows.excClass_KeyError.initSplit, PyProof.Rows.excClass_KeyError.initSig, PyProof.Rows.excClass_KeyError.notStar,
    by decide +kernel, fun _ => by kernel_rfl, by kernel_rfl⟩
theorem ahead {C : Addr} {tl : List Value} {X : String} {b : Bool} (h : tl.contains (.type X) = b) : (Value.ref C :: tl).contains (.type X) = b := by
  rw [List.contains_cons, h]
  cases b <;> rfl
section
variable {prog : Program} {w : World} {M : Model} {A : Around} {E : Value → Shared → Prop} {R : Result → Shared → Prop}
variable {h : Heap} {g : Array GenState} {d : Drawn} {t : Nat} {os : OsState}
variable {nm q : Str} {C N : Addr} {bs tB tl : List Value} {hd : Bool} {sn : List Str} {sub : List Value} {ab : Bool} {col : Option Bool}
variable {dd : Option Addr} {k0 k1 k2 k3 k5 : Option Value} {B nB nw nI ini : String}
/-- the maker takes the class -/
theorem maker_takes (Z : Base B nB nw nI ini tB tl) {rest : List Value} {Q : Unit → Shared → Prop}
    (hC : h.get? C = some (excClassObj nm q C N bs tl hd sn sub ab col dd k0 k1 k2 k3 k5 nw)) (fin : Q () ⟨h, g, d, t, os⟩) :
    wpAny M A (checkBuiltinCall nw ⟨.ref C :: rest, []⟩) Q E ⟨h, g, d, t, os⟩ := by
  have c1 := ahead (C := C) Z.hasN
  have c2 := Z.N.noStar
  simp only [checkBuiltinCall, Z.N.newKind, Z.N.newSplit, Z.N.newRow]
  repeat (first
    | refine wpAny_loadPart_at hC ?_
    | (refine wpAny_isSubtype_exc hC ?_; rw [c1])
    | refine wpAny_staticBase_exc hC ?_
    | refine wpAny_madeBy_exc hC ?_
    | simp only [bne_self_eq_false, Bool.false_eq_true, if_false]
    | wp_step)
  exact fin
/-- the starter takes an instance -/
theorem starter_takes (Z : Base B nB nw nI ini tB tl) {e : Addr} {oe : Obj} {rest : List Value} {Q : Unit → Shared → Prop}
    (hC : h.get? C = some (excClassObj nm q C N bs tl hd sn sub ab col dd k0 k1 k2 k3 k5 nw)) (he : h.get? e = some oe) (hc : oe.cls = .ref C)
    (fin : Q () ⟨h, g, d, t, os⟩) : wpAny M A (checkBuiltinCall ini ⟨.ref e :: rest, []⟩) Q E ⟨h, g, d, t, os⟩ := by
  have c1 := ahead (C := C) Z.hasB
  have c2 := Z.star
  simp only [checkBuiltinCall, Z.kind, Z.split, Z.row]
  repeat (first
    | (with_reducible refine wpAny_loadPart_at he ?_; rw [hc])
    | with_reducible refine wpAny_loadPart_at hC ?_
    | (with_reducible refine wpAny_isSubtype_exc hC ?_; rw [c1])
    | wp_step)
  refine wpAny_onRaise ?_
  have ck : ∀ (x y : String) (n : Nat), Bind.check ⟨.positional, "*", B, .self, [⟨"args", .varPos, false⟩]⟩ x y n (({ pos := Value.ref e :: rest } : Args).kw.map fun z => z.1) = pure () := fun x y n => check_star_args ..
  rw [ck]
  exact wpAny_pure fin
/-- a bare instance -/
theorem makes (Z : Base B nB nw nI ini tB tl) {rest : List Value} (hC : h.get? C = some (excClassObj nm q C N bs tl hd sn sub ab col dd k0 k1 k2 k3 k5 nw)) (sz : rest.length ≤ sizeLine)
    (fin : R (.ok (.ret (.ref (h.objs.size + 1)))) ⟨(h.push (W.kdv_tup rest)).push (excO C h.objs.size), g, d, t, os⟩) : codeAny (model prog w) A (.builtin nw ⟨.ref C :: rest, []⟩) R ⟨h, g, d, t, os⟩ := by
  have c0 := Z.N.ends
  have c1 := ahead (C := C) Z.hasN
  have c2 := ahead (C := C) Z.noA
  have c3 := ahead (C := C) Z.noE
  refine codeAny_builtinAt Z.N.entry ?_
  unfold Builtin.«BaseException.__new__»
  refine wpAt_bind ?_
  show wpAt _ _ _ (stack >>= _) _ _ _
  refine wpAt_bind (wpAt_stack fun _ _ => wpAt_of_wpAny ?_)
  wp_walk
  refine wpAt_of_wpAny ?_
  rw [Z.N.owner]
  repeat (first
    | with_reducible refine wpAny_madeHere_exc Z.N.canon hC ?_
    | with_reducible refine wpAny_loadPart_at hC ?_
    | (with_reducible refine wpAny_isSubtype_exc hC ?_; first | rw [c1] | rw [c2] | rw [c3])
    | wp_step)
  show R _ _
  rw [Heap.size_push]
  exact fin
/-- the class is called: an instance is made, then its own starter is called -/
theorem meta_call (Z : Base B nB nw nI ini tB tl) {rest : List Value} {fI : Addr} {Q : Fin → Shared → Prop} (hC : h.get? C = some (excClassObj nm q C N bs tl hd sn sub ab col dd k0 k1 k2 k3 k5 nw)) (sz : rest.length ≤ sizeLine)
    (hi : W.Looks (model prog w) h (typeLookup (.ref C) "__init__") (some (.ref fI))) (hb : ∀ v, W.Looks (model prog w) h (bindSpecial (.ref fI) v) (.ref fI, [v]))
    (run : codeAny (model prog w) A (.call (.ref fI) ⟨.ref (h.objs.size + 1) :: rest, []⟩) (fun r s' => match r with
      | .ok (.ret v) => v = .none ∧ Q (.done (.ret (.ref (h.objs.size + 1)))) s'
      | .ok _ => False
      | .error e => E e s') ⟨(h.push (W.kdv_tup rest)).push (excO C h.objs.size), g, d, t, os⟩) :
    wpAny (model prog w) A (Builtin.«type.__call__» ⟨.ref C :: rest, []⟩) Q E ⟨h, g, d, t, os⟩ := by
  repeat (first
    | with_reducible refine wpAny_loadPart_at hC ?_
    | with_reducible refine wpAny_madeBy_exc hC ?_
    | wp_step)
  refine codeAny_call_builtin_code (Code.quiet_builtin _ Z.N.quiet) (maker_takes Z hC (makes Z hC sz ?_))
  show wpAny _ _ _ _ _ _
  have kp : ∀ b o, h.get? b = some o → ((h.push (W.kdv_tup rest)).push (excO C h.objs.size)).get? b = some o := fun _ _ e => Heap.get?_push_of_some _ (Heap.get?_push_of_some _ e)
  have hC2 := kp _ _ hC
  have he : ((h.push (W.kdv_tup rest)).push (excO C h.objs.size)).get? (h.objs.size + 1) = some (excO C h.objs.size) := by heap_get
  have cC : (Value.ref C :: tl).contains (.ref C) = true := by simp
  have i2 := hi.keeps kp
  have b2 := (hb (.ref (h.objs.size + 1))).keeps kp
  unfold isInstance
  repeat (first
    | with_reducible refine wpAny_loadPart_at he ?_
    | (with_reducible refine wpAny_isSubtype_exc hC2 ?_; rw [cC])
    | wp_step)
  show wpAny _ _ (typeLookup (.ref C) _) _ _ _
  refine i2.at ?_
  refine wpAny_holding (wpAny_bind (b2.at ?_))
  refine wpAny_bind (wpAny_call (codeAny_mono run fun r s' z => ?_))
  rcases r with e | (v | _ | _ | _)
  · exact z
  · first
      | exact z.elim
      | (obtain ⟨rfl, z⟩ := z; first | exact wpAny_pure (wpAny_pure z) | (wp_walk; exact z))
  all_goals first
    | exact z.elim
    | (obtain ⟨rfl, z⟩ := z; first | exact wpAny_pure (wpAny_pure z) | (wp_walk; exact z))
theorem class_call (Z : Base B nB nw nI ini tB tl) {rest : List Value} {fI : Addr} (hC : h.get? C = some (excClassObj nm q C N bs tl hd sn sub ab col dd k0 k1 k2 k3 k5 nw)) (sz : rest.length ≤ sizeLine)
    (hi : W.Looks (model prog w) h (typeLookup (.ref C) "__init__") (some (.ref fI))) (hb : ∀ v, W.Looks (model prog w) h (bindSpecial (.ref fI) v) (.ref fI, [v]))
    (run : codeAny (model prog w) (A.under (.builtin "type.__call__" ⟨.ref C :: rest, []⟩)) (.call (.ref fI) ⟨.ref (h.objs.size + 1) :: rest, []⟩) (W.InitBack (h.objs.size + 1) R) ⟨(h.push (W.kdv_tup rest)).push (excO C h.objs.size), g, d, t, os⟩) :
    codeAny (model prog w) A (.call (.ref C) ⟨rest, []⟩) R ⟨h, g, d, t, os⟩ := by
  have t1 := tc_lookup
  have t2 := tc_bind (.ref C)
  have tC : (⟨h, g, d, t, os⟩ : Shared).TypeIs (.ref C) "type" := ⟨_, hC, rfl⟩
  refine codeAny_of_tree ?_
  show wpAny _ _ (callAny (.ref C) _) _ _ _
  repeat (any_goals (first
    | assumption
    | with_reducible refine wpAny_loadPart_at hC ?_
    | wp_step))
  refine ⟨rfl, codeAny_call_builtin_at (Code.quiet_builtin _ (by decide +kernel)) entry_typeCall (wpAny_check_type_call_sub hC (meta_call Z hC sz hi hb ?_))⟩
  refine codeAny_mono run fun r s' z => ?_
  rcases r with e | (v | _ | _ | _) <;> exact z
/-- B.__init__(e, ..): the args are laid anew -/
theorem starts (Z : Base B nB nw nI ini tB tl) {e t0 : Addr} {rest : List Value} (hC : h.get? C = some (excClassObj nm q C N bs tl hd sn sub ab col dd k0 k1 k2 k3 k5 nw)) (he : h.get? e = some (excO C t0)) (sz : rest.length ≤ sizeLine)
    (fin : ∀ h' t1, (∀ b o, b ≠ e → h.get? b = some o → h'.get? b = some o) → h'.get? e = some (excO C t1) → R (.ok (.ret .none)) ⟨h', g, d, t, os⟩) : codeAny (model prog w) A (.call (.builtin ini) ⟨.ref e :: rest, []⟩) R ⟨h, g, d, t, os⟩ := by
  refine codeAny_call_builtin Z.slot.plain Z.entry (starter_takes Z hC he rfl ?_)
  wp_walk
  have kp : ∀ b o, h.get? b = some o → (h.push (W.kdv_tup rest)).get? b = some o := fun _ _ e => Heap.get?_push_of_some _ e
  refine fin _ h.objs.size (fun b o n ho => (Heap.get?_update_other _ _ (Ne.symm n)).trans (kp b o ho)) ?_
  rw [Heap.get?_update_self _ (kp e _ he) rfl]
  rfl
end
/-! ### a class of ours -/
structure BI where
  B : String
  nB : String
  nw : String
  nI : String
  ini : String
  tB : List Value
  tl : List Value
def BI.ok (b : BI) : Prop := Base b.B b.nB b.nw b.nI b.ini b.tB b.tl
def iV : BI := ⟨"ValueError", "ValueError", "ValueError.__new__", "ValueError.__init__", "ValueError.__init__", tlV, tlV⟩
def iI : BI := ⟨"IndexError", "IndexError", "IndexError.__new__", "IndexError.__init__", "IndexError.__init__", tlI, tlI⟩
def iL : BI := ⟨"LookupError", "LookupError", "LookupError.__new__", "LookupError.__init__", "LookupError.__init__", tlL, tlL⟩
def iR : BI := ⟨"RuntimeError", "RuntimeError", "RuntimeError.__new__", "RuntimeError.__init__", "RuntimeError.__init__", tlR, tlR⟩
def iO : BI := ⟨"OverflowError", "OverflowError", "OverflowError.__new__", "OverflowError.__init__", "OverflowError.__init__", tlO, tlO⟩
def iK : BI := ⟨"KeyError", "LookupError", "LookupError.__new__", "LookupError.__init__", "KeyError.__init__", tlL, tlK⟩
/-- what the written part says of the class at C, right under b's -/
structure Own (K : Frag) (C : Addr) (b : BI) : Prop where
  Z : b.ok
  cls : ∃ nm q N bs sn sub ab col dd k0 k1 k2 k3 k5, K.lookup C = some (excClassObj nm q C N bs b.tl true sn sub ab col dd k0 k1 k2 k3 k5 b.nw)
  sa : findIn K (.ref C) "__setattr__" = some (some (.builtin "object.__setattr__"))
  ga : findIn K (.ref C) "__getattribute__" = some (some (.builtin "BaseException.__getattribute__"))
  gg : findIn K (.ref C) "__getattr__" = some none
  exC : subIn K (.ref C) (.type "BaseException") = some true
  tyC : typeIn K (.ref C) = some (.type "type")
  kC : keepIn K (.ref C) = true
  hdC : hasDictIn K C = true
theorem Own.cd {K : Frag} {C : Addr} {b : BI} (T : Own K C b) : ∃ cd, clsIn K C = some cd ∧ cd.mro = .ref C :: b.tl ∧ cd.hasDict = true := by
  obtain ⟨nm, q, N, bs, sn, sub, ab, col, dd, k0, k1, k2, k3, k5, e⟩ := T.cls
  unfold clsIn
  rw [e]
  exact ⟨_, rfl, rfl, rfl⟩
theorem Own.xf {K : Frag} {C : Addr} {b : BI} (T : Own K C b) : L2.XfC K C := ⟨T.ga, T.gg, T.exC, T.hdC⟩
section
variable {prog : Program} {w : World} {A : Around} {E : Value → Shared → Prop} {R : Result → Shared → Prop} {K : Frag} {C x : Addr} {b : BI} {name : Str} {v : Value}
variable {hp : Heap} {g : Array GenState} {d : Drawn} {t : Nat} {os : OsState} {tk : Tok}
/-- x.name = v comes down to the own dict -/
theorem Own.stores (T : Own K C b) {ox : Obj} {od : Option Obj} (X : K.In hp) (I : InstAt hp x ox C od) (no : findIn K (.ref C) name = some none)
    (run : wpAny (model prog w) A.in1 (storeInOwnDict (.ref x) (.ref C) (.str name tk) name v false) (fun fin s' => match fin with
      | .done f => R (.ok f) s'
      | .again c => c.quiet = true ∧ codeAny (model prog w) A c R s') (fun e s' => R (.error e) s') ⟨hp, g, d, t, os⟩) :
    codeAny (model prog w) A (.call (.builtin "object.__setattr__") ⟨[.ref x, .str name tk, v], []⟩) R ⟨hp, g, d, t, os⟩ := by
  obtain ⟨cd, hcd, hm, _⟩ := T.cd
  have Z : Base b.B b.nB b.nw b.nI b.ini b.tB b.tl := T.Z
  have isO : W.Looks (model prog w) hp (isInstance (.ref x) (.type "object")) true := by
    refine I.type.andThen (W.looks_mroIn X ?_)
    unfold W.mroIn
    rw [hcd, Option.bind_some, hm]
    rw [if_neg (by show ¬ ((Value.ref C :: b.tl).isEmpty = true); exact Bool.false_ne_true), ahead Z.obj]
  have line : W.Looks (model prog w) hp (mroOf (.ref C)) cd.mro := (W.looks_clsIn X hcd).andThen .now
  have noT : W.Looks (model prog w) hp (storeTaker? none) none := .now
  have SO := F.store_object
  refine codeAny_call_builtin SO.slot.plain SO.entry ?_
  refine @W.check_slot (model prog w) _ _ ⟨hp, g, d, t, os⟩ "object.__setattr__" "object" "__setattr__" (.ref x) [.str name tk, v] [] _ SO.kind SO.split isO (SO.args (.ref x) (.str name tk) v) ?_
  rw [W.osa_eq, refuse_eq]
  refine wpAny_bind (wpAny_bind (I.type.at (wpAny_bind (line.at ?_))))
  rw [show refuseLoop (.ref x) "__setattr__" cd.mro = pure () by rw [hm, refuseLoop_ref]; exact Z.pass _]
  exact wpAny_pure (wpAny_bind (I.type.at (wpAny_bind ((W.looks_findIn X no).at (wpAny_bind (noT.at run))))))
/-- the first field: a dict is made -/
theorem Own.first (T : Own K C b) {fv : Array Value} (X : K.In hp) (hx : hp.get? x = some { cls := .ref C, data := .fields fv }) (no : findIn K (.ref C) name = some none)
    (fin : ∀ h' tk' dx, (∀ c o, c ≠ x → hp.get? c = some o → h'.get? c = some o) → hp.objs.size ≤ dx → dx ≠ x → h'.get? x = some { cls := .ref C, dict := some dx, data := .fields fv } → h'.Ns1 dx (fun y => if y = name then some v else none) → R (.ok (.ret .none)) ⟨h', g, d, tk', os⟩) :
    codeAny (model prog w) A (.call (.builtin "object.__setattr__") ⟨[.ref x, .str name tk, v], []⟩) R ⟨hp, g, d, t, os⟩ := by
  have I : W.InstAt hp x { cls := .ref C, data := .fields fv } C none := ⟨hx, rfl, rfl, trivial⟩
  have ns : x ≠ hp.objs.size := Nat.ne_of_lt (Heap.lt_size hx)
  refine T.stores X I no ?_
  obtain ⟨cd, hcd, _, hh⟩ := T.cd
  have lk : W.Looks (model prog w) hp (classData C) cd := W.looks_clsIn X hcd
  obtain ⟨_, _, _, _, _, hd, _, _, _, _, _⟩ := cd
  dsimp only at hh
  subst hh
  unfold storeInOwnDict ownDictForStores
  repeat (first
    | with_reducible refine HandSPX.store_in_new ?_ ?_
    | with_reducible refine wpAny_loadPart_at hx ?_
    | with_reducible refine lk.at ?_
    | wp_step)
  · exact ⟨_, #[], _, (Heap.get?_update_ne _ _ _ _ ns.symm).trans (Heap.get?_push_at rfl rfl), rfl, fun e he => (by simp at he), fun _ => rfl⟩
  · intro h' tk' hn sb
    have hx2 : (hp.push { cls := .type "dict", data := .dict #[] }).get? x = some { cls := .ref C, data := .fields fv } := Heap.get?_push_of_some _ hx
    refine fin h' tk' hp.objs.size (fun c o n ho => ?_) (Nat.le_refl _) ns.symm ((sb.2 x ns).trans (Heap.get?_update_self _ hx2 rfl)) hn
    exact (sb.2 c (Nat.ne_of_lt (Heap.lt_size ho))).trans ((Heap.get?_update_ne _ _ _ _ n).trans (Heap.get?_push_of_some _ ho))
/-- a further one -/
theorem Own.next (T : Own K C b) {fv : Array Value} {dx : Addr} {m : Str → Option Value} {nl : List Str} (X : K.In hp) (hx : hp.get? x = some { cls := .ref C, dict := some dx, data := .fields fv }) (hn : hp.Ns1 dx m) (hw : Within m nl) (hz : nl.length ≤ 1000) (no : findIn K (.ref C) name = some none)
    (fin : ∀ h' tk', (∀ c o, c ≠ dx → hp.get? c = some o → h'.get? c = some o) → h'.Ns1 dx (fun y => if y = name then some v else m y) → R (.ok (.ret .none)) ⟨h', g, d, tk', os⟩) :
    codeAny (model prog w) A (.call (.builtin "object.__setattr__") ⟨[.ref x, .str name tk, v], []⟩) R ⟨hp, g, d, t, os⟩ := by
  obtain ⟨oD, _, _, hoD, _, _⟩ := hn.count hw
  refine T.stores X (ox := { cls := .ref C, dict := some dx, data := .fields fv }) (od := some oD) ⟨hx, rfl, rfl, hoD⟩ no ?_
  obtain ⟨cd, hcd, _, hh⟩ := T.cd
  have lk : W.Looks (model prog w) hp (classData C) cd := W.looks_clsIn X hcd
  obtain ⟨_, _, _, _, _, hd, _, _, _, _, _⟩ := cd
  dsimp only at hh
  subst hh
  unfold storeInOwnDict ownDictForStores
  repeat (first
    | with_reducible refine OEX.store_in_old hn hw hz ?_
    | with_reducible refine wpAny_loadPart_at hx ?_
    | with_reducible refine lk.at ?_
    | wp_step)
  exact fun h' tk' h1 sb => fin h' tk' (fun c o n ho => (sb.2 c n).trans ho) h1
end
/-! ### over the abstract heap -/
section
open L2
variable {X : Cx} {pins : List (Addr × Obj)} {σ : St} {H : Hp} {s : Shared} {a C dx : Addr} {f : Str} {y : V} {u : Value} {fs : List (Str × V)} {b : BI} {A : Around} {E : Value → Shared → Prop}
theorem set_first {Q : Unit → Shared → Prop} (T : Own X.K C b) (I : Inv X pins σ H s) (e : H a = some (exo a C none)) (no : findIn X.K (.ref C) f = some none) (ry : RelV y u)
    (fin : ∀ dx s', H dx = none → dx ≠ a → Inv X pins σ (upd (upd H dx (exd dx [(f, y)])) a (exo a C (some dx))) s' → Q () s') : wpAny (model X.prog X.w) A (setAttr (.ref a) f u) Q E s := by
  obtain ⟨t1, ho⟩ := exo_at I.hok e
  obtain ⟨hp, g, d, t, os⟩ := s
  refine set_plain I.kIn (od := none) ⟨ho, rfl, rfl, trivial⟩ T.sa (T.first I.kIn ho no fun h' tk' dx kp big apart hx hn => ?_)
  have fr : H dx = none := I.hok.fresh big
  have old : ∀ {c : Addr} {o : Obj}, hp.get? c = some o → c ≠ dx := fun q => Nat.ne_of_lt (Nat.lt_of_lt_of_le (Heap.lt_size q) big)
  have oth : ∀ {c : Addr}, H c = none → c ≠ a := fun n z => by rw [z, e] at n; cases n
  have stay : ∀ {c : Addr} {z : HO}, H c = some z → exo a C none ≠ z → upd (upd H dx (exd dx [(f, y)])) a (exo a C (some dx)) c = some z := fun q n => by
    rw [upd_ne (at_ne e q n), upd_ne (ne_of_none q fr)]; exact q
  have U : Un X.fs [] H (upd (upd H dx (exd dx [(f, y)])) a (exo a C (some dx))) hp h' :=
    ⟨fun c o q n _ _ => kp c o (oth n) q, fun c o q n _ _ => ⟨o.slots, kp c o (oth n) q⟩, fun c o q n _ => by rw [upd_ne (oth n), upd_ne (old q)]; exact n,
      fun c o q _ => by
        by_cases z : c = a
        · subst z; exact ⟨_, hx⟩
        · exact ⟨o, kp c o z q⟩,
      fun c _ q => stay q exo_tup, fun c _ _ q => stay q exo_frz, fun c ps q => ⟨#[], by rw [stay q exo_tbl]; simp⟩⟩
  refine fin dx _ fr apart (I.un (t' := tk') U fun c z q => ?_)
  by_cases h1 : c = a
  · subst h1; rw [upd_same] at q; cases q; exact exo_ok hx
  rw [upd_ne h1] at q
  by_cases h2 : c = dx
  · subst h2; rw [upd_same] at q; cases q; exact exd_ok hn (relO_put (fs := []) ry fun _ => True.intro)
  rw [upd_ne h2] at q
  refine (I.hok c z q).stay (fun i v hi q2 => kp i v ?_ q2) (fun i hi => stay hi exo_own) fun i xs hi => stay hi exo_tup
  rcases hi with hi | hi
  · rw [hi]; exact h1
  · exact at_ne e hi exo_own
theorem set_next {Q : Unit → Shared → Prop} (T : Own X.K C b) (I : Inv X pins σ H s) (e : H a = some (exo a C (some dx))) (ed : H dx = some (exd dx fs)) (hl : fs.length ≤ 900) (no : findIn X.K (.ref C) f = some none) (ry : RelV y u)
    (fin : ∀ s', Inv X pins σ (upd H dx (exd dx ((f, y) :: fs))) s' → Q () s') : wpAny (model X.prog X.w) A (setAttr (.ref a) f u) Q E s := by
  obtain ⟨t1, ho⟩ := exo_at I.hok e
  obtain ⟨m, hn, rel⟩ := exd_at I.hok ed
  have hw := within_of rel
  obtain ⟨hp, g, d, t, os⟩ := s
  obtain ⟨oD, _, _, hoD, _, _⟩ := hn.count hw
  refine set_plain I.kIn (od := some oD) ⟨ho, rfl, rfl, hoD⟩ T.sa (T.next I.kIn ho hn hw (by rw [List.length_map]; omega) no fun h' tk' kp h1 => ?_)
  have there : ∃ o, h'.get? dx = some o := by obtain ⟨o, _, _, q, _⟩ := h1; exact ⟨o, q⟩
  exact fin _ (I.write (t' := tk') (x := dx) (e := dx) (o := exd dx ((f, y) :: fs)) (by rw [ed]; exact True.intro) (.inl rfl) kp there (exd_ok h1 (relO_put ry rel)))
theorem start_ok {Q : Value → Shared → Prop} {us : List Value} (T : Own X.K C b) (I : Inv X pins σ H s) (e : H a = some (exo a C none)) (sz : us.length ≤ sizeLine) (fin : ∀ s', Inv X pins σ H s' → Q .none s') :
    wpAny (model X.prog X.w) A (call (.builtin b.ini) (.ref a :: us)) Q E s := by
  obtain ⟨nm, q, N, bs, sn, sub, ab, col, dd, k0, k1, k2, k3, k5, hC⟩ := T.cls
  have Z : Base b.B b.nB b.nw b.nI b.ini b.tB b.tl := T.Z
  obtain ⟨t1, ho⟩ := exo_at I.hok e
  obtain ⟨hp, g, d, t, os⟩ := s
  refine wpAny_call (starts Z (I.kIn _ _ hC) ho sz fun h' t2 kp hx => ?_)
  have J := I.write (t' := t) (x := a) (e := a) (o := exo a C none) (by rw [e]; exact True.intro) (.inl rfl) kp ⟨_, hx⟩ (exo_ok hx)
  have same : upd H a (exo a C none) = H := funext fun c => if z : c = a then by rw [z, upd_same, e] else by rw [upd_ne z]
  rw [same] at J
  exact fin _ J
/-! ### readings, rules -/
/-- B.__init__(self, ..) -/
def tIni (K : Frag) (b : BI) (ta : TA) : TE := fun σ H Q => ta σ H fun vs H1 => ∃ (a C : Addr) (ws : List V), vs = .ref a :: ws ∧ ws.length ≤ 1000 ∧ Own K C b ∧ H1 a = some (exo a C none) ∧ Q .non H1
/-- self.f = e, the first one -/
def tOs1 (K : Frag) (b : BI) (f : Str) (to te : TE) : TS := fun D σ H => te σ H fun y H1 => to σ H1 fun x H2 => ∃ a C : Addr, x = .ref a ∧ Own K C b ∧ findIn K (.ref C) f = some none ∧
  H2 a = some (exo a C none) ∧ ∀ dx, H2 dx = none → dx ≠ a → D.nx σ (upd (upd H2 dx (exd dx [(f, y)])) a (exo a C (some dx)))
/-- self.f = e, a further one -/
def tOs2 (K : Frag) (b : BI) (f : Str) (to te : TE) : TS := fun D σ H => te σ H fun y H1 => to σ H1 fun x H2 => ∃ (a C dx : Addr) (fs : List (Str × V)), x = .ref a ∧ Own K C b ∧ findIn K (.ref C) f = some none ∧
  H2 a = some (exo a C (some dx)) ∧ H2 dx = some (exd dx fs) ∧ fs.length ≤ 900 ∧ D.nx σ (upd H2 dx (exd dx ((f, y) :: fs)))
/-- C(e, ..) as a value: the error stands in the heap -/
def tMkV (C : Addr) (sp : Sp) (dvs : List V) (ta : TA) : TE := fun σ H Q => ta σ H fun vs H1 => vs.length ≤ 1000 ∧ ∀ a, H1 a = none → sp (.ref a :: (vs ++ dvs)) (upd H1 a (exo a C none)) (fun v H2 => v = .non ∧ Q (.ref a) H2) (fun _ _ _ => False)
end
/-- the starter's name is found -/
def BI.named (K : Frag) (b : BI) : Prop := findCls K (.type b.B) (.type "type") "__init__" = some (.val (.builtin b.ini)) ∧ Manifest.isStub b.B = false ∧ handedIn (.builtin b.ini) = true ∧ bootBuiltins b.B = some (.type b.B)
theorem nV {K : Frag} : BI.named K iV := ⟨by kernel_rfl, by decide +kernel, by decide +kernel, by decide +kernel⟩
theorem nI {K : Frag} : BI.named K iI := ⟨by kernel_rfl, by decide +kernel, by decide +kernel, by decide +kernel⟩
theorem nL {K : Frag} : BI.named K iL := ⟨by kernel_rfl, by decide +kernel, by decide +kernel, by decide +kernel⟩
theorem nR {K : Frag} : BI.named K iR := ⟨by kernel_rfl, by decide +kernel, by decide +kernel, by decide +kernel⟩
theorem nO {K : Frag} : BI.named K iO := ⟨by kernel_rfl, by decide +kernel, by decide +kernel, by decide +kernel⟩
theorem nK {K : Frag} : BI.named K iK := ⟨by kernel_rfl, by decide +kernel, by decide +kernel, by decide +kernel⟩
section
open L2
variable {X : Cx} {b : BI} {o e : Expr} {es : List Expr} {to te : TE} {ta : TA} {f x : Str} {p p' p1 p2 pos : Pos}
theorem pe_ini {pl : Sem Bool} (nb : b.named X.K) (Z : b.ok) (hg : Gl X x) (hm : X.mg x = none) (hx : x = Str.ofString b.B) (ha : PA X (e :: es) ta) (h1 : x ≠ "__name__" := by decide) (h2 : (x == ("__debug__" : Str)) = false := by decide)
    (hc : eval (.Call (.Attribute (.Name x p1) "__init__" p2) (e :: es) [] pos) X.env = (do
      let v ← eval (.Name x p1) X.env
      standAt p2.atName
      let (m, first) ← holding [v] (getMethod v "__init__" pl)
      callWith pos m first (backTo pos (starEach (e :: es) X.env)) (backToKw pos (keywordEach [] X.env))) := by rfl)
    (he : starEach (e :: es) X.env = (false, eval e X.env) :: starEach es X.env := by rfl) (hp : (backTo pos (starEach es X.env)).any (·.1) = false := by rfl) :
    PE X (.Call (.Attribute (.Name x p1) "__init__" p2) (e :: es) [] pos) (tIni X.K b ta) := by
  refine ⟨fun pins s σ H Q I h => ?_⟩
  obtain ⟨n1, n2, n3, n4⟩ := nb
  have Z' : Base b.B b.nB b.nw b.nI b.ini b.tB b.tl := Z
  refine PySem.W.methodCall_KW (ld_blt I hg hm (by rw [hx]; exact n4) ?_ h1 h2) hc
  obtain ⟨m, fr⟩ := I.fr
  refine PySem.W.method_type fr I.ok.mod.kin Z'.ty n2 n1 n3 ?_
  show wpAny _ _ (callWith pos (Value.builtin b.ini) [] (backTo pos (starEach (e :: es) X.env)) []) _ _ _
  refine PyProof.Rows.callWith_method1 (thn (ha.run pos pins _ σ H _ (I.tok _) h) fun us s1 ⟨vs, H1, I1, r1, a, C, ws, ev, hl, T, ea, q⟩ => ?_) he hp
  subst ev
  cases r1 with
  | @cons _ u0 _ ur ra rw' =>
    obtain rfl : u0 = Value.ref a := ra
    exact start_ok T I1 ea (by rw [← Paired.length rw', sizeLine_eq]; omega) fun s' J => ⟨.non, H1, J, rfl, q⟩
theorem ps_os1 (ho : PE X o to) (he : PE X e te) (hs : swapsWith e (some (.Attribute o f p')) pos.line X.env = pure false := by rfl) : PS X (.Assign [.Attribute o f p'] e pos) (tOs1 X.K b f to te) := by
  refine ⟨fun pins s σ H D I h => plainObj_wpAny_Assign_Attribute ?_ hs⟩
  refine thn (he.run pins s σ H _ I h) fun v s1 ⟨y, H1, I1, r1, q1⟩ => thn (ho.run pins s1 σ H1 _ I1 q1) fun u s2 ⟨z, H2, I2, r2, a, C, ex, T, no, ea, q⟩ => ?_
  subst ex
  obtain rfl : u = Value.ref a := r2
  exact set_first T I2 ea no r1 fun dx s' n ne J => ⟨σ, _, J, q dx n ne⟩
theorem ps_os2 (ho : PE X o to) (he : PE X e te) (hs : swapsWith e (some (.Attribute o f p')) pos.line X.env = pure false := by rfl) : PS X (.Assign [.Attribute o f p'] e pos) (tOs2 X.K b f to te) := by
  refine ⟨fun pins s σ H D I h => plainObj_wpAny_Assign_Attribute ?_ hs⟩
  refine thn (he.run pins s σ H _ I h) fun v s1 ⟨y, H1, I1, r1, q1⟩ => thn (ho.run pins s1 σ H1 _ I1 q1) fun u s2 ⟨z, H2, I2, r2, a, C, dx, fs, ex, T, no, ea, ed, hl, q⟩ => ?_
  subst ex
  obtain rfl : u = Value.ref a := r2
  exact set_next T I2 ea ed hl no r1 fun s' J => ⟨σ, _, J, q⟩
section
variable {CX : CXT} {C fI : Addr} {k : Nat} {fd : FuncData} {ps : List Str} {sp : Sp} {ds : List Value} {dvs : List V}
/-- the class is called, its own starter keeping sp: what is left -/
theorem make_run {P : Value → Shared → Prop} (T : Own X.K C b) (iC : findIn X.K (.ref C) "__init__" = some (some (.ref fI))) (tI : typeIn X.K (.ref fI) = some (.type "function")) (FI : FnOk X.prog X.w X.K X.mg X.base CX k fI fd ps sp) (hr : Room (k + 1) X.A) (hb : Binds X.K fd ps ds) (hd : Vals dvs ds)
    (hx : Passes CX X (fun _ _ _ => False)) {pins : List (Addr × Obj)} {σ : St} {H1 : Hp} {hp : Heap} {g : Array GenState} {dr : Drawn} {tk : Nat} {os : OsState} {us : List Value} {vs : List V} {G : V → Hp → Prop} (I1 : Inv X pins σ H1 ⟨hp, g, dr, tk, os⟩) (r1 : Vals vs us) (sz : vs.length ≤ 1000)
    (hq : sp (.ref (hp.objs.size + 1) :: (vs ++ dvs)) (upd H1 (hp.objs.size + 1) (exo (hp.objs.size + 1) C none)) G (fun _ _ _ => False))
    (fin : ∀ (v : V) (u : Value) (H2 : Hp) (s2 : Shared), RelV v u → G v H2 → s2.os = os → PyProof.Rows.AllBare s2.gens → Un (frs X.stack) [] (upd H1 (hp.objs.size + 1) (exo (hp.objs.size + 1) C none)) H2 ((hp.push (W.kdv_tup us)).push (excO C hp.objs.size)) s2.heap → HOk X.prog X.w H2 s2.heap → u = .none ∧ P (.ref (hp.objs.size + 1)) s2) :
    wpAny (model X.prog X.w) X.A (call (.ref C) us) P X.xe ⟨hp, g, dr, tk, os⟩ := by
  obtain ⟨nm, q, N, bs, sn, sub, ab, col, dd, k0, k1, k2, k3, k5, hC⟩ := T.cls
  have Z : Base b.B b.nB b.nw b.nI b.ini b.tB b.tl := T.Z
  have kp : ∀ c o, hp.get? c = some o → ((hp.push (W.kdv_tup us)).push (excO C hp.objs.size)).get? c = some o := fun _ _ z => Heap.get?_push_of_some _ (Heap.get?_push_of_some _ z)
  have he : ((hp.push (W.kdv_tup us)).push (excO C hp.objs.size)).get? (hp.objs.size + 1) = some (excO C hp.objs.size) := by heap_get
  have I2 : Inv X pins σ (upd H1 (hp.objs.size + 1) (exo (hp.objs.size + 1) C none)) ⟨(hp.push (W.kdv_tup us)).push (excO C hp.objs.size), g, dr, tk, os⟩ := I1.laid (t' := tk) kp (Nat.le_succ _) (exo_ok he)
  have r2 : Vals (V.ref (hp.objs.size + 1) :: (vs ++ dvs)) (Value.ref (hp.objs.size + 1) :: (us ++ ds)) := .cons rfl (r1.append hd)
  have hl : (Value.ref (hp.objs.size + 1) :: us ++ ds).length = ps.length := by
    have z := r2.length
    rw [FI.len _ _ _ _ hq] at z
    exact z.symm
  have su : us.length ≤ sizeLine := by rw [← Paired.length r1, sizeLine_eq]; omega
  refine wpAny_call (class_call Z (I1.kIn _ _ hC) su (looks_findIn I1.kIn iC) (fun v => bind_fn I1.kIn v tI) (codeAny_mono (FI.run _ X.stack _ _ ⟨Value.ref (hp.objs.size + 1) :: us, []⟩ (Value.ref (hp.objs.size + 1) :: (us ++ ds)) _ _ (fun _ _ _ => False)
    (hr.make C us []) (I2.env0.make C us []) (hb _ (Value.ref (hp.objs.size + 1) :: us) I2.kIn hl) r2 hq) fun r s' z => ?_))
  cases r with
  | error er => exact hx pins σ _ _ er s' I2 z
  | ok fl =>
    cases fl with
    | ret u =>
      obtain ⟨v, H2, os2, bare2, un2, hok2, rv, qv⟩ := z
      exact fin v u H2 s' rv qv os2 bare2 un2 hok2
    | next => exact z.elim
    | brk => exact z.elim
    | cont => exact z.elim
/-- X(e, ..), made to be raised -/
theorem pmk_own (T : Own X.K C b) (iC : findIn X.K (.ref C) "__init__" = some (some (.ref fI))) (tI : typeIn X.K (.ref fI) = some (.type "function")) (FI : FnOk X.prog X.w X.K X.mg X.base CX k fI fd ps sp) (hr : Room (k + 1) X.A) (hb : Binds X.K fd ps ds) (hd : Vals dvs ds)
    (hx : Passes CX X (fun _ _ _ => False)) (hg : Gl X x) (hm : X.mg x = some (.ref C)) (ha : PA X (e :: es) ta) (h2 : (x == ("__debug__" : Str)) = false := by decide)
    (he : starEach (e :: es) X.env = (false, eval e X.env) :: starEach es X.env := by rfl) (hp : (backTo pos (starEach es X.env)).any (·.1) = false := by rfl) : PMk X (.Call (.Name x p) (e :: es) [] pos) (tMkO C sp dvs ta) := by
  intro pins s σ H Q I h
  refine wpAny_Call_Name_kw (ld_glob I hg hm ?_ h2)
  refine PySem.W.callWith_K (h₀ := X.base) I.ok.mod.kin T.kC (thn (ha.run pos pins s σ H _ I h) fun us s1 ⟨vs, H1, I1, r1, sz, q1⟩ => ⟨I1.kIn, ?_⟩) he hp
  show wpAny _ _ (call (.ref C) us) _ _ _
  obtain ⟨hp, g, dr, tk, os⟩ := s1
  refine make_run T iC tI FI hr hb hd hx I1 r1 sz (q1 _ (I1.hok.fresh (Nat.le_succ _))) fun v u H2 s2 rv qv os2 bare2 un2 hok2 => ?_
  obtain ⟨ev, d, fs, ea, ed, hd1, q2⟩ := qv
  subst ev
  obtain ⟨h2, g2, d2, t2, os'⟩ := s2
  exact ⟨rv, mk_end (raises_own T.exC T.tyC) I1 (Nat.le_succ _) (fun _ _ z => Heap.get?_push_of_some _ (Heap.get?_push_of_some _ z)) un2 hok2 os2 bare2 ea ed hd1 q2⟩
/-- X(e, ..), a value -/
theorem pe_own (T : Own X.K C b) (iC : findIn X.K (.ref C) "__init__" = some (some (.ref fI))) (tI : typeIn X.K (.ref fI) = some (.type "function")) (FI : FnOk X.prog X.w X.K X.mg X.base CX k fI fd ps sp) (hr : Room (k + 1) X.A) (hb : Binds X.K fd ps ds) (hd : Vals dvs ds)
    (hx : Passes CX X (fun _ _ _ => False)) (hg : Gl X x) (hm : X.mg x = some (.ref C)) (ha : PA X (e :: es) ta) (h2 : (x == ("__debug__" : Str)) = false := by decide)
    (he : starEach (e :: es) X.env = (false, eval e X.env) :: starEach es X.env := by rfl) (hp : (backTo pos (starEach es X.env)).any (·.1) = false := by rfl) : PE X (.Call (.Name x p) (e :: es) [] pos) (tMkV C sp dvs ta) := by
  refine ⟨fun pins s σ H Q I h => ?_⟩
  refine wpAny_Call_Name_kw (ld_glob I hg hm ?_ h2)
  refine PySem.W.callWith_K (h₀ := X.base) I.ok.mod.kin T.kC (thn (ha.run pos pins s σ H _ I h) fun us s1 ⟨vs, H1, I1, r1, sz, q1⟩ => ⟨I1.kIn, ?_⟩) he hp
  show wpAny _ _ (call (.ref C) us) _ _ _
  obtain ⟨hp, g, dr, tk, os⟩ := s1
  refine make_run T iC tI FI hr hb hd hx I1 r1 sz (q1 _ (I1.hok.fresh (Nat.le_succ _))) fun v u H2 s2 rv qv os2 bare2 un2 hok2 => ?_
  obtain ⟨ev, q2⟩ := qv
  subst ev
  obtain ⟨h2, g2, d2, t2, os'⟩ := s2
  have he : ((hp.push (W.kdv_tup us)).push (excO C hp.objs.size)).get? (hp.objs.size + 1) = some (excO C hp.objs.size) := by heap_get
  have I2 : Inv X pins σ (upd H1 (hp.objs.size + 1) (exo (hp.objs.size + 1) C none)) ⟨(hp.push (W.kdv_tup us)).push (excO C hp.objs.size), g, dr, tk, os⟩ := I1.laid (t' := tk) (fun _ _ z => Heap.get?_push_of_some _ (Heap.get?_push_of_some _ z)) (Nat.le_succ _) (exo_ok he)
  exact ⟨rv, .ref (hp.objs.size + 1), H2, I2.call' (ch := []) os2 un2 hok2 bare2 (fun _ z => absurd z (by simp)), rfl, q2⟩
end
end
end ER

/-! ### errors held as values: isinstance, their fields, their making -/
namespace PySem.W
open PySem PySem.Spec PySem.Calls PyProof.Rows
section
variable {prog : Program} {w : World} {A : Around} {E : Value → Shared → Prop} {s : Shared} {K : Frag} {x D : Addr} {ox oD : Obj}
/-- e.__class__, e an instance with a dict of an own error class -/
theorem ev_class {Q : Option Value → Shared → Prop} (hga : findIn K (.ref D) "__getattribute__" = some (some (.builtin "BaseException.__getattribute__"))) (hgt : findIn K (.ref D) "__getattr__" = some none) (hsub : subIn K (.ref D) (.type "BaseException") = some true)
    (hdct : hasDictIn K D = true) (ha : findIn K (.ref D) "__class__" = some (some (.builtin "object.__class__")))
    (hn : specialIn K (.builtin "object.__class__") "__get__" = some (some (.builtin "getset_descriptor.__get__"))) (htk : takesIn K (.builtin "object.__class__") = some true) (hm : mroIn K D (.type "object") = some true)
    (X : K.In s.heap) (I : InstAt s.heap x ox D (some oD)) (h : Q (some (.ref D)) { s with toks := s.toks + 1 }) : wpAny (model prog w) A (getAttr? (.ref x) "__class__") Q E s := by
  have hf : findObj K D (some oD) "__class__" = some (.bind (.builtin "getset_descriptor.__get__") (.builtin "object.__class__")) := findObj_data (by obtain ⟨cd, hc, _⟩ := any_some hdct; rw [hc]; rfl) ha hn htk
  obtain ⟨hp, g, d, t, os⟩ := s
  have L0 := I.type (M := model prog w)
  have L1 := looks_findIn (M := model prog w) X hga
  have L2 := looks_findIn (M := model prog w) X hgt
  have L3 := looks_find (M := model prog w) X I hf
  have sub : Looks (model prog w) hp (isInstance (.ref x) (.type "BaseException")) true := L0.andThen (looks_subIn X hsub)
  have b2 : (Value.builtin "BaseException.__getattribute__" == Value.builtin "object.__getattribute__") = false := by decide +kernel
  have b1 : (onTheHeap (Value.ref D) && Value.builtin "BaseException.__getattribute__" == Value.builtin "object.__getattribute__") = false := by rw [b2]; rfl
  unfold getAttr? getAttrBy? getAttrBy
  refine wpAny_bind (wpAny_mkText (wpAny_bind (wpAny_attempt (wpAny_holding (wpAny_bind (L0.at (wpAny_bind (L1.at ?_))))))))
  show wpAny _ _ (if (onTheHeap (Value.ref D) && Value.builtin "BaseException.__getattribute__" == Value.builtin "object.__getattribute__") = true then _ else _) _ _ _
  rw [b1, if_neg Bool.false_ne_true]
  unfold getAttrByItsOwn hookBefore
  refine wpAny_bind ?_
  rw [if_pos (show onTheHeap (Value.ref D) = true from rfl)]
  refine L2.at ?_
  refine wpAny_bind (wpAny_attempt (wpAny_holding ?_))
  unfold callGetattribute
  rw [show (false && onTheHeap (Value.builtin "BaseException.__getattribute__")) = false from rfl, if_neg Bool.false_ne_true]
  unfold boundAndCalled
  rw [PySem.F.excAttr_ValueError.ga.bind (.ref x)]
  refine wpAny_bind (wpAny_pure ?_)
  show wpAny _ _ (call (.builtin "BaseException.__getattribute__") [.ref x, .str "__class__" t]) _ _ _
  refine wpAny_call (codeAny_call_builtin PySem.F.excAttr_ValueError.ga.plain PySem.F.entry_bexc_ga ?_)
  refine @check_slot (model prog w) _ _ ⟨hp, g, d, t + 1, os⟩ "BaseException.__getattribute__" "BaseException" "__getattribute__" (.ref x) [.str "__class__" t] [] _ (by decide +kernel) (by decide +kernel) sub (PySem.F.args_bexc_ga (.ref x) (.str "__class__" t)) ?_
  unfold Builtin.«object.__getattribute__»
  refine wpAny_bind (wpAny_of_eq (a := ((Value.ref x : Value), [Value.str "__class__" t])) (by first | rfl | (simp only [slotArgs]; rfl)) ?_)
  refine wpAny_bind (wpAny_pure (wpAny_bind (L0.at (wpAny_bind (L3.at ?_)))))
  show wpAny _ _ (holding [Value.builtin "object.__class__"] (call (.builtin "getset_descriptor.__get__") [.builtin "object.__class__", .ref x, .ref D]) >>= ret) _ _ _
  refine wpAny_bind (wpAny_holding (wpAny_call (class_get (s := ⟨hp, g, d, t + 1, os⟩) (ox := ox) (od := some oD) X I hm ?_)))
  refine wpAny_pure ?_
  show wpAny _ _ (handedOut (.ref D)) _ _ _
  rw [handedOut_of (v := .ref D) rfl]
  first
    | exact wpAny_pure (wpAny_pure h)
    | exact wpAny_pure h
    | exact wpAny_pure (wpAny_bind (wpAny_pure (wpAny_pure h)))
theorem ev_kitx (hga : findIn K (.ref D) "__getattribute__" = some (some (.builtin "BaseException.__getattribute__"))) (hgt : findIn K (.ref D) "__getattr__" = some none) (hsub : subIn K (.ref D) (.type "BaseException") = some true) (hdct : hasDictIn K D = true) (ha : findIn K (.ref D) "__class__" = some (some (.builtin "object.__class__")))
    (hn : specialIn K (.builtin "object.__class__") "__get__" = some (some (.builtin "getset_descriptor.__get__"))) (htk : takesIn K (.builtin "object.__class__") = some true) (hm : mroIn K D (.type "object") = some true) :
    KitX K (.ref x) (.ref D) (fun h => InstAt h x ox D (some oD)) :=
  let Z := handS_kitx_exc (x := x) (ox := ox) hga hgt hsub hdct ha hn htk hm
  { ty := fun _ _ _ I => I.type
    it := fun _ _ X _ => by
      obtain ⟨cdD, hcD, _⟩ := any_some hdct
      unfold clsIn at hcD
      split at hcD
      · rename_i ho
        intro A' Q' E' s' k q
        unfold isType loadHead
        exact wpAny_bind (wpAny_loadPart (k _ _ (X _ _ ho)) (wpAny_pure q))
      · cases hcD
    ne := Z.ne
    ca := fun X I k => ev_class hga hgt hsub hdct ha hn htk hm X I k }
end
end PySem.W
namespace L2.EV
open PySem PySem.Spec PyProof.Rows
/-- an error of the class at D, with a dict or without one -/
def ErrAt (H : Hp) (a D : Addr) : Prop := (∃ dx fs, H a = some (exo a D (some dx)) ∧ H dx = some (exd dx fs)) ∨ H a = some (ExO (.ref D) a)
/-- the class asked for -/
def KitV (K : PySem.W.Frag) (D : Addr) : V → Bool → Prop
  | .ref C, b => PySem.W.kitOne K (.ref D) (.ref C) = some b
  | .ty T, b => PySem.W.kitOne K (.ref D) (.type T) = some b
  | _, _ => False
section
variable {X : Cx}
def rIsV (K : PySem.W.Frag) : List V → Hp → VK → Prop := fun xs H Q => ∃ (a D : Addr) (c : V) (b : Bool), xs = [.ref a, c] ∧ ErrAt H a D ∧ ExcC K D ∧ KitV K D c b ∧ Q (.bl b) H
theorem call_isV : CallR X (.builtin "isinstance") (rIsV X.K) := by
  intro pins s σ H xs us Q I r h
  obtain ⟨a, D, c, b, rfl, he, C, hk, q⟩ := h
  obtain ⟨u1, u2, rfl, r1, r2⟩ := vals2 r
  cases (show u1 = Value.ref a from r1)
  have ek : ∃ cv, u2 = cv ∧ PySem.W.kitOne X.K (.ref D) cv = some b := by
    cases c with
    | ref C' => cases (show u2 = Value.ref C' from r2); exact ⟨_, rfl, hk⟩
    | ty T => cases (show u2 = Value.type T from r2); exact ⟨_, rfl, hk⟩
    | _ => exact hk.elim
  obtain ⟨cv, rfl, hk⟩ := ek
  rcases he with ⟨dx, fs, e, ed⟩ | e
  · obtain ⟨t1, ho⟩ := exo_at I.hok e
    obtain ⟨m, hn, _⟩ := exd_at I.hok ed
    obtain ⟨od, hod, _⟩ := lookIn_ns hn
    have J : PySem.W.InstAt s.heap a { cls := .ref D, dict := some dx, data := .fields #[.ref t1, .none, .none, .none, .bool false, .none] } D (some od) := ⟨ho, rfl, rfl, hod⟩
    exact PySem.W.kia_one (PySem.W.ev_kitx C.hg C.hk C.hs C.hd C.ha C.hn C.ht C.hm) I.kIn J hk (fun z => nomatch z) fun tk => ⟨.bl b, H, I.kept (t' := tk) fun _ _ z => z, rfl, q⟩
  · obtain ⟨⟨oe, vs, ho, hz, hd, _⟩, _⟩ := I.hok a _ e
    have J : PySem.W.InstAt s.heap a oe D none := by
      obtain ⟨oc, od, oda, osl⟩ := oe
      obtain ⟨h1, h2⟩ := hz
      dsimp only at h1 h2 hd
      subst h1 h2 hd
      exact ⟨ho, rfl, rfl, trivial⟩
    exact PySem.W.kia_one (PySem.W.handS_kitx_exc C.hg C.hk C.hs C.hd C.ha C.hn C.ht C.hm) I.kIn J hk (fun z => nomatch z) fun tk => ⟨.bl b, H, I.kept (t' := tk) fun _ _ z => z, rfl, q⟩
/-- e.f, e an error held as a value -/
def tFldV (K : PySem.W.Frag) (n : Str) (te : TE) : TE := fun σ H Q => te σ H fun x H1 => ∃ (a D dx : Addr) (fs : List (Str × V)) (v : V), x = .ref a ∧ H1 a = some (exo a D (some dx)) ∧ H1 dx = some (exd dx fs) ∧ XfC K D ∧ PySem.W.findIn K (.ref D) n = some none ∧ fs.lookup n = some v ∧ Q v H1
theorem pe_fldV {e : Expr} {te : TE} {pos : Pos} {n : Str} (he : PE X e te) (hb : attributeBase e n X.env (eval e X.env) = eval e X.env := by rfl) : PE X (.Attribute e n pos) (tFldV X.K n te) := by
  refine ⟨fun pins s σ H Q I h => ?_⟩
  refine attr_of hb (thn (he.run pins s σ H _ I h) fun u s1 hh => ?_)
  obtain ⟨x, H1, I1, rx, a, D, dx, fs, v, ex, ea, ed, T, hno, l, q⟩ := hh
  subst ex
  obtain rfl : u = Value.ref a := rx
  obtain ⟨t1, ho⟩ := exo_at I1.hok ea
  obtain ⟨mA, hns, hr⟩ := exd_at I1.hok ed
  obtain ⟨od, hod, hl⟩ := lookIn_ns hns
  obtain ⟨u, hu, ru⟩ := RelO.some_of (v := v) (o := mA n) (by rw [← l]; exact hr n)
  have J : PySem.W.InstAt s1.heap a { cls := .ref D, dict := some dx, data := .fields #[.ref t1, .none, .none, .none, .bool false, .none] } D (some od) := ⟨ho, rfl, rfl, hod⟩
  exact HandSPX.exc_get I1.kIn J T.ga T.gg T.exC (PySem.W.findObj_own T.hdC hno rfl (by rw [hl, hu])) (handed_of ru) ⟨v, H1, I1.tok _, ru, q⟩
end
/-- as a value: a new error with its dict -/
def tErrV (C : Addr) (f : V → List (Str × V)) (ta : TA) : TE := fun σ H Q => ta σ H fun vs H1 => ∃ v : V, vs.head? = some v ∧ vs.length ≤ 1000 ∧ ∀ (a dx : Addr) (H' : Hp), H1 a = none → H1 dx = none → Same H1 H' → H' a = some (exo a C (some dx)) → H' dx = some (exd dx (f v)) → Q (.ref a) H'
end L2.EV
namespace L2.EV
open PySem PySem.Spec PyProof.Rows
section
variable {K : PySem.W.Frag} {C D : Addr} {b b' : ER.BI}
theorem mro_own (T : ER.Own K D b) (v : Value) : PySem.W.mroIn K D v = some ((Value.ref D :: b.tl).contains v) := by
  obtain ⟨cd, h1, h2, _⟩ := T.cd
  unfold PySem.W.mroIn
  rw [h1, Option.bind_some, h2]
  rfl
/-- the line of a built-in class has no class of the module -/
def bare (b : ER.BI) : Prop := ∀ C : Addr, b.tl.contains (.ref C) = false
theorem kit_own (T : ER.Own K D b) (T' : ER.Own K C b') (hb : bare b) : PySem.W.kitOne K (.ref D) (.ref C) = some (decide (D = C)) := by
  obtain ⟨cd, h1, _, _⟩ := T'.cd
  unfold PySem.W.kitOne
  by_cases e : D = C
  · subst e
    rw [if_pos (beq_self_eq_true _), decide_eq_true rfl]
  · have n : (Value.ref D == Value.ref C) = false := by
      rw [beq_eq_false_iff_ne]
      exact fun z => e (Value.ref.inj z)
    rw [n, if_neg Bool.false_ne_true, decide_eq_false e]
    have e2 : ((PySem.W.clsIn K C).isSome && PySem.W.typeIn K (.ref C) == some (.type "type")) = true := by rw [h1, T'.tyC]; rfl
    show (if ((PySem.W.clsIn K C).isSome && PySem.W.typeIn K (.ref C) == some (.type "type")) = true then PySem.W.subIn K (.ref D) (.ref C) else none) = _
    rw [if_pos e2]
    show PySem.W.mroIn K D (.ref C) = _
    rw [mro_own T, List.contains_cons, hb C, Bool.or_false]
    have n2 : (Value.ref C == Value.ref D) = false := by
      rw [beq_eq_false_iff_ne]
      exact fun z => e (Value.ref.inj z).symm
    rw [n2]
theorem kit_base {t : String} (T : ER.Own K D b) (hm : PySem.W.kitMeta t = true) : PySem.W.kitOne K (.ref D) (.type t) = some (b.tl.contains (.type t)) := by
  unfold PySem.W.kitOne
  have n : (Value.ref D == Value.type t) = false := rfl
  rw [n, if_neg Bool.false_ne_true]
  show (if PySem.W.kitMeta t = true then PySem.W.subIn K (.ref D) (.type t) else none) = _
  rw [if_pos hm]
  show PySem.W.mroIn K D (.type t) = _
  rw [mro_own T, List.contains_cons]
  have n2 : (Value.type t == Value.ref D) = false := rfl
  rw [n2, Bool.false_or]
theorem excC_of (T : ER.Own K D b) (hc : PySem.W.findIn K (.ref D) "__class__" = some (some (.builtin "object.__class__"))) (ho : b.tl.contains (.type "object") = true) : ExcC K D :=
  ⟨T.ga, T.gg, T.exC, T.hdC, hc, by kernel_rfl, by kernel_rfl, by
    have e := mro_own T (.type "object")
    rw [List.contains_cons, ho, Bool.or_true] at e
    exact e⟩
end
end L2.EV
namespace L2.EV
open PySem PySem.Spec PyProof.Rows
/-- what is asked of the arguments may be said weaker -/
def tWk (ta : TA) : TA := fun σ H k => ∃ k', ta σ H k' ∧ ∀ vs H1, k' vs H1 → k vs H1
theorem pa_wk {X : Cx} {es : List Expr} {ta : TA} (ha : PA X es ta) : PA X es (tWk ta) := by
  refine ⟨fun pos pins s σ H Q I h => ?_⟩
  obtain ⟨k', h1, h2⟩ := h
  refine thn (ha.run pos pins s σ H _ I h1) fun us s1 ⟨vs, H1, I1, r, q⟩ => ⟨vs, H1, I1, r, h2 _ _ q⟩
/-- as a value: a new error with its dict -/
def tErr (C : Addr) (ws : V → List V) (f : V → List (Str × V)) (ta : TA) : TE := fun σ H Q => ta σ H fun vs H1 => ∃ v : V, vs = ws v ∧
  ∀ (a dx : Addr) (H' : Hp), H1 a = none → Same H1 H' → H' a = some (exo a C (some dx)) → H' dx = some (exd dx (f v)) → Q (.ref a) H'
section
variable {X : Cx} {C fI : Addr} {k : Nat} {fd : FuncData} {ps : List Str} {sp : Sp} {b : ER.BI} {x : Str} {e : Expr} {es : List Expr} {ta : TA} {p pos : Pos}
theorem pe_err (ws : V → List V) (f : V → List (Str × V)) (T : ER.Own X.K C b) (iC : PySem.W.findIn X.K (.ref C) "__init__" = some (some (.ref fI))) (tI : PySem.W.typeIn X.K (.ref fI) = some (.type "function")) (FI : FnOk X.prog X.w X.K X.mg X.base (fun _ _ _ _ _ _ => False) k fI fd ps sp) (hr : Room (k + 1) X.A) (hb : Binds X.K fd ps [])
    (hsp : ∀ (v : V) (a : Addr) (H1 : Hp) (G : V → Hp → Prop), H1 a = none → (∀ dx H', Same H1 H' → H' a = some (exo a C (some dx)) → H' dx = some (exd dx (f v)) → G .non H') → sp (.ref a :: (ws v ++ [])) (upd H1 a (exo a C none)) G (fun _ _ _ => False))
    (hws : ∀ v, (ws v).length ≤ 1000) (hg : Gl X x) (hm : X.mg x = some (.ref C)) (ha : PA X (e :: es) ta) (h2 : (x == ("__debug__" : Str)) = false := by decide)
    (he : starEach (e :: es) X.env = (false, eval e X.env) :: starEach es X.env := by rfl) (hp : (backTo pos (starEach es X.env)).any (·.1) = false := by rfl) : PE X (.Call (.Name x p) (e :: es) [] pos) (tErr C ws f ta) := by
  have P := ER.pe_own (p := p) (pos := pos) (ds := []) (dvs := []) T iC tI FI hr hb .nil (fun _ _ _ _ _ _ _ z => z.elim) hg hm (pa_wk ha) h2 he hp
  refine ⟨fun pins s σ H Q I h => P.run pins s σ H Q I ⟨_, h, fun vs H1 z => ?_⟩⟩
  obtain ⟨v, rfl, q⟩ := z
  exact ⟨hws v, fun a fa => hsp v a H1 _ fa fun dx H' s' e1 e2 => ⟨rfl, q a dx H' fa s' e1 e2⟩⟩
end
end L2.EV

namespace LawK02
open PySem L2
def top (i : Nat) : Stmt := PySem.Challenge.pw_deltaboughs_k02_refusals_made.main.body.getD i (.Pass ⟨0, 0, 0, 0⟩)
abbrev s_NoChain_init : Stmt := inClass (top 4) 0
abbrev s_NoPairs_init : Stmt := inClass (top 5) 0
abbrev s_NoSize_init : Stmt := inClass (top 6) 0
abbrev s_NoText_init : Stmt := inClass (top 7) 0
abbrev s_NoGoing_init : Stmt := inClass (top 8) 0
abbrev s_NoRoom_init : Stmt := inClass (top 9) 0
abbrev s_NoSlot_init : Stmt := inClass (top 10) 0
abbrev s_NoName_init : Stmt := inClass (top 11) 0
abbrev s_Twice_init : Stmt := inClass (top 12) 0
abbrev s_NotInside_init : Stmt := inClass (top 13) 0
abbrev s_NoKey_init : Stmt := inClass (top 14) 0
abbrev s_NoValue_init : Stmt := inClass (top 15) 0
abbrev s_NoWay_init : Stmt := inClass (top 16) 0
abbrev s_Idle_init : Stmt := inClass (top 17) 0
abbrev s_Busy_init : Stmt := inClass (top 18) 0
abbrev s_NotOpen_init : Stmt := inClass (top 19) 0
abbrev s_Full_init : Stmt := inClass (top 20) 0
abbrev s_TooMany_init : Stmt := inClass (top 21) 0
abbrev s_pool : Stmt := top 23
abbrev s_take : Stmt := top 24
abbrev s_made : Stmt := top 25
abbrev s_sorts : Stmt := top 26
abbrev s_above : Stmt := top 27
abbrev s_kept : Stmt := top 28
abbrev s_law : Stmt := top 29
abbrev n_NoChain_init : List Str := ["self", "room"]
abbrev n_NoPairs_init : List Str := ["self", "number"]
abbrev n_NoSize_init : List Str := ["self", "word"]
abbrev n_NoText_init : List Str := ["self", "row"]
abbrev n_NoGoing_init : List Str := ["self", "number"]
abbrev n_NoRoom_init : List Str := ["self", "room"]
abbrev n_NoSlot_init : List Str := ["self", "slot"]
abbrev n_NoName_init : List Str := ["self", "name"]
abbrev n_Twice_init : List Str := ["self", "name"]
abbrev n_NotInside_init : List Str := ["self", "name"]
abbrev n_NoKey_init : List Str := ["self", "key"]
abbrev n_NoValue_init : List Str := ["self", "value"]
abbrev n_NoWay_init : List Str := ["self", "slot", "key"]
abbrev n_Idle_init : List Str := ["self", "name"]
abbrev n_Busy_init : List Str := ["self", "name"]
abbrev n_NotOpen_init : List Str := ["self", "state"]
abbrev n_Full_init : List Str := ["self", "many"]
abbrev n_TooMany_init : List Str := ["self", "many"]
abbrev n_pool : List Str := ["_law_script", "_law_k", "_law_cell", "_law_seed"]
abbrev n_take : List Str := ["_law_pool_here", "_law_many", "_law_found"]
abbrev n_made : List Str := ["_law_way", "_law_value", "_law_some"]
abbrev n_sorts : List Str := ["_law_error", "_law_found"]
abbrev n_above : List Str := ["_law_error", "_law_found"]
abbrev n_kept : List Str := ["_law_way", "_law_error"]
abbrev n_law : List Str := ["_law_script", "_law_pool_here", "_law_way", "_law_value", "_law_error", "_law_due", "_law_saved", "_law_other", "_law_k"]
theorem sc_NoChain_init : FnScope n_NoChain_init ["self", "room"] (defScope s_NoChain_init) := ⟨rfl, rfl, rfl, by decide +kernel, rfl, by decide +kernel, by decide +kernel⟩
theorem sc_NoPairs_init : FnScope n_NoPairs_init ["self", "number"] (defScope s_NoPairs_init) := ⟨rfl, rfl, rfl, by decide +kernel, rfl, by decide +kernel, by decide +kernel⟩
theorem sc_NoSize_init : FnScope n_NoSize_init ["self", "word"] (defScope s_NoSize_init) := ⟨rfl, rfl, rfl, by decide +kernel, rfl, by decide +kernel, by decide +kernel⟩
theorem sc_NoText_init : FnScope n_NoText_init ["self", "row"] (defScope s_NoText_init) := ⟨rfl, rfl, rfl, by decide +kernel, rfl, by decide +kernel, by decide +kernel⟩
theorem sc_NoGoing_init : FnScope n_NoGoing_init ["self", "number"] (defScope s_NoGoing_init) := ⟨rfl, rfl, rfl, by decide +kernel, rfl, by decide +kernel, by decide +kernel⟩
theorem sc_NoRoom_init : FnScope n_NoRoom_init ["self", "room"] (defScope s_NoRoom_init) := ⟨rfl, rfl, rfl, by decide +kernel, rfl, by decide +kernel, by decide +kernel⟩
theorem sc_NoSlot_init : FnScope n_NoSlot_init ["self", "slot"] (defScope s_NoSlot_init) := ⟨rfl, rfl, rfl, by decide +kernel, rfl, by decide +kernel, by decide +kernel⟩
theorem sc_NoName_init : FnScope n_NoName_init ["self", "name"] (defScope s_NoName_init) := ⟨rfl, rfl, rfl, by decide +kernel, rfl, by decide +kernel, by decide +kernel⟩
theorem sc_Twice_init : FnScope n_Twice_init ["self", "name"] (defScope s_Twice_init) := ⟨rfl, rfl, rfl, by decide +kernel, rfl, by decide +kernel, by decide +kernel⟩
theorem sc_NotInside_init : FnScope n_NotInside_init ["self", "name"] (defScope s_NotInside_init) := ⟨rfl, rfl, rfl, by decide +kernel, rfl, by decide +kernel, by decide +kernel⟩
theorem sc_NoKey_init : FnScope n_NoKey_init ["self", "key"] (defScope s_NoKey_init) := ⟨rfl, rfl, rfl, by decide +kernel, rfl, by decide +kernel, by decide +kernel⟩
theorem sc_NoValue_init : FnScope n_NoValue_init ["self", "value"] (defScope s_NoValue_init) := ⟨rfl, rfl, rfl, by decide +kernel, rfl, by decide +kernel, by decide +kernel⟩
theorem sc_NoWay_init : FnScope n_NoWay_init ["self", "slot", "key"] (defScope s_NoWay_init) := ⟨rfl, rfl, rfl, by decide +kernel, rfl, by decide +kernel, by decide +kernel⟩
theorem sc_Idle_init : FnScope n_Idle_init ["self", "name"] (defScope s_Idle_init) := ⟨rfl, rfl, rfl, by decide +kernel, rfl, by decide +kernel, by decide +kernel⟩
theorem sc_Busy_init : FnScope n_Busy_init ["self", "name"] (defScope s_Busy_init) := ⟨rfl, rfl, rfl, by decide +kernel, rfl, by decide +kernel, by decide +kernel⟩
theorem sc_NotOpen_init : FnScope n_NotOpen_init ["self", "state"] (defScope s_NotOpen_init) := ⟨rfl, rfl, rfl, by decide +kernel, rfl, by decide +kernel, by decide +kernel⟩
theorem sc_Full_init : FnScope n_Full_init ["self", "many"] (defScope s_Full_init) := ⟨rfl, rfl, rfl, by decide +kernel, rfl, by decide +kernel, by decide +kernel⟩
theorem sc_TooMany_init : FnScope n_TooMany_init ["self", "many"] (defScope s_TooMany_init) := ⟨rfl, rfl, rfl, by decide +kernel, rfl, by decide +kernel, by decide +kernel⟩
theorem sc_pool : FnScope n_pool ["_law_script", "_law_k"] (defScope s_pool) := ⟨rfl, rfl, rfl, by decide +kernel, rfl, by decide +kernel, by decide +kernel⟩
theorem sc_take : FnScope n_take ["_law_pool_here", "_law_many"] (defScope s_take) := ⟨rfl, rfl, rfl, by decide +kernel, rfl, by decide +kernel, by decide +kernel⟩
theorem sc_made : FnScope n_made ["_law_way", "_law_value"] (defScope s_made) := ⟨rfl, rfl, rfl, by decide +kernel, rfl, by decide +kernel, by decide +kernel⟩
theorem sc_sorts : FnScope n_sorts ["_law_error"] (defScope s_sorts) := ⟨rfl, rfl, rfl, by decide +kernel, rfl, by decide +kernel, by decide +kernel⟩
theorem sc_above : FnScope n_above ["_law_error"] (defScope s_above) := ⟨rfl, rfl, rfl, by decide +kernel, rfl, by decide +kernel, by decide +kernel⟩
theorem sc_kept : FnScope n_kept ["_law_way", "_law_error"] (defScope s_kept) := ⟨rfl, rfl, rfl, by decide +kernel, rfl, by decide +kernel, by decide +kernel⟩
theorem sc_law : FnScope n_law ["_law_script"] (defScope s_law) := ⟨rfl, rfl, rfl, by decide +kernel, rfl, by decide +kernel, by decide +kernel⟩
/-- an error of the class at S is what «except S» names -/
theorem exm_self {K : PySem.W.Frag} {S : Addr} (h1 : PySem.W.subIn K (.ref S) (.type "BaseException") = some true) (h2 : PySem.W.isClsIn K S = true) (h3 : PySem.W.typeIn K (.ref S) = some (.type "type")) (h4 : PySem.W.subIn K (.ref S) (.ref S) = some true) :
    PySem.W.exmOne K (.ref S) (.ref S) = some true := by
  have e1 : (PySem.W.subIn K (.ref S) (.type "BaseException") == some true) = true := by rw [h1] <;> rfl
  have e2 : ((PySem.W.clsIn K S).isSome && PySem.W.typeIn K (.ref S) == some (.type "type")) = true := by
    have h2' : (PySem.W.clsIn K S).isSome = true := h2
    rw [h2', h3] <;> rfl
  show (if (PySem.W.subIn K (.ref S) (.type "BaseException") == some true) = true then (if ((PySem.W.clsIn K S).isSome && PySem.W.typeIn K (.ref S) == some (.type "type")) = true then PySem.W.subIn K (.ref S) (.ref S) else none) else none) = some true
  rw [if_pos e1, if_pos e2]
  exact h4
theorem exm_pair {K : PySem.W.Frag} {S C : Addr} {b : Bool} (h1 : PySem.W.subIn K (.ref S) (.type "BaseException") = some true) (h2 : PySem.W.isClsIn K S = true) (h3 : PySem.W.typeIn K (.ref S) = some (.type "type")) (h4 : PySem.W.subIn K (.ref C) (.ref S) = some b) :
    PySem.W.exmOne K (.ref C) (.ref S) = some b := by
  have e1 : (PySem.W.subIn K (.ref S) (.type "BaseException") == some true) = true := by rw [h1] <;> rfl
  have e2 : ((PySem.W.clsIn K S).isSome && PySem.W.typeIn K (.ref S) == some (.type "type")) = true := by
    have h2' : (PySem.W.clsIn K S).isSome = true := h2
    rw [h2', h3] <;> rfl
  show (if (PySem.W.subIn K (.ref S) (.type "BaseException") == some true) = true then (if ((PySem.W.clsIn K S).isSome && PySem.W.typeIn K (.ref S) == some (.type "type")) = true then PySem.W.subIn K (.ref C) (.ref S) else none) else none) = some b
  rw [if_pos e1, if_pos e2]
  exact h4

/-! ### a cut: what stands between a statement and the rest, said once -/
structure Cut (t u : TS) (D : Ends) (σ : St) (H : Hp) : Prop where
  ex : ∃ Mid : St → Hp → Prop, t { D with nx := Mid } σ H ∧ ∀ σ' H', Mid σ' H' → u D σ' H'
theorem cutAt {X : Cx} {st : Stmt} {rest : List Stmt} {t u : TS} (h1 : PS X st t) (h2 : PSs X rest u) : PSs X (st :: rest) (Cut t u) := by
  constructor
  intro pins s σ H D I h
  obtain ⟨Mid, a, b⟩ := h.ex
  apply wpAny_execs_cons
  refine thn (h1.run pins s σ H { D with nx := Mid } I a) ?_
  intro f s1 q
  match f, q with
  | .next, ⟨σ', H', I', m⟩ => exact h2.run pins s1 σ' H' D I' (b σ' H' m)
  | .ret _, q => exact q
  | .brk, q => exact q
  | .cont, q => exact q
theorem un_upd {H : Hp} {a b : Addr} {o : HO} (h : upd H a o b = none) : b ≠ a ∧ H b = none := by
  have n : b ≠ a := fun e => by rw [e, upd_same] at h; cases h
  exact ⟨n, by rwa [upd_ne n] at h⟩
theorem same_upd {H H' : Hp} {a : Addr} {o : HO} (s : Same H H') (h : H a = none) : Same H (upd H' a o) := fun b u e => by
  rw [upd_ne (ne_of_none e h)]; exact s b u e
theorem same_new {H : Hp} {a : Addr} {o : HO} (h : H a = none) : Same H (upd H a o) := same_upd (Same.refl H) h
/-- d[k] = v as one of several targets -/
theorem set_dict {X : Cx} (hu : X.A.units + 1 < cLine) : PSet X (fun o i v H Q => ∃ a H', o = .ref a ∧ DPut H a i v H' ∧ Q H') := by
  intro pins s σ H o i v ov iv u Q I ro ri rv h
  obtain ⟨a, H', rfl, g, q⟩ := h
  cases ro
  exact d_setItem hu I g ri rv fun s' J => ⟨H', J, q⟩
/-- behind i turns of a comprehension that touches nothing that stood: S i is what stands in the new list -/
structure CP (H1 : Hp) (D : Addr) (S : Nat → List V) (i : Nat) (H : Hp) : Prop where
  fr : H1 D = none
  sm : Same H1 H
  at_ : H D = some (.lst (S i))
section
variable {H1 H H' : Hp} {D : Addr} {S : Nat → List V} {i : Nat} {y : V}
theorem CP.start (hD : H1 D = none) (h0 : S 0 = []) : CP H1 D S 0 (upd H1 D (.lst [])) := ⟨hD, same_new hD, by rw [h0]; exact upd_same⟩
theorem CP.push (c : CP H1 D S i H) (s : Same H H') (e : S (i + 1) = S i ++ [y]) : CP H1 D S (i + 1) (upd H' D (.lst (S i ++ [y]))) :=
  ⟨c.fr, same_upd (c.sm.trans s) c.fr, by rw [e]; exact upd_same⟩
theorem CP.skip (c : CP H1 D S i H) (s : Same H H') (e : S (i + 1) = S i) : CP H1 D S (i + 1) H' := ⟨c.fr, c.sm.trans s, by rw [e]; exact s _ _ c.at_⟩
end
theorem Paired.at {α β : Type} {F : α → β → Prop} : ∀ {l : List α} {r : List β} {i : Nat} {x : α}, Paired F l r → l[i]? = some x → ∃ y, r[i]? = some y ∧ F x y
  | _, _, _, _, .nil, e => by simp at e
  | _, _, 0, _, .cons f _, e => by simp at e; subst e; exact ⟨_, rfl, f⟩
  | _, _, i + 1, x, .cons _ t, e => by
    obtain ⟨y, e1, e2⟩ := Paired.at (i := i) (x := x) t (by simpa using e)
    exact ⟨y, by simpa using e1, e2⟩
theorem take_snoc {α : Type} {l : List α} {i : Nat} {x : α} (h : l[i]? = some x) : l.take (i + 1) = l.take i ++ [x] := by
  rw [List.take_add_one, h]; rfl
/-! ### places where a reading is taken up by hand: "go" stops there -/
structure Wrap (p : Prop) : Prop where
  ex : p
theorem pi_w {X : Cx} {tg iter : Expr} {wi : TI} (h : PI X tg iter wi) : PI X tg iter (fun σ H R => wi σ H fun J H1 => Wrap (R J H1)) := by
  refine ⟨fun pins s σ H R I hw => ?_⟩
  refine thn (h.run pins s σ H _ I hw) fun v s1 a => thn a fun itv s2 b => ?_
  obtain ⟨it, fp, tn, J, H', e, I2, T, st, f, r⟩ := b
  exact ⟨it, fp, tn, J, H', e, I2, T, st, f, r.ex⟩
theorem pe_lk {X : Cx} {e : Expr} {t : TE} (h : PE X e t) : PE X e (fun σ H Q => Wrap (tLockE t σ H Q)) :=
  ⟨fun pins s σ H Q I hw => (pe_lock h).run pins s σ H Q I hw.ex⟩
theorem ps_lk {X : Cx} {st : Stmt} {t : TS} (h : PS X st t) : PS X st (fun D σ H => Wrap (tLock t D σ H)) :=
  ⟨fun pins s σ H D I hw => (ps_lock h).run pins s σ H D I hw.ex⟩
/-! ### within a comprehension's block: what is read is said over the def's own context -/
theorem viaE {X : Cx} {e : Expr} {t t' : TE} (h : PE X e t) (q : t = t') : PE X e t' := q ▸ h
theorem viaT {X : Cx} {es : List Expr} {t t' : TT} (h : PTs X es t) (q : t = t') : PTs X es t' := q ▸ h
theorem viaG {X : Cx} {e : Expr} {t t' : TG} (h : PG X e t) (q : t = t') : PG X e t' := q ▸ h
theorem then_ {c : Bool} {A B : Prop} (h : c = true) (a : A) : if c = true then A else B := by rw [if_pos h]; exact a
theorem else_ {c : Bool} {A B : Prop} (h : c = false) (b : B) : if c = true then A else B := by rw [h]; exact b
theorem by2 {c : Bool} {A B : Prop} (h1 : c = true → A) (h2 : c = false → B) : if c = true then A else B := by
  cases c with
  | true => exact h1 rfl
  | false => exact h2 rfl
theorem fm_yes {α β : Type} {ws : List α} {f : α → Bool} {g : α → β} {j : Nat} {x : α} (h : ws[j]? = some x) (c : f x = true) : ((ws.take (j + 1)).filter f).map g = ((ws.take j).filter f).map g ++ [g x] := by
  rw [take_snoc h, List.filter_append, List.map_append, List.filter_cons, if_pos c]; rfl
theorem fm_no {α β : Type} {ws : List α} {f : α → Bool} {g : α → β} {j : Nat} {x : α} (h : ws[j]? = some x) (c : f x = false) : ((ws.take (j + 1)).filter f).map g = ((ws.take j).filter f).map g := by
  rw [take_snoc h, List.filter_append, List.map_append, List.filter_cons, if_neg (by simp [c])]
  show _ ++ [] = _; rw [List.append_nil]
theorem Paired.snoc {α β : Type} {F : α → β → Prop} : ∀ {l : List α} {r : List β} {x : α} {y : β}, Paired F l r → F x y → Paired F (l ++ [x]) (r ++ [y])
  | _, _, _, _, .nil, f => .cons f .nil
  | _, _, _, _, .cons g t, f => .cons g (Paired.snoc t f)
theorem walk_upto {n : Nat} : Walk (Itr 0 n) n (fun _ => True) (YFn fun i => .int (i : Nat)) :=
  walk_range.mono (fun _ h => h) fun i H x H' _ _ h => by
    obtain ⟨h1, h2⟩ := h
    refine ⟨h1, h2.trans ?_⟩
    show V.int (0 + (i : Int)) = V.int i
    rw [Int.zero_add]
/-- an if whose test comes out as b, the heap as it was -/
theorem ifS {tc : TT} {t u : TS} {D : Ends} {σ : St} {H : Hp} (b : Bool) (h : ∀ Q : Bool → Hp → Prop, Q b H → tc σ H Q) (h1 : b = true → t D σ H) (h2 : b = false → u D σ H) : tIfS tc t u D σ H :=
  h _ (by
    cases b with
    | true => exact h1 rfl
    | false => exact h2 rfl)
theorem andQ {a b : Bool} {Q : Bool → Hp → Prop} {H : Hp} {u : Prop} (h : Q (a && b) H) (hu : a = true → Q b H → u) : if a = true then u else Q false H := by
  cases a with
  | true => exact hu rfl h
  | false => exact h
theorem dec_v {i j : Int} : decide (V.int i = V.int j) = decide (i = j) := by simp
theorem map_set_same {α β : Type} {l : List α} {j : Nat} {x y : α} {f : α → β} (h : l[j]? = some x) (e : f y = f x) : (l.set j y).map f = l.map f := by
  apply List.ext_getElem?
  intro n
  rw [List.getElem?_map, List.getElem?_map, List.getElem?_set]
  by_cases c : j = n
  · subst c
    obtain ⟨hl, _⟩ := List.getElem?_eq_some_iff.mp h
    rw [if_pos rfl, if_pos hl, h]
    exact congrArg some e
  · rw [if_neg c]
/-! ### a dict that a call has made, walked: it is locked once it stands, and never let go -/
def tSeal (t : TE) : TE := fun σ H Q => t σ H fun x H1 => ∃ d kvs, x = .ref d ∧ H1 d = some (.dK kvs) ∧ ∀ od, Q x (upd H1 d (.frz od (.dK kvs)))
theorem pe_seal {X : Cx} {e : Expr} {t : TE} (h : PE X e t) : PE X e (tSeal t) := by
  refine ⟨fun pins s σ H Q I hw => ?_⟩
  refine thn (h.run pins s σ H _ I hw) fun v s1 ⟨x, H1, I1, r, d, kvs, ex, hd, q⟩ => ?_
  obtain ⟨od, I2⟩ := I1.lock hd True.intro
  exact ⟨x, _, I2, r, q od⟩
theorem viaS {X : Cx} {l : List Stmt} {t t' : TS} (h : PSs X l t) (q : t = t') : PSs X l t' := q ▸ h

/-! ### tactics: "arith" and "fact" close a side condition, "hp" looks an object up, "ne" parts two addresses, "go" steps through a reading as far as equations and known facts lead -/
local macro_rules | `(tactic| walk_at "arith") => `(tactic| first
  | omega
  | (dsimp only; omega)
  | exact Nat.le_of_ble_eq_true rfl
  | decide
  | exact ⟨by omega, by omega⟩
  | exact Or.inl ⟨by omega, by omega⟩
  | exact Or.inr ⟨by omega, by omega⟩
  | exact ⟨by omega, by omega, by omega, by omega⟩)
local macro_rules | `(tactic| walk_at "ne") => `(tactic| first
  | (with_reducible assumption)
  | (apply Ne.symm; with_reducible assumption)
  | exact ne_of_none (by assumption) (by assumption)
  | exact Ne.symm (ne_of_none (by assumption) (by assumption)))
local macro_rules | `(tactic| walk_at "hp") => `(tactic| first
  | (with_reducible assumption)
  | (with_reducible exact upd_same)
  | ((with_reducible apply Eq.trans (upd_ne (by walk_at "ne"))); walk_at "hp"))
local macro_rules | `(tactic| walk_at "fact") => `(tactic| first
  | apply Eq.refl
  | (with_reducible assumption)
  | ((with_reducible apply SqL.of); walk_at "hp")
  | ((with_reducible apply SqT.of); walk_at "hp")
  | ((with_reducible apply Or.inl); (with_reducible apply SqL.of); walk_at "hp")
  | ((with_reducible apply Or.inr); (with_reducible apply SqT.of); walk_at "hp")
  | walk_at "hp"
  | ((with_reducible apply Rd.of); walk_at "hp")
  | ((with_reducible show tyV _ _ _ _); exact Or.inl ⟨rfl, _, SqL.of (by walk_at "hp")⟩)
  | ((with_reducible show tyV _ _ _ _); exact Or.inr (Or.inr (Or.inl ⟨rfl, Or.inl ⟨_, by walk_at "hp"⟩⟩)))
  | ((with_reducible show IsD _ _); exact Or.inl ⟨_, Or.inl (by walk_at "hp")⟩)
  | ((with_reducible show SqL _ _ _ _); assumption)
  | ((with_reducible show SqT _ _ _ _); assumption)
  | ((with_reducible show SqL _ _ _ _ ∨ _); apply Or.inl; assumption)
  | ((with_reducible show SqL _ _ _ _ ∨ _); apply Or.inr; assumption)
  | ((with_reducible show ∃ xs, SqL _ _ _ xs); apply Exists.intro; first | (apply SqL.of; walk_at "hp") | assumption)
  | ((with_reducible show ∃ xs, SqT _ _ _ xs); apply Exists.intro; first | (apply SqT.of; walk_at "hp") | assumption)
  | walk_at "arith"
  | assumption)
local macro_rules | `(tactic| walk_at "go1") => `(tactic| first
  | apply Exists.intro
  | (apply And.intro; focus (walk_at "fact")))
local macro_rules | `(tactic| walk_at "go") => `(tactic| repeat (walk_at "go1"))
local macro_rules | `(tactic| walk_at "x_then") => `(tactic| ((with_reducible refine then_ ?_ ?_); focus (first | rfl | assumption | (simp; done))))
local macro_rules | `(tactic| walk_at "x_else") => `(tactic| ((with_reducible refine else_ ?_ ?_); focus (first | rfl | assumption | (simp; done))))

/-! ### data that == looks at, flat -/
theorem dp_ints {K : PySem.W.Frag} {H : Hp} : ∀ ns : List Int, DpAll K H (ns.map V.int) (ns.map PyData.int)
  | [] => .nil
  | n :: r => .cons (.int n) (dp_ints r)
theorem lay_ints : ∀ ns : List Int, PyData.canLayAll0 (ns.map PyData.int) = true ∧ PyData.depthAll (ns.map PyData.int) = 0
  | [] => ⟨rfl, rfl⟩
  | n :: r => by
    obtain ⟨a, b⟩ := lay_ints r
    rw [List.map_cons, PyData.canLayAll0, PyData.depthAll, a, b]
    exact ⟨rfl, rfl⟩
theorem shaped_ints (ns : List Int) : SeqAt.shaped (.list (ns.map PyData.int)) = true := by
  obtain ⟨a, b⟩ := lay_ints ns
  unfold SeqAt.shaped
  rw [PyData.canLay0, PyData.depth, a, b]
  rfl
theorem can_ints (ns : List Int) : (PyData.list (ns.map PyData.int)).canLay0 = true := by
  rw [PyData.canLay0, (lay_ints ns).1]
/-! ### dicts: an entry at its place -/
section
variable {κ : Type} [DecidableEq κ]
theorem valV_at : ∀ {kvs : List (κ × V)} {j : Nat} {kv : κ × V}, (kvs.map (·.1)).Nodup → kvs[j]? = some kv → valV kvs kv.1 = some kv.2
  | [], _, _, _, h => by simp at h
  | p :: r, 0, kv, _, h => by
    have e : p = kv := Option.some.inj h
    subst e; exact valV_pos rfl
  | p :: r, j + 1, kv, nd, h => by
    have nd' : p.1 ∉ r.map (·.1) ∧ (r.map (·.1)).Nodup := List.nodup_cons.mp nd
    have h' : r[j]? = some kv := by simpa using h
    have ne : ¬ p.1 = kv.1 := fun e => nd'.1 (by rw [e]; exact List.mem_map_of_mem (List.mem_of_getElem? h'))
    rw [valV_neg ne]; exact valV_at nd'.2 h'
theorem valV_of_not {kvs : List (κ × V)} {k : κ} (h : k ∉ kvs.map (·.1)) : valV kvs k = none := by
  cases e : valV kvs k with
  | none => rfl
  | some v => exact (h (valV_in e)).elim
theorem putK_at {kvs : List (κ × V)} {j : Nat} {kv : κ × V} (v : V) (nd : (kvs.map (·.1)).Nodup) (h : kvs[j]? = some kv) : putK kvs kv.1 v = kvs.set j (kv.1, v) := by
  unfold putK
  rw [if_pos (by rw [valV_any, valV_at nd h]; rfl)]
  apply List.ext_getElem?
  intro i
  rw [List.getElem?_map, List.getElem?_set]
  by_cases e : j = i
  · subst e
    have hl : j < kvs.length := (List.getElem?_eq_some_iff.mp h).1
    rw [if_pos rfl, if_pos hl, h]; simp
  · rw [if_neg e]
    cases hi : kvs[i]? with
    | none => rfl
    | some x =>
      have ne : ¬ x.1 = kv.1 := fun q => e (nd_ix (l := kvs.map (·.1)) (x := kv.1) nd (by rw [List.getElem?_map, h]; rfl) (by rw [List.getElem?_map, hi]; exact congrArg some q))
      simp [ne]
end

def spErr (C : Addr) (f : Str) : Sp := fun vs H Q _ => ∃ (a : Addr) (v : V), vs = [.ref a, v] ∧ H a = some (exo a C none) ∧ ∀ dx, H dx = none → dx ≠ a → Q .non (upd (upd H dx (exd dx [(f, v)])) a (exo a C (some dx)))
def spErr2 (C : Addr) (f g : Str) : Sp := fun vs H Q _ => ∃ (a : Addr) (v z : V), vs = [.ref a, v, z] ∧ H a = some (exo a C none) ∧ ∀ dx, H dx = none → dx ≠ a → Q .non (upd (upd (upd H dx (exd dx [(f, v)])) a (exo a C (some dx))) dx (exd dx [(g, z), (f, v)]))
theorem hsp1 (C : Addr) (f : Str) (v : V) (a : Addr) (H1 : Hp) (G : V → Hp → Prop) (fa : H1 a = none) (k : ∀ dx H', Same H1 H' → H' a = some (exo a C (some dx)) → H' dx = some (exd dx [(f, v)]) → G .non H') : spErr C f (.ref a :: ([v] ++ [])) (upd H1 a (exo a C none)) G (fun _ _ _ => False) := by
  refine ⟨a, v, rfl, upd_same, fun dx hd ne => k dx _ ?_ upd_same (by rw [upd_ne ne]; exact upd_same)⟩
  rw [upd_ne ne] at hd
  exact same_upd (same_upd (same_new fa) hd) fa
theorem hsp2 (C : Addr) (f g : Str) (z v : V) (a : Addr) (H1 : Hp) (G : V → Hp → Prop) (fa : H1 a = none) (k : ∀ dx H', Same H1 H' → H' a = some (exo a C (some dx)) → H' dx = some (exd dx [(g, z), (f, v)]) → G .non H') : spErr2 C f g (.ref a :: ([v, z] ++ [])) (upd H1 a (exo a C none)) G (fun _ _ _ => False) := by
  refine ⟨a, v, z, rfl, upd_same, fun dx hd ne => k dx _ ?_ (by rw [upd_ne ne.symm]; exact upd_same) upd_same⟩
  rw [upd_ne ne] at hd
  exact same_upd (same_upd (same_upd (same_new fa) hd) fa) hd

/-! ### the drawing: a pool is a list of two numbers; what is drawn is below what is asked -/
def PoolAt (H : Hp) (q : Addr) : Prop := ∃ c s : Int, H q = some (.lst [.int c, .int s]) ∧ 0 ≤ c ∧ 0 ≤ s ∧ s < 2147483648
def spPool (K : PySem.W.Frag) : Sp := fun vs H Q _ => ∃ (a : Addr) (ns : List Int) (k : Nat), vs = [.ref a, .int k] ∧ SqL K H a (ns.map V.int) ∧ ns.length ≤ 63 ∧ k ≤ 63 ∧
  ∀ (p : Addr) (c s : Int), H p = none → 0 ≤ c → 0 ≤ s → s < 2147483648 → Q (.ref p) (upd H p (.lst [.int c, .int s]))
def spTake : Sp := fun vs H Q _ => ∃ (q : Addr) (m : Int), vs = [.ref q, .int m] ∧ PoolAt H q ∧ 0 < m ∧ m < 1073741824 ∧
  ∀ (r c s : Int), 0 ≤ r → r < m → 0 ≤ c → 0 ≤ s → s < 2147483648 → Q (.int r) (upd H q (.lst [.int c, .int s]))

/-! ### records as data: the mirror in plain Lean -/
def tyD : PyData → String
  | .none => "NoneType"
  | .bool _ => "bool"
  | .int _ => "int"
  | .str _ => "str"
  | .list _ => "list"
  | .tuple _ => "tuple"
  | .dict _ => "dict"
def isD (T : String) (d : PyData) : Bool := tyD d == T || (T == "int" && tyD d == "bool")
def nonD : PyData → Bool
  | .none => true
  | _ => false
def wholeD : PyData → Bool
  | .int _ => true
  | _ => false
def keyD : PyData → Bool
  | .int i => decide (0 ≤ i) && decide (i ≤ 999999)
  | _ => false
def numD : PyData → Bool
  | .int i => decide (0 ≤ i)
  | _ => false
def okT (T : String) : Bool := T == "int" || T == "bool" || T == "tuple" || T == "str" || T == "dict" || T == "list"
theorem kit_isD {K : PySem.W.Frag} {T : String} (h : okT T = true) (d : PyData) : PySem.W.kitOne K (.type (tyD d)) (.type T) = some (isD T d) := by
  have c : T = "int" ∨ T = "bool" ∨ T = "tuple" ∨ T = "str" ∨ T = "dict" ∨ T = "list" := by
    unfold okT at h
    simpa [or_assoc] using h
  rcases c with rfl | rfl | rfl | rfl | rfl | rfl <;> cases d <;> exact kit_ty (by dsimp only [isD, tyD]; decide +kernel)
theorem tyX_of {K : PySem.W.Frag} {H : Hp} {v : V} {d : PyData} (h : Dp K H v d) : TyX K H v (.type (tyD d)) := by
  cases h with
  | non => exact .base .non
  | bl b => exact .base (.bl b)
  | int i => exact .base (.int i)
  | str x => exact .base (.str x)
  | lst hs _ =>
    rcases hs with (e | ⟨o, e⟩) | ⟨o, _, _, e, c, _⟩
    · exact .base (.lst e)
    · exact .base (.frz e)
    · exact .kList e c
  | tup hs _ =>
    rcases hs with (e | ⟨o, e⟩) | ⟨o, _, _, e, c, _⟩
    · exact .base (.tup e)
    · exact .fTuple e
    · exact .kTuple e c
/-- isinstance(x, T), x data, T a built-in class -/
def rIsD (K : PySem.W.Frag) : List V → Hp → VK → Prop := fun xs H Q => ∃ (x : V) (T : String) (d : PyData), xs = [x, .ty T] ∧ okT T = true ∧ Dp K H x d ∧ Q (.bl (isD T d)) H
theorem call_isD {X : Cx} : CallR X (.builtin "isinstance") (rIsD X.K) := by
  intro pins s σ H xs us Q I r h
  obtain ⟨x, T, d, rfl, hT, hd, q⟩ := h
  exact call_isi pins s σ H _ us Q I r ⟨x, .ty T, _, _, _, rfl, .ty T, tyX_of hd, kit_isD hT d, q⟩
theorem sqT_same {K : PySem.W.Frag} {H H' : Hp} {a : Addr} {xs : List V} (s : Same H H') (h : SqT K H a xs) : SqT K H' a xs := by
  rcases h with (e | ⟨o, e⟩) | e
  · exact .inl (.inl (s _ _ e))
  · exact .inl (.inr ⟨o, s _ _ e⟩)
  · exact .inr e

structure Adr where
  (a_NoChain_init a_NoPairs_init a_NoSize_init a_NoText_init a_NoGoing_init a_NoRoom_init a_NoSlot_init a_NoName_init a_Twice_init a_NotInside_init a_NoKey_init a_NoValue_init a_NoWay_init a_Idle_init a_Busy_init a_NotOpen_init a_Full_init a_TooMany_init a_pool a_take a_made a_sorts a_above a_kept a_law : Addr)
  (d_NoChain_init d_NoPairs_init d_NoSize_init d_NoText_init d_NoGoing_init d_NoRoom_init d_NoSlot_init d_NoName_init d_Twice_init d_NotInside_init d_NoKey_init d_NoValue_init d_NoWay_init d_Idle_init d_Busy_init d_NotOpen_init d_Full_init d_TooMany_init d_pool d_take d_made d_sorts d_above d_kept d_law : FuncData)
  (c_NoChain c_NoPairs c_NoSize c_NoText c_NoGoing c_NoRoom c_NoSlot c_NoName c_Twice c_NotInside c_NoKey c_NoValue c_NoWay c_Idle c_Busy c_NotOpen c_Full c_TooMany c_NoRecord c_Unsound c_NoRow : Addr)
structure Txt (w : World) (K : PySem.W.Frag) (mg : Str → Option Value) (A : Adr) : Prop where
  F_NoChain_init : Fun K "__init__" "NoChain.__init__" s_NoChain_init A.a_NoChain_init A.d_NoChain_init
  b_NoChain_init : Binds K A.d_NoChain_init ["self", "room"] []
  ow_NoChain : ER.Own K A.c_NoChain ER.iV
  mg_NoChain : mg "NoChain" = some (.ref A.c_NoChain)
  ic_NoChain : PySem.W.findIn K (.ref A.c_NoChain) "__init__" = some (some (.ref A.a_NoChain_init))
  ti_NoChain : PySem.W.typeIn K (.ref A.a_NoChain_init) = some (.type "function")
  no_NoChain_room : PySem.W.findIn K (.ref A.c_NoChain) "room" = some none
  F_NoPairs_init : Fun K "__init__" "NoPairs.__init__" s_NoPairs_init A.a_NoPairs_init A.d_NoPairs_init
  b_NoPairs_init : Binds K A.d_NoPairs_init ["self", "number"] []
  ow_NoPairs : ER.Own K A.c_NoPairs ER.iV
  mg_NoPairs : mg "NoPairs" = some (.ref A.c_NoPairs)
  ic_NoPairs : PySem.W.findIn K (.ref A.c_NoPairs) "__init__" = some (some (.ref A.a_NoPairs_init))
  ti_NoPairs : PySem.W.typeIn K (.ref A.a_NoPairs_init) = some (.type "function")
  no_NoPairs_number : PySem.W.findIn K (.ref A.c_NoPairs) "number" = some none
  F_NoSize_init : Fun K "__init__" "NoSize.__init__" s_NoSize_init A.a_NoSize_init A.d_NoSize_init
  b_NoSize_init : Binds K A.d_NoSize_init ["self", "word"] []
  ow_NoSize : ER.Own K A.c_NoSize ER.iV
  mg_NoSize : mg "NoSize" = some (.ref A.c_NoSize)
  ic_NoSize : PySem.W.findIn K (.ref A.c_NoSize) "__init__" = some (some (.ref A.a_NoSize_init))
  ti_NoSize : PySem.W.typeIn K (.ref A.a_NoSize_init) = some (.type "function")
  no_NoSize_word : PySem.W.findIn K (.ref A.c_NoSize) "word" = some none
  F_NoText_init : Fun K "__init__" "NoText.__init__" s_NoText_init A.a_NoText_init A.d_NoText_init
  b_NoText_init : Binds K A.d_NoText_init ["self", "row"] []
  ow_NoText : ER.Own K A.c_NoText ER.iV
  mg_NoText : mg "NoText" = some (.ref A.c_NoText)
  ic_NoText : PySem.W.findIn K (.ref A.c_NoText) "__init__" = some (some (.ref A.a_NoText_init))
  ti_NoText : PySem.W.typeIn K (.ref A.a_NoText_init) = some (.type "function")
  no_NoText_row : PySem.W.findIn K (.ref A.c_NoText) "row" = some none
  F_NoGoing_init : Fun K "__init__" "NoGoing.__init__" s_NoGoing_init A.a_NoGoing_init A.d_NoGoing_init
  b_NoGoing_init : Binds K A.d_NoGoing_init ["self", "number"] []
  ow_NoGoing : ER.Own K A.c_NoGoing ER.iV
  mg_NoGoing : mg "NoGoing" = some (.ref A.c_NoGoing)
  ic_NoGoing : PySem.W.findIn K (.ref A.c_NoGoing) "__init__" = some (some (.ref A.a_NoGoing_init))
  ti_NoGoing : PySem.W.typeIn K (.ref A.a_NoGoing_init) = some (.type "function")
  no_NoGoing_number : PySem.W.findIn K (.ref A.c_NoGoing) "number" = some none
  F_NoRoom_init : Fun K "__init__" "NoRoom.__init__" s_NoRoom_init A.a_NoRoom_init A.d_NoRoom_init
  b_NoRoom_init : Binds K A.d_NoRoom_init ["self", "room"] []
  ow_NoRoom : ER.Own K A.c_NoRoom ER.iI
  mg_NoRoom : mg "NoRoom" = some (.ref A.c_NoRoom)
  ic_NoRoom : PySem.W.findIn K (.ref A.c_NoRoom) "__init__" = some (some (.ref A.a_NoRoom_init))
  ti_NoRoom : PySem.W.typeIn K (.ref A.a_NoRoom_init) = some (.type "function")
  no_NoRoom_room : PySem.W.findIn K (.ref A.c_NoRoom) "room" = some none
  F_NoSlot_init : Fun K "__init__" "NoSlot.__init__" s_NoSlot_init A.a_NoSlot_init A.d_NoSlot_init
  b_NoSlot_init : Binds K A.d_NoSlot_init ["self", "slot"] []
  ow_NoSlot : ER.Own K A.c_NoSlot ER.iI
  mg_NoSlot : mg "NoSlot" = some (.ref A.c_NoSlot)
  ic_NoSlot : PySem.W.findIn K (.ref A.c_NoSlot) "__init__" = some (some (.ref A.a_NoSlot_init))
  ti_NoSlot : PySem.W.typeIn K (.ref A.a_NoSlot_init) = some (.type "function")
  no_NoSlot_slot : PySem.W.findIn K (.ref A.c_NoSlot) "slot" = some none
  F_NoName_init : Fun K "__init__" "NoName.__init__" s_NoName_init A.a_NoName_init A.d_NoName_init
  b_NoName_init : Binds K A.d_NoName_init ["self", "name"] []
  ow_NoName : ER.Own K A.c_NoName ER.iK
  mg_NoName : mg "NoName" = some (.ref A.c_NoName)
  ic_NoName : PySem.W.findIn K (.ref A.c_NoName) "__init__" = some (some (.ref A.a_NoName_init))
  ti_NoName : PySem.W.typeIn K (.ref A.a_NoName_init) = some (.type "function")
  no_NoName_name : PySem.W.findIn K (.ref A.c_NoName) "name" = some none
  F_Twice_init : Fun K "__init__" "Twice.__init__" s_Twice_init A.a_Twice_init A.d_Twice_init
  b_Twice_init : Binds K A.d_Twice_init ["self", "name"] []
  ow_Twice : ER.Own K A.c_Twice ER.iK
  mg_Twice : mg "Twice" = some (.ref A.c_Twice)
  ic_Twice : PySem.W.findIn K (.ref A.c_Twice) "__init__" = some (some (.ref A.a_Twice_init))
  ti_Twice : PySem.W.typeIn K (.ref A.a_Twice_init) = some (.type "function")
  no_Twice_name : PySem.W.findIn K (.ref A.c_Twice) "name" = some none
  F_NotInside_init : Fun K "__init__" "NotInside.__init__" s_NotInside_init A.a_NotInside_init A.d_NotInside_init
  b_NotInside_init : Binds K A.d_NotInside_init ["self", "name"] []
  ow_NotInside : ER.Own K A.c_NotInside ER.iK
  mg_NotInside : mg "NotInside" = some (.ref A.c_NotInside)
  ic_NotInside : PySem.W.findIn K (.ref A.c_NotInside) "__init__" = some (some (.ref A.a_NotInside_init))
  ti_NotInside : PySem.W.typeIn K (.ref A.a_NotInside_init) = some (.type "function")
  no_NotInside_name : PySem.W.findIn K (.ref A.c_NotInside) "name" = some none
  F_NoKey_init : Fun K "__init__" "NoKey.__init__" s_NoKey_init A.a_NoKey_init A.d_NoKey_init
  b_NoKey_init : Binds K A.d_NoKey_init ["self", "key"] []
  ow_NoKey : ER.Own K A.c_NoKey ER.iK
  mg_NoKey : mg "NoKey" = some (.ref A.c_NoKey)
  ic_NoKey : PySem.W.findIn K (.ref A.c_NoKey) "__init__" = some (some (.ref A.a_NoKey_init))
  ti_NoKey : PySem.W.typeIn K (.ref A.a_NoKey_init) = some (.type "function")
  no_NoKey_key : PySem.W.findIn K (.ref A.c_NoKey) "key" = some none
  F_NoValue_init : Fun K "__init__" "NoValue.__init__" s_NoValue_init A.a_NoValue_init A.d_NoValue_init
  b_NoValue_init : Binds K A.d_NoValue_init ["self", "value"] []
  ow_NoValue : ER.Own K A.c_NoValue ER.iK
  mg_NoValue : mg "NoValue" = some (.ref A.c_NoValue)
  ic_NoValue : PySem.W.findIn K (.ref A.c_NoValue) "__init__" = some (some (.ref A.a_NoValue_init))
  ti_NoValue : PySem.W.typeIn K (.ref A.a_NoValue_init) = some (.type "function")
  no_NoValue_value : PySem.W.findIn K (.ref A.c_NoValue) "value" = some none
  F_NoWay_init : Fun K "__init__" "NoWay.__init__" s_NoWay_init A.a_NoWay_init A.d_NoWay_init
  b_NoWay_init : Binds K A.d_NoWay_init ["self", "slot", "key"] []
  ow_NoWay : ER.Own K A.c_NoWay ER.iL
  mg_NoWay : mg "NoWay" = some (.ref A.c_NoWay)
  ic_NoWay : PySem.W.findIn K (.ref A.c_NoWay) "__init__" = some (some (.ref A.a_NoWay_init))
  ti_NoWay : PySem.W.typeIn K (.ref A.a_NoWay_init) = some (.type "function")
  no_NoWay_slot : PySem.W.findIn K (.ref A.c_NoWay) "slot" = some none
  no_NoWay_key : PySem.W.findIn K (.ref A.c_NoWay) "key" = some none
  F_Idle_init : Fun K "__init__" "Idle.__init__" s_Idle_init A.a_Idle_init A.d_Idle_init
  b_Idle_init : Binds K A.d_Idle_init ["self", "name"] []
  ow_Idle : ER.Own K A.c_Idle ER.iR
  mg_Idle : mg "Idle" = some (.ref A.c_Idle)
  ic_Idle : PySem.W.findIn K (.ref A.c_Idle) "__init__" = some (some (.ref A.a_Idle_init))
  ti_Idle : PySem.W.typeIn K (.ref A.a_Idle_init) = some (.type "function")
  no_Idle_name : PySem.W.findIn K (.ref A.c_Idle) "name" = some none
  F_Busy_init : Fun K "__init__" "Busy.__init__" s_Busy_init A.a_Busy_init A.d_Busy_init
  b_Busy_init : Binds K A.d_Busy_init ["self", "name"] []
  ow_Busy : ER.Own K A.c_Busy ER.iR
  mg_Busy : mg "Busy" = some (.ref A.c_Busy)
  ic_Busy : PySem.W.findIn K (.ref A.c_Busy) "__init__" = some (some (.ref A.a_Busy_init))
  ti_Busy : PySem.W.typeIn K (.ref A.a_Busy_init) = some (.type "function")
  no_Busy_name : PySem.W.findIn K (.ref A.c_Busy) "name" = some none
  F_NotOpen_init : Fun K "__init__" "NotOpen.__init__" s_NotOpen_init A.a_NotOpen_init A.d_NotOpen_init
  b_NotOpen_init : Binds K A.d_NotOpen_init ["self", "state"] []
  ow_NotOpen : ER.Own K A.c_NotOpen ER.iR
  mg_NotOpen : mg "NotOpen" = some (.ref A.c_NotOpen)
  ic_NotOpen : PySem.W.findIn K (.ref A.c_NotOpen) "__init__" = some (some (.ref A.a_NotOpen_init))
  ti_NotOpen : PySem.W.typeIn K (.ref A.a_NotOpen_init) = some (.type "function")
  no_NotOpen_state : PySem.W.findIn K (.ref A.c_NotOpen) "state" = some none
  F_Full_init : Fun K "__init__" "Full.__init__" s_Full_init A.a_Full_init A.d_Full_init
  b_Full_init : Binds K A.d_Full_init ["self", "many"] []
  ow_Full : ER.Own K A.c_Full ER.iO
  mg_Full : mg "Full" = some (.ref A.c_Full)
  ic_Full : PySem.W.findIn K (.ref A.c_Full) "__init__" = some (some (.ref A.a_Full_init))
  ti_Full : PySem.W.typeIn K (.ref A.a_Full_init) = some (.type "function")
  no_Full_many : PySem.W.findIn K (.ref A.c_Full) "many" = some none
  F_TooMany_init : Fun K "__init__" "TooMany.__init__" s_TooMany_init A.a_TooMany_init A.d_TooMany_init
  b_TooMany_init : Binds K A.d_TooMany_init ["self", "many"] []
  ow_TooMany : ER.Own K A.c_TooMany ER.iO
  mg_TooMany : mg "TooMany" = some (.ref A.c_TooMany)
  ic_TooMany : PySem.W.findIn K (.ref A.c_TooMany) "__init__" = some (some (.ref A.a_TooMany_init))
  ti_TooMany : PySem.W.typeIn K (.ref A.a_TooMany_init) = some (.type "function")
  no_TooMany_many : PySem.W.findIn K (.ref A.c_TooMany) "many" = some none
  F_pool : Fun K "_law_pool" "_law_pool" s_pool A.a_pool A.d_pool
  b_pool : Binds K A.d_pool ["_law_script", "_law_k"] []
  m_pool : mg "_law_pool" = some (.ref A.a_pool)
  F_take : Fun K "_law_take" "_law_take" s_take A.a_take A.d_take
  b_take : Binds K A.d_take ["_law_pool_here", "_law_many"] []
  m_take : mg "_law_take" = some (.ref A.a_take)
  F_made : Fun K "_law_made" "_law_made" s_made A.a_made A.d_made
  b_made : Binds K A.d_made ["_law_way", "_law_value"] []
  m_made : mg "_law_made" = some (.ref A.a_made)
  F_sorts : Fun K "_law_sorts" "_law_sorts" s_sorts A.a_sorts A.d_sorts
  b_sorts : Binds K A.d_sorts ["_law_error"] []
  m_sorts : mg "_law_sorts" = some (.ref A.a_sorts)
  F_above : Fun K "_law_above" "_law_above" s_above A.a_above A.d_above
  b_above : Binds K A.d_above ["_law_error"] []
  m_above : mg "_law_above" = some (.ref A.a_above)
  F_kept : Fun K "_law_kept" "_law_kept" s_kept A.a_kept A.d_kept
  b_kept : Binds K A.d_kept ["_law_way", "_law_error"] []
  m_kept : mg "_law_kept" = some (.ref A.a_kept)
  F_law : Fun K "law" "law" s_law A.a_law A.d_law
  b_law : Binds K A.d_law ["_law_script"] []
  m_law : mg "law" = some (.ref A.a_law)
  te_NoChain : PySem.W.exmOne K (.ref A.c_NoChain) (.ref A.c_NoChain) = some true
  te_NoPairs : PySem.W.exmOne K (.ref A.c_NoPairs) (.ref A.c_NoPairs) = some true
  te_NoSize : PySem.W.exmOne K (.ref A.c_NoSize) (.ref A.c_NoSize) = some true
  te_NoText : PySem.W.exmOne K (.ref A.c_NoText) (.ref A.c_NoText) = some true
  te_NoGoing : PySem.W.exmOne K (.ref A.c_NoGoing) (.ref A.c_NoGoing) = some true
  te_NoRoom : PySem.W.exmOne K (.ref A.c_NoRoom) (.ref A.c_NoRoom) = some true
  te_NoSlot : PySem.W.exmOne K (.ref A.c_NoSlot) (.ref A.c_NoSlot) = some true
  te_NoName : PySem.W.exmOne K (.ref A.c_NoName) (.ref A.c_NoName) = some true
  te_Twice : PySem.W.exmOne K (.ref A.c_Twice) (.ref A.c_Twice) = some true
  te_NotInside : PySem.W.exmOne K (.ref A.c_NotInside) (.ref A.c_NotInside) = some true
  te_NoKey : PySem.W.exmOne K (.ref A.c_NoKey) (.ref A.c_NoKey) = some true
  te_NoValue : PySem.W.exmOne K (.ref A.c_NoValue) (.ref A.c_NoValue) = some true
  te_NoWay : PySem.W.exmOne K (.ref A.c_NoWay) (.ref A.c_NoWay) = some true
  te_Idle : PySem.W.exmOne K (.ref A.c_Idle) (.ref A.c_Idle) = some true
  te_Busy : PySem.W.exmOne K (.ref A.c_Busy) (.ref A.c_Busy) = some true
  te_NotOpen : PySem.W.exmOne K (.ref A.c_NotOpen) (.ref A.c_NotOpen) = some true
  te_Full : PySem.W.exmOne K (.ref A.c_Full) (.ref A.c_Full) = some true
  te_TooMany : PySem.W.exmOne K (.ref A.c_TooMany) (.ref A.c_TooMany) = some true
  te_NoRecord : PySem.W.exmOne K (.ref A.c_NoRecord) (.ref A.c_NoRecord) = some true
  te_Unsound : PySem.W.exmOne K (.ref A.c_Unsound) (.ref A.c_Unsound) = some true
  te_NoRow : PySem.W.exmOne K (.ref A.c_NoRow) (.ref A.c_NoRow) = some true
  cc_NoRecord : PySem.W.findIn K (.ref A.c_NoRecord) "__class__" = some (some (.builtin "object.__class__"))
  cc_Unsound : PySem.W.findIn K (.ref A.c_Unsound) "__class__" = some (some (.builtin "object.__class__"))
  cc_NoRow : PySem.W.findIn K (.ref A.c_NoRow) "__class__" = some (some (.builtin "object.__class__"))
  cc_NoChain : PySem.W.findIn K (.ref A.c_NoChain) "__class__" = some (some (.builtin "object.__class__"))
  cc_NoPairs : PySem.W.findIn K (.ref A.c_NoPairs) "__class__" = some (some (.builtin "object.__class__"))
  cc_NoSize : PySem.W.findIn K (.ref A.c_NoSize) "__class__" = some (some (.builtin "object.__class__"))
  cc_NoText : PySem.W.findIn K (.ref A.c_NoText) "__class__" = some (some (.builtin "object.__class__"))
  cc_NoGoing : PySem.W.findIn K (.ref A.c_NoGoing) "__class__" = some (some (.builtin "object.__class__"))
  cc_NoRoom : PySem.W.findIn K (.ref A.c_NoRoom) "__class__" = some (some (.builtin "object.__class__"))
  cc_NoSlot : PySem.W.findIn K (.ref A.c_NoSlot) "__class__" = some (some (.builtin "object.__class__"))
  cc_NoName : PySem.W.findIn K (.ref A.c_NoName) "__class__" = some (some (.builtin "object.__class__"))
  cc_Twice : PySem.W.findIn K (.ref A.c_Twice) "__class__" = some (some (.builtin "object.__class__"))
  cc_NotInside : PySem.W.findIn K (.ref A.c_NotInside) "__class__" = some (some (.builtin "object.__class__"))
  cc_NoKey : PySem.W.findIn K (.ref A.c_NoKey) "__class__" = some (some (.builtin "object.__class__"))
  cc_NoValue : PySem.W.findIn K (.ref A.c_NoValue) "__class__" = some (some (.builtin "object.__class__"))
  cc_NoWay : PySem.W.findIn K (.ref A.c_NoWay) "__class__" = some (some (.builtin "object.__class__"))
  cc_Idle : PySem.W.findIn K (.ref A.c_Idle) "__class__" = some (some (.builtin "object.__class__"))
  cc_Busy : PySem.W.findIn K (.ref A.c_Busy) "__class__" = some (some (.builtin "object.__class__"))
  cc_NotOpen : PySem.W.findIn K (.ref A.c_NotOpen) "__class__" = some (some (.builtin "object.__class__"))
  cc_Full : PySem.W.findIn K (.ref A.c_Full) "__class__" = some (some (.builtin "object.__class__"))
  cc_TooMany : PySem.W.findIn K (.ref A.c_TooMany) "__class__" = some (some (.builtin "object.__class__"))
  nd_errs : [A.c_NoRecord, A.c_Unsound, A.c_NoRow, A.c_NoChain, A.c_NoPairs, A.c_NoSize, A.c_NoText, A.c_NoGoing, A.c_NoRoom, A.c_NoSlot, A.c_NoName, A.c_Twice, A.c_NotInside, A.c_NoKey, A.c_NoValue, A.c_NoWay, A.c_Idle, A.c_Busy, A.c_NotOpen, A.c_Full, A.c_TooMany].Nodup
  ex_NoRecord : PySem.W.excIn K A.c_NoRecord ER.tlV "ValueError.__new__" = true
  mg_NoRecord : mg "NoRecord" = some (.ref A.c_NoRecord)
  kc_NoRecord : PySem.W.keepIn K (.ref A.c_NoRecord) = true
  ow_NoRecord : ER.Own K A.c_NoRecord ER.iV
  sb_NoRecord : PySem.W.subIn K (.ref A.c_NoRecord) (.type "BaseException") = some true
  ty_NoRecord : PySem.W.typeIn K (.ref A.c_NoRecord) = some (.type "type")
  ex_Unsound : PySem.W.excIn K A.c_Unsound ER.tlV "ValueError.__new__" = true
  mg_Unsound : mg "Unsound" = some (.ref A.c_Unsound)
  kc_Unsound : PySem.W.keepIn K (.ref A.c_Unsound) = true
  ow_Unsound : ER.Own K A.c_Unsound ER.iV
  sb_Unsound : PySem.W.subIn K (.ref A.c_Unsound) (.type "BaseException") = some true
  ty_Unsound : PySem.W.typeIn K (.ref A.c_Unsound) = some (.type "type")
  ex_NoRow : PySem.W.excIn K A.c_NoRow ER.tlV "ValueError.__new__" = true
  mg_NoRow : mg "NoRow" = some (.ref A.c_NoRow)
  kc_NoRow : PySem.W.keepIn K (.ref A.c_NoRow) = true
  ow_NoRow : ER.Own K A.c_NoRow ER.iV
  sb_NoRow : PySem.W.subIn K (.ref A.c_NoRow) (.type "BaseException") = some true
  ty_NoRow : PySem.W.typeIn K (.ref A.c_NoRow) = some (.type "type")
  n_ValueError : mg "ValueError" = none
  n_IndexError : mg "IndexError" = none
  n_KeyError : mg "KeyError" = none
  n_LookupError : mg "LookupError" = none
  n_RuntimeError : mg "RuntimeError" = none
  n_OverflowError : mg "OverflowError" = none
  n_isinstance : mg "isinstance" = none
  n_range : mg "range" = none
  n_int : mg "int" = none
  n_bool : mg "bool" = none
  n_len : mg "len" = none
section
variable {P : Program} {w : World} {K : PySem.W.Frag} {mg : Str → Option Value} {base : Heap} {A : Adr}
theorem ok_NoChain_init (T : Txt w K mg A) : FnOk P w K mg base CX0 1 A.a_NoChain_init A.d_NoChain_init ["self", "room"] (spErr A.c_NoChain "room") := by
  refine T.F_NoChain_init.ok sc_NoChain_init (fun vs H Q E h => ?_) (fun cdv A' outer s H vs Q E hr h => ?_)
  · obtain ⟨a, v, rfl, _⟩ := h
    rfl
  · obtain ⟨a, v, rfl, ha, k⟩ := h
    have ow := T.ow_NoChain; have no := T.no_NoChain_room
    have hl : ([V.str "a"] : List V).length ≤ 1000 := by decide
    refine ⟨_, (pss_cons (ps_expr (ER.pe_ini (b := ER.iV) ER.nV ER.bV (by rfl) T.n_ValueError rfl (pa_cons (pv 0) (pa_cons pe_str pa_nil))))
      (pss_one (ER.ps_os1 (b := ER.iV) (pv 0) (pv 1)))), ?_⟩
    walk_at "go"
    exact k
theorem ok_NoPairs_init (T : Txt w K mg A) : FnOk P w K mg base CX0 1 A.a_NoPairs_init A.d_NoPairs_init ["self", "number"] (spErr A.c_NoPairs "number") := by
  refine T.F_NoPairs_init.ok sc_NoPairs_init (fun vs H Q E h => ?_) (fun cdv A' outer s H vs Q E hr h => ?_)
  · obtain ⟨a, v, rfl, _⟩ := h
    rfl
  · obtain ⟨a, v, rfl, ha, k⟩ := h
    have ow := T.ow_NoPairs; have no := T.no_NoPairs_number
    have hl : ([V.str "a"] : List V).length ≤ 1000 := by decide
    refine ⟨_, (pss_cons (ps_expr (ER.pe_ini (b := ER.iV) ER.nV ER.bV (by rfl) T.n_ValueError rfl (pa_cons (pv 0) (pa_cons pe_str pa_nil))))
      (pss_one (ER.ps_os1 (b := ER.iV) (pv 0) (pv 1)))), ?_⟩
    walk_at "go"
    exact k
theorem ok_NoSize_init (T : Txt w K mg A) : FnOk P w K mg base CX0 1 A.a_NoSize_init A.d_NoSize_init ["self", "word"] (spErr A.c_NoSize "word") := by
  refine T.F_NoSize_init.ok sc_NoSize_init (fun vs H Q E h => ?_) (fun cdv A' outer s H vs Q E hr h => ?_)
  · obtain ⟨a, v, rfl, _⟩ := h
    rfl
  · obtain ⟨a, v, rfl, ha, k⟩ := h
    have ow := T.ow_NoSize; have no := T.no_NoSize_word
    have hl : ([V.str "a"] : List V).length ≤ 1000 := by decide
    refine ⟨_, (pss_cons (ps_expr (ER.pe_ini (b := ER.iV) ER.nV ER.bV (by rfl) T.n_ValueError rfl (pa_cons (pv 0) (pa_cons pe_str pa_nil))))
      (pss_one (ER.ps_os1 (b := ER.iV) (pv 0) (pv 1)))), ?_⟩
    walk_at "go"
    exact k
theorem ok_NoText_init (T : Txt w K mg A) : FnOk P w K mg base CX0 1 A.a_NoText_init A.d_NoText_init ["self", "row"] (spErr A.c_NoText "row") := by
  refine T.F_NoText_init.ok sc_NoText_init (fun vs H Q E h => ?_) (fun cdv A' outer s H vs Q E hr h => ?_)
  · obtain ⟨a, v, rfl, _⟩ := h
    rfl
  · obtain ⟨a, v, rfl, ha, k⟩ := h
    have ow := T.ow_NoText; have no := T.no_NoText_row
    have hl : ([V.str "a"] : List V).length ≤ 1000 := by decide
    refine ⟨_, (pss_cons (ps_expr (ER.pe_ini (b := ER.iV) ER.nV ER.bV (by rfl) T.n_ValueError rfl (pa_cons (pv 0) (pa_cons pe_str pa_nil))))
      (pss_one (ER.ps_os1 (b := ER.iV) (pv 0) (pv 1)))), ?_⟩
    walk_at "go"
    exact k
theorem ok_NoGoing_init (T : Txt w K mg A) : FnOk P w K mg base CX0 1 A.a_NoGoing_init A.d_NoGoing_init ["self", "number"] (spErr A.c_NoGoing "number") := by
  refine T.F_NoGoing_init.ok sc_NoGoing_init (fun vs H Q E h => ?_) (fun cdv A' outer s H vs Q E hr h => ?_)
  · obtain ⟨a, v, rfl, _⟩ := h
    rfl
  · obtain ⟨a, v, rfl, ha, k⟩ := h
    have ow := T.ow_NoGoing; have no := T.no_NoGoing_number
    have hl : ([V.str "a"] : List V).length ≤ 1000 := by decide
    refine ⟨_, (pss_cons (ps_expr (ER.pe_ini (b := ER.iV) ER.nV ER.bV (by rfl) T.n_ValueError rfl (pa_cons (pv 0) (pa_cons pe_str pa_nil))))
      (pss_one (ER.ps_os1 (b := ER.iV) (pv 0) (pv 1)))), ?_⟩
    walk_at "go"
    exact k
theorem ok_NoRoom_init (T : Txt w K mg A) : FnOk P w K mg base CX0 1 A.a_NoRoom_init A.d_NoRoom_init ["self", "room"] (spErr A.c_NoRoom "room") := by
  refine T.F_NoRoom_init.ok sc_NoRoom_init (fun vs H Q E h => ?_) (fun cdv A' outer s H vs Q E hr h => ?_)
  · obtain ⟨a, v, rfl, _⟩ := h
    rfl
  · obtain ⟨a, v, rfl, ha, k⟩ := h
    have ow := T.ow_NoRoom; have no := T.no_NoRoom_room
    have hl : ([V.str "a"] : List V).length ≤ 1000 := by decide
    refine ⟨_, (pss_cons (ps_expr (ER.pe_ini (b := ER.iI) ER.nI ER.bI (by rfl) T.n_IndexError rfl (pa_cons (pv 0) (pa_cons pe_str pa_nil))))
      (pss_one (ER.ps_os1 (b := ER.iI) (pv 0) (pv 1)))), ?_⟩
    walk_at "go"
    exact k
theorem ok_NoSlot_init (T : Txt w K mg A) : FnOk P w K mg base CX0 1 A.a_NoSlot_init A.d_NoSlot_init ["self", "slot"] (spErr A.c_NoSlot "slot") := by
  refine T.F_NoSlot_init.ok sc_NoSlot_init (fun vs H Q E h => ?_) (fun cdv A' outer s H vs Q E hr h => ?_)
  · obtain ⟨a, v, rfl, _⟩ := h
    rfl
  · obtain ⟨a, v, rfl, ha, k⟩ := h
    have ow := T.ow_NoSlot; have no := T.no_NoSlot_slot
    have hl : ([V.str "a"] : List V).length ≤ 1000 := by decide
    refine ⟨_, (pss_cons (ps_expr (ER.pe_ini (b := ER.iI) ER.nI ER.bI (by rfl) T.n_IndexError rfl (pa_cons (pv 0) (pa_cons pe_str pa_nil))))
      (pss_one (ER.ps_os1 (b := ER.iI) (pv 0) (pv 1)))), ?_⟩
    walk_at "go"
    exact k
theorem ok_NoName_init (T : Txt w K mg A) : FnOk P w K mg base CX0 1 A.a_NoName_init A.d_NoName_init ["self", "name"] (spErr A.c_NoName "name") := by
  refine T.F_NoName_init.ok sc_NoName_init (fun vs H Q E h => ?_) (fun cdv A' outer s H vs Q E hr h => ?_)
  · obtain ⟨a, v, rfl, _⟩ := h
    rfl
  · obtain ⟨a, v, rfl, ha, k⟩ := h
    have ow := T.ow_NoName; have no := T.no_NoName_name
    have hl : ([V.str "a"] : List V).length ≤ 1000 := by decide
    refine ⟨_, (pss_cons (ps_expr (ER.pe_ini (b := ER.iK) ER.nK ER.bK (by rfl) T.n_KeyError rfl (pa_cons (pv 0) (pa_cons pe_str pa_nil))))
      (pss_one (ER.ps_os1 (b := ER.iK) (pv 0) (pv 1)))), ?_⟩
    walk_at "go"
    exact k
theorem ok_Twice_init (T : Txt w K mg A) : FnOk P w K mg base CX0 1 A.a_Twice_init A.d_Twice_init ["self", "name"] (spErr A.c_Twice "name") := by
  refine T.F_Twice_init.ok sc_Twice_init (fun vs H Q E h => ?_) (fun cdv A' outer s H vs Q E hr h => ?_)
  · obtain ⟨a, v, rfl, _⟩ := h
    rfl
  · obtain ⟨a, v, rfl, ha, k⟩ := h
    have ow := T.ow_Twice; have no := T.no_Twice_name
    have hl : ([V.str "a"] : List V).length ≤ 1000 := by decide
    refine ⟨_, (pss_cons (ps_expr (ER.pe_ini (b := ER.iK) ER.nK ER.bK (by rfl) T.n_KeyError rfl (pa_cons (pv 0) (pa_cons pe_str pa_nil))))
      (pss_one (ER.ps_os1 (b := ER.iK) (pv 0) (pv 1)))), ?_⟩
    walk_at "go"
    exact k
theorem ok_NotInside_init (T : Txt w K mg A) : FnOk P w K mg base CX0 1 A.a_NotInside_init A.d_NotInside_init ["self", "name"] (spErr A.c_NotInside "name") := by
  refine T.F_NotInside_init.ok sc_NotInside_init (fun vs H Q E h => ?_) (fun cdv A' outer s H vs Q E hr h => ?_)
  · obtain ⟨a, v, rfl, _⟩ := h
    rfl
  · obtain ⟨a, v, rfl, ha, k⟩ := h
    have ow := T.ow_NotInside; have no := T.no_NotInside_name
    have hl : ([V.str "a"] : List V).length ≤ 1000 := by decide
    refine ⟨_, (pss_cons (ps_expr (ER.pe_ini (b := ER.iK) ER.nK ER.bK (by rfl) T.n_KeyError rfl (pa_cons (pv 0) (pa_cons pe_str pa_nil))))
      (pss_one (ER.ps_os1 (b := ER.iK) (pv 0) (pv 1)))), ?_⟩
    walk_at "go"
    exact k
theorem ok_NoKey_init (T : Txt w K mg A) : FnOk P w K mg base CX0 1 A.a_NoKey_init A.d_NoKey_init ["self", "key"] (spErr A.c_NoKey "key") := by
  refine T.F_NoKey_init.ok sc_NoKey_init (fun vs H Q E h => ?_) (fun cdv A' outer s H vs Q E hr h => ?_)
  · obtain ⟨a, v, rfl, _⟩ := h
    rfl
  · obtain ⟨a, v, rfl, ha, k⟩ := h
    have ow := T.ow_NoKey; have no := T.no_NoKey_key
    have hl : ([V.str "a"] : List V).length ≤ 1000 := by decide
    refine ⟨_, (pss_cons (ps_expr (ER.pe_ini (b := ER.iK) ER.nK ER.bK (by rfl) T.n_KeyError rfl (pa_cons (pv 0) (pa_cons pe_str pa_nil))))
      (pss_one (ER.ps_os1 (b := ER.iK) (pv 0) (pv 1)))), ?_⟩
    walk_at "go"
    exact k
theorem ok_NoValue_init (T : Txt w K mg A) : FnOk P w K mg base CX0 1 A.a_NoValue_init A.d_NoValue_init ["self", "value"] (spErr A.c_NoValue "value") := by
  refine T.F_NoValue_init.ok sc_NoValue_init (fun vs H Q E h => ?_) (fun cdv A' outer s H vs Q E hr h => ?_)
  · obtain ⟨a, v, rfl, _⟩ := h
    rfl
  · obtain ⟨a, v, rfl, ha, k⟩ := h
    have ow := T.ow_NoValue; have no := T.no_NoValue_value
    have hl : ([V.str "a"] : List V).length ≤ 1000 := by decide
    refine ⟨_, (pss_cons (ps_expr (ER.pe_ini (b := ER.iK) ER.nK ER.bK (by rfl) T.n_KeyError rfl (pa_cons (pv 0) (pa_cons pe_str pa_nil))))
      (pss_one (ER.ps_os1 (b := ER.iK) (pv 0) (pv 1)))), ?_⟩
    walk_at "go"
    exact k
theorem ok_NoWay_init (T : Txt w K mg A) : FnOk P w K mg base CX0 1 A.a_NoWay_init A.d_NoWay_init ["self", "slot", "key"] (spErr2 A.c_NoWay "slot" "key") := by
  refine T.F_NoWay_init.ok sc_NoWay_init (fun vs H Q E h => ?_) (fun cdv A' outer s H vs Q E hr h => ?_)
  · obtain ⟨a, v, z, rfl, _⟩ := h
    rfl
  · obtain ⟨a, v, z, rfl, ha, k⟩ := h
    have ow := T.ow_NoWay; have no := T.no_NoWay_slot; have no2 := T.no_NoWay_key
    have hl : ([V.str "a"] : List V).length ≤ 1000 := by decide
    refine ⟨_, (pss_cons (ps_expr (ER.pe_ini (b := ER.iL) ER.nL ER.bL (by rfl) T.n_LookupError rfl (pa_cons (pv 0) (pa_cons pe_str pa_nil))))
      (pss_cons (ER.ps_os1 (b := ER.iL) (pv 0) (pv 1))
      (pss_one (ER.ps_os2 (b := ER.iL) (pv 0) (pv 2))))), ?_⟩
    walk_at "go"
    intro dx hd ne
    have e1 : upd (upd H dx (exd dx [("slot", v)])) a (exo a A.c_NoWay (some dx)) a = some (exo a A.c_NoWay (some dx)) := upd_same
    have e2 : upd (upd H dx (exd dx [("slot", v)])) a (exo a A.c_NoWay (some dx)) dx = some (exd dx [("slot", v)]) := by rw [upd_ne ne]; exact upd_same
    have hl9 : ([("slot", v)] : List (Str × V)).length ≤ 900 := by show 1 ≤ 900; decide
    walk_at "go"
    exact k dx hd ne
theorem ok_Idle_init (T : Txt w K mg A) : FnOk P w K mg base CX0 1 A.a_Idle_init A.d_Idle_init ["self", "name"] (spErr A.c_Idle "name") := by
  refine T.F_Idle_init.ok sc_Idle_init (fun vs H Q E h => ?_) (fun cdv A' outer s H vs Q E hr h => ?_)
  · obtain ⟨a, v, rfl, _⟩ := h
    rfl
  · obtain ⟨a, v, rfl, ha, k⟩ := h
    have ow := T.ow_Idle; have no := T.no_Idle_name
    have hl : ([V.str "a"] : List V).length ≤ 1000 := by decide
    refine ⟨_, (pss_cons (ps_expr (ER.pe_ini (b := ER.iR) ER.nR ER.bR (by rfl) T.n_RuntimeError rfl (pa_cons (pv 0) (pa_cons pe_str pa_nil))))
      (pss_one (ER.ps_os1 (b := ER.iR) (pv 0) (pv 1)))), ?_⟩
    walk_at "go"
    exact k
theorem ok_Busy_init (T : Txt w K mg A) : FnOk P w K mg base CX0 1 A.a_Busy_init A.d_Busy_init ["self", "name"] (spErr A.c_Busy "name") := by
  refine T.F_Busy_init.ok sc_Busy_init (fun vs H Q E h => ?_) (fun cdv A' outer s H vs Q E hr h => ?_)
  · obtain ⟨a, v, rfl, _⟩ := h
    rfl
  · obtain ⟨a, v, rfl, ha, k⟩ := h
    have ow := T.ow_Busy; have no := T.no_Busy_name
    have hl : ([V.str "a"] : List V).length ≤ 1000 := by decide
    refine ⟨_, (pss_cons (ps_expr (ER.pe_ini (b := ER.iR) ER.nR ER.bR (by rfl) T.n_RuntimeError rfl (pa_cons (pv 0) (pa_cons pe_str pa_nil))))
      (pss_one (ER.ps_os1 (b := ER.iR) (pv 0) (pv 1)))), ?_⟩
    walk_at "go"
    exact k
theorem ok_NotOpen_init (T : Txt w K mg A) : FnOk P w K mg base CX0 1 A.a_NotOpen_init A.d_NotOpen_init ["self", "state"] (spErr A.c_NotOpen "state") := by
  refine T.F_NotOpen_init.ok sc_NotOpen_init (fun vs H Q E h => ?_) (fun cdv A' outer s H vs Q E hr h => ?_)
  · obtain ⟨a, v, rfl, _⟩ := h
    rfl
  · obtain ⟨a, v, rfl, ha, k⟩ := h
    have ow := T.ow_NotOpen; have no := T.no_NotOpen_state
    have hl : ([V.str "a"] : List V).length ≤ 1000 := by decide
    refine ⟨_, (pss_cons (ps_expr (ER.pe_ini (b := ER.iR) ER.nR ER.bR (by rfl) T.n_RuntimeError rfl (pa_cons (pv 0) (pa_cons pe_str pa_nil))))
      (pss_one (ER.ps_os1 (b := ER.iR) (pv 0) (pv 1)))), ?_⟩
    walk_at "go"
    exact k
theorem ok_Full_init (T : Txt w K mg A) : FnOk P w K mg base CX0 1 A.a_Full_init A.d_Full_init ["self", "many"] (spErr A.c_Full "many") := by
  refine T.F_Full_init.ok sc_Full_init (fun vs H Q E h => ?_) (fun cdv A' outer s H vs Q E hr h => ?_)
  · obtain ⟨a, v, rfl, _⟩ := h
    rfl
  · obtain ⟨a, v, rfl, ha, k⟩ := h
    have ow := T.ow_Full; have no := T.no_Full_many
    have hl : ([V.str "a"] : List V).length ≤ 1000 := by decide
    refine ⟨_, (pss_cons (ps_expr (ER.pe_ini (b := ER.iO) ER.nO ER.bO (by rfl) T.n_OverflowError rfl (pa_cons (pv 0) (pa_cons pe_str pa_nil))))
      (pss_one (ER.ps_os1 (b := ER.iO) (pv 0) (pv 1)))), ?_⟩
    walk_at "go"
    exact k
theorem ok_TooMany_init (T : Txt w K mg A) : FnOk P w K mg base CX0 1 A.a_TooMany_init A.d_TooMany_init ["self", "many"] (spErr A.c_TooMany "many") := by
  refine T.F_TooMany_init.ok sc_TooMany_init (fun vs H Q E h => ?_) (fun cdv A' outer s H vs Q E hr h => ?_)
  · obtain ⟨a, v, rfl, _⟩ := h
    rfl
  · obtain ⟨a, v, rfl, ha, k⟩ := h
    have ow := T.ow_TooMany; have no := T.no_TooMany_many
    have hl : ([V.str "a"] : List V).length ≤ 1000 := by decide
    refine ⟨_, (pss_cons (ps_expr (ER.pe_ini (b := ER.iO) ER.nO ER.bO (by rfl) T.n_OverflowError rfl (pa_cons (pv 0) (pa_cons pe_str pa_nil))))
      (pss_one (ER.ps_os1 (b := ER.iO) (pv 0) (pv 1)))), ?_⟩
    walk_at "go"
    exact k

theorem ok_pool (T : Txt w K mg A) : FnOk P w K mg base CX0 1 A.a_pool A.d_pool ["_law_script", "_law_k"] (spPool K) := by
  refine T.F_pool.ok sc_pool (fun vs H Q E h => ?_) (fun cdv A' outer s H vs Q E hr h => ?_)
  · obtain ⟨a, ns, k, rfl, _⟩ := h
    rfl
  · obtain ⟨a, ns, k, rfl, hS, hl, hk, q⟩ := h
    have ek : (7919 : Int) * k < 1000000 := by omega
    refine ⟨_, (pss_cons (ps_set (i := 2) sc_pool.nd rfl (Or.inl rfl) pe_int)
      (cutAt (ps_if (pt_cmpR op_lt (pv 1) (pe_callB call_len_seq (by rfl) T.n_len PySem.boot_len (pa_cons (pv 0) pa_nil)) (nomark _))
      (pss_one (ps_set (i := 2) sc_pool.nd rfl (Or.inl rfl) (pe_ix ix_list (pv 0) (pv 1) (fun _ _ => rfl))))
      pss_nil)
      (pss_cons (ps_set (i := 3) sc_pool.nd rfl (Or.inl rfl) (pe_op op_mod (pe_op op_mul (pe_op op_add (pe_op op_add (pe_op op_mod (pv 2) pe_int) (pe_op op_mul (pe_op op_mul pe_int (pv 1)) (pv 1))) pe_int) pe_int) pe_int))
      (cutAt (ps_if (pt_cmpR op_lt (pv 2) (pe_op op_pow pe_int pe_int) (nomark _))
      (pss_one (ps_set (i := 2) sc_pool.nd rfl (Or.inl rfl) pe_int))
      pss_nil)
      (pss_one (ps_ret (pe_lst (pa_cons (pv 2) (pa_cons (pe_op op_add (pe_op op_mod (pe_op op_mul (pv 3) (pv 3)) pe_int) pe_int) pa_nil))))))))), ?_⟩
    refine ⟨fun σ H' => ∃ c : Int, σ = [some (.ref a), some (.int k), some (.int c), none] ∧ H' = H, ?_, ?_⟩
    · walk_at "go"
      refine ite2 (fun c => ?_) (fun c => ?_)
      · have c : (k : Int) < (ns.map V.int).length := of_decide_eq_true c
        rw [List.length_map] at c
        have hx : atI (ns.map V.int) (k : Int) = some (.int (ns[k]'(by omega))) := atI_nat (by rw [List.getElem?_map, List.getElem?_eq_getElem (by omega)]; rfl)
        walk_at "go"
        rfl
      · walk_at "go"
        rfl
    · rintro σ H' ⟨c, rfl, rfl⟩
      walk_at "go"
      show Cut _ _ _ [some (.ref a), some (.int k), some (.int c), some (.int ((c % 2147483629 + 7919 * (k : Int) * k + 11) * 48271 % 2147483647))] H'
      generalize hs : (c % 2147483629 + 7919 * (k : Int) * k + 11) * 48271 % 2147483647 = sd
      have h0 : 0 ≤ sd ∧ sd < 2147483647 := by omega
      refine ⟨fun σ H'' => ∃ c' : Int, σ = [some (.ref a), some (.int k), some (.int c'), some (.int sd)] ∧ H'' = H' ∧ 0 ≤ c', ?_, ?_⟩
      · walk_at "go"
        refine ite2 (fun c => ?_) (fun c => ?_)
        · walk_at "go"
          exact Int.le_refl _
        · walk_at "go"
          have c := of_decide_eq_false (Bool.eq_false_iff.mpr c)

          have e : (10 : Int) ^ (18 : Int).toNat = 1000000000000000000 := by decide
          omega
      · rintro σ H'' ⟨c', rfl, rfl, c0⟩
        walk_at "go"
        exact fun p hp => q p c' (sd * sd % 2147483587 + 1) hp c0 (by omega) (by omega)
theorem ok_take (T : Txt w K mg A) : FnOk P w K mg base CX0 1 A.a_take A.d_take ["_law_pool_here", "_law_many"] spTake := by
  refine T.F_take.ok sc_take (fun vs H Q E h => ?_) (fun cdv A' outer s H vs Q E hr h => ?_)
  · obtain ⟨q, m, rfl, _⟩ := h
    rfl
  · obtain ⟨q, m, rfl, ⟨c, s, hq, h1, h2, h3⟩, m0, m1, k⟩ := h
    refine ⟨_, (pss_cons (ps_if (pt_cmpR op_gt (pe_ix ix_list (pv 0) pe_int (fun _ _ => rfl)) pe_int (nomark _))
      (pss_cons (ps_set (i := 2) sc_take.nd rfl (Or.inl rfl) (pe_op op_mod (pe_ix ix_list (pv 0) pe_int (fun _ _ => rfl)) (pv 1)))
      (pss_cons (ps_asg (pe_op op_fdiv (pe_ix ix_list (pv 0) pe_int (fun _ _ => rfl)) (pv 1)) (pg_sub (pv 0) pe_int set_list))
      (pss_one (ps_ret (pv 2)))))
      pss_nil)
      (pss_cons (ps_asg (pe_op op_mod (pe_op op_add (pe_op op_mul (pe_ix ix_list (pv 0) pe_int (fun _ _ => rfl)) pe_int) pe_int) pe_int) (pg_sub (pv 0) pe_int set_list))
      (pss_one (ps_ret (pe_op op_mod (pe_op op_fdiv (pe_op op_mod (pe_op op_mul (pe_ix ix_list (pv 0) pe_int (fun _ _ => rfl)) (pe_ix ix_list (pv 0) pe_int (fun _ _ => rfl))) pe_int) pe_int) (pv 1)))))), ?_⟩
    walk_at "go"
    refine ite2 (fun cp => ?_) (fun cp => ?_)
    · have cp : 0 < c := of_decide_eq_true cp
      walk_at "go"
      exact k (c % m) (c / m) s (Int.emod_nonneg _ (by omega)) (Int.emod_lt_of_pos _ m0) (Int.ediv_nonneg h1 (by omega)) h2 h3
    · walk_at "go"
      have z : ∀ r : Int, 0 ≤ r → r < m → Q (.int r) (upd H q (.lst [.int c, .int ((s * 48271 + 12345) % 2147483647)])) := fun r r0 r1 => k r c _ r0 r1 h1 (Int.emod_nonneg _ (by decide)) (by omega)
      exact z _ (Int.emod_nonneg _ (by omega)) (Int.emod_lt_of_pos _ m0)

/-! ### the drawing of records -/
structure Drew (H H' : Hp) (q : Addr) : Prop where
  pool : PoolAt H' q
  kp : ∀ b u, b ≠ q → H b = some u → H' b = some u
theorem Drew.refl {H : Hp} {q : Addr} (h : PoolAt H q) : Drew H H q := ⟨h, fun _ _ _ e => e⟩
theorem Drew.trans {H H' H'' : Hp} {q : Addr} (a : Drew H H' q) (b : Drew H' H'' q) : Drew H H'' q := ⟨b.pool, fun c u n e => b.kp c u n (a.kp c u n e)⟩
theorem PoolAt.some {H : Hp} {q : Addr} (h : PoolAt H q) : ∃ xs, H q = some (.lst xs) := by
  obtain ⟨_, _, e, _⟩ := h
  exact ⟨_, e⟩
theorem PoolAt.same {H H' : Hp} {q : Addr} (h : PoolAt H q) (s : Same H H') : PoolAt H' q := by
  obtain ⟨c, d, e, r⟩ := h
  exact ⟨c, d, s _ _ e, r⟩
theorem PoolAt.ne {H : Hp} {q a : Addr} (h : PoolAt H q) (e : H a = none) : a ≠ q := fun z => by
  obtain ⟨_, e2⟩ := h.some
  rw [← z, e] at e2; cases e2
theorem Drew.same {H H' H'' : Hp} {q : Addr} (a : Drew H H' q) (s : Same H' H'') : Drew H H'' q := ⟨a.pool.same s, fun c u n e => s _ _ (a.kp c u n e)⟩
theorem Drew.new {H H' : Hp} {q a : Addr} {o : HO} (d : Drew H H' q) (h : H' a = none) : Drew H (upd H' a o) q := d.same (same_new h)
/-- what is drawn upon may be written anew, where it is new -/
theorem Drew.upd {H H' : Hp} {q a : Addr} {o : HO} (d : Drew H H' q) (h : H a = none) (n : a ≠ q) : Drew H (upd H' a o) q := by
  obtain ⟨c, e, f, r⟩ := d.pool
  exact ⟨⟨c, e, by rw [upd_ne (Ne.symm n)]; exact f, r⟩, fun b u m e => by rw [upd_ne (ne_of_none e h)]; exact d.kp b u m e⟩
def spTakeD : Sp := fun vs H Q _ => ∃ (q : Addr) (m : Int), vs = [.ref q, .int m] ∧ PoolAt H q ∧ 0 < m ∧ m < 1073741824 ∧ ∀ (r : Int) (H' : Hp), 0 ≤ r → r < m → Drew H H' q → Q (.int r) H'
theorem ok_takeD (T : Txt w K mg A) : FnOk P w K mg base CX0 1 A.a_take A.d_take ["_law_pool_here", "_law_many"] spTakeD :=
  (ok_take T).imp fun vs H Q E h => by
    obtain ⟨q, m, e, hp, m0, m1, k⟩ := h
    exact ⟨q, m, e, hp, m0, m1, fun r c s r0 r1 c0 s0 s1 => k r _ r0 r1 ⟨⟨c, s, upd_same, c0, s0, s1⟩, fun b u n e => by rw [upd_ne n]; exact e⟩⟩

/-! ### tuples of tuples, numbers and texts: they stay, whatever is drawn -/
mutual
inductive Dt (K : PySem.W.Frag) (H : Hp) : V → PyData → Prop
  | non : Dt K H .non .none
  | bl (b : Bool) : Dt K H (.bl b) (.bool b)
  | int (i : Int) : Dt K H (.int i) (.int i)
  | str (z : Str) : Dt K H (.str z) (.str z)
  | tup {a : Addr} {xs : List V} {ds : List PyData} : SqT K H a xs → DtAll K H xs ds → Dt K H (.ref a) (.tuple ds)
inductive DtAll (K : PySem.W.Frag) (H : Hp) : List V → List PyData → Prop
  | nil : DtAll K H [] []
  | cons {x : V} {d : PyData} {xs : List V} {ds : List PyData} : Dt K H x d → DtAll K H xs ds → DtAll K H (x :: xs) (d :: ds)
end
theorem Drew.tup {K : PySem.W.Frag} {H H' : Hp} {q a : Addr} {xs : List V} (hq : PoolAt H q) (dr : Drew H H' q) (h : SqT K H a xs) : SqT K H' a xs := by
  obtain ⟨l, hl⟩ := hq.some
  rcases h with (e | ⟨o, e⟩) | e
  · exact .inl (.inl (dr.kp _ _ (fun z => by rw [z, hl] at e; cases e) e))
  · exact .inl (.inr ⟨o, dr.kp _ _ (fun z => by rw [z, hl] at e; cases e) e⟩)
  · exact .inr e
mutual
theorem Dt.dp {K : PySem.W.Frag} {H : Hp} : ∀ {v : V} {d : PyData}, Dt K H v d → Dp K H v d
  | _, _, .non => .non
  | _, _, .bl b => .bl b
  | _, _, .int i => .int i
  | _, _, .str z => .str z
  | _, _, .tup h t => .tup h (DtAll.dp t)
theorem DtAll.dp {K : PySem.W.Frag} {H : Hp} : ∀ {vs : List V} {ds : List PyData}, DtAll K H vs ds → DpAll K H vs ds
  | _, _, .nil => .nil
  | _, _, .cons a t => .cons (Dt.dp a) (DtAll.dp t)
end
mutual
theorem Dt.drew {K : PySem.W.Frag} {H H' : Hp} {q : Addr} (hq : PoolAt H q) (dr : Drew H H' q) : ∀ {v : V} {d : PyData}, Dt K H v d → Dt K H' v d
  | _, _, .non => .non
  | _, _, .bl b => .bl b
  | _, _, .int i => .int i
  | _, _, .str z => .str z
  | _, _, .tup h t => .tup (dr.tup hq h) (DtAll.drew hq dr t)
theorem DtAll.drew {K : PySem.W.Frag} {H H' : Hp} {q : Addr} (hq : PoolAt H q) (dr : Drew H H' q) : ∀ {vs : List V} {ds : List PyData}, DtAll K H vs ds → DtAll K H' vs ds
  | _, _, .nil => .nil
  | _, _, .cons a t => .cons (Dt.drew hq dr a) (DtAll.drew hq dr t)
end
mutual
theorem Dt.same {K : PySem.W.Frag} {H H' : Hp} (s : Same H H') : ∀ {v : V} {d : PyData}, Dt K H v d → Dt K H' v d
  | _, _, .non => .non
  | _, _, .bl b => .bl b
  | _, _, .int i => .int i
  | _, _, .str z => .str z
  | _, _, .tup h t => .tup (sqT_same s h) (DtAll.same s t)
theorem DtAll.same {K : PySem.W.Frag} {H H' : Hp} (s : Same H H') : ∀ {vs : List V} {ds : List PyData}, DtAll K H vs ds → DtAll K H' vs ds
  | _, _, .nil => .nil
  | _, _, .cons a t => .cons (Dt.same s a) (DtAll.same s t)
end
/-- a list is written anew: tuples stay -/
theorem tup_lst {K : PySem.W.Frag} {H : Hp} {D a : Addr} {l : List V} {o : HO} {xs : List V} (hD : H D = some (.lst l)) (h : SqT K H a xs) : SqT K (upd H D o) a xs := by
  rcases h with (e | ⟨o', e⟩) | e
  · exact .inl (.inl (by rw [upd_ne (fun z => by rw [z, hD] at e; cases e)]; exact e))
  · exact .inl (.inr ⟨o', by rw [upd_ne (fun z => by rw [z, hD] at e; cases e)]; exact e⟩)
  · exact .inr e
mutual
theorem dt_lst {K : PySem.W.Frag} {H : Hp} {D : Addr} {l : List V} {o : HO} (hD : H D = some (.lst l)) : ∀ {v : V} {d : PyData}, Dt K H v d → Dt K (upd H D o) v d
  | _, _, .non => .non
  | _, _, .bl b => .bl b
  | _, _, .int i => .int i
  | _, _, .str z => .str z
  | _, _, .tup h t => .tup (tup_lst hD h) (dtAll_lst hD t)
theorem dtAll_lst {K : PySem.W.Frag} {H : Hp} {D : Addr} {l : List V} {o : HO} (hD : H D = some (.lst l)) : ∀ {vs : List V} {ds : List PyData}, DtAll K H vs ds → DtAll K (upd H D o) vs ds
  | _, _, .nil => .nil
  | _, _, .cons a t => .cons (dt_lst hD a) (dtAll_lst hD t)
end
section
variable {K : PySem.W.Frag} {H : Hp}
theorem DtAll.snoc {x : V} {d : PyData} : ∀ {vs : List V} {ds : List PyData}, DtAll K H vs ds → Dt K H x d → DtAll K H (vs ++ [x]) (ds ++ [d])
  | _, _, .nil, h => .cons h .nil
  | _, _, .cons a t, h => .cons a (t.snoc h)
theorem DtAll.take : ∀ (n : Nat) {vs : List V} {ds : List PyData}, DtAll K H vs ds → DtAll K H (vs.take n) (ds.take n)
  | 0, _, _, _ => .nil
  | _ + 1, _, _, .nil => .nil
  | n + 1, _, _, .cons a t => .cons a (t.take n)
theorem DtAll.len : ∀ {vs : List V} {ds : List PyData}, DtAll K H vs ds → vs.length = ds.length
  | _, _, .nil => rfl
  | _, _, .cons _ t => congrArg (· + 1) t.len
end
theorem Drew.none {H H' : Hp} {q a : Addr} (d : Drew H H' q) (h : H' a = none) : H a = none := by
  cases e : H a with
  | none => rfl
  | some u => rw [d.kp _ _ (d.pool.ne h) e] at h; cases h
theorem DtAll.nth {K : PySem.W.Frag} {H : Hp} : ∀ {vs : List V} {ds : List PyData} {i : Nat} {v : V}, DtAll K H vs ds → vs[i]? = some v → ∃ d, ds[i]? = some d ∧ Dt K H v d
  | _, _, 0, _, .cons a _, e => by simp at e; subst e; exact ⟨_, rfl, a⟩
  | _, _, i + 1, v, .cons _ t, e => by
    obtain ⟨d, e1, e2⟩ := DtAll.nth (i := i) (v := v) t (by simpa using e)
    exact ⟨d, by simpa using e1, e2⟩

/-! ### k02: the refusals by their numbers -/
def clsL (A : Adr) : List Addr := [A.c_NoRecord, A.c_Unsound, A.c_NoRow, A.c_NoChain, A.c_NoPairs, A.c_NoSize, A.c_NoText, A.c_NoGoing, A.c_NoRoom, A.c_NoSlot, A.c_NoName, A.c_Twice, A.c_NotInside, A.c_NoKey, A.c_NoValue, A.c_NoWay, A.c_Idle, A.c_Busy, A.c_NotOpen, A.c_Full, A.c_TooMany]
def biL : List ER.BI := [ER.iV, ER.iV, ER.iV, ER.iV, ER.iV, ER.iV, ER.iV, ER.iV, ER.iI, ER.iI, ER.iK, ER.iK, ER.iK, ER.iK, ER.iK, ER.iL, ER.iR, ER.iR, ER.iR, ER.iO, ER.iO]
def fieldsV : Nat → V → List (Str × V)
  | 3, v => [("room", v)] | 4, v => [("number", v)] | 5, v => [("word", v)] | 6, v => [("row", v)] | 7, v => [("number", v)]
  | 8, v => [("room", v)] | 9, v => [("slot", v)] | 10, v => [("name", v)] | 11, v => [("name", v)] | 12, v => [("name", v)] | 13, v => [("key", v)] | 14, v => [("value", v)]
  | 15, v => [("key", .int 7), ("slot", v)] | 16, v => [("name", v)] | 17, v => [("name", v)] | 18, v => [("state", v)] | 19, v => [("many", v)] | 20, v => [("many", v)]
  | _, _ => []
def ErrW (A : Adr) (H : Hp) (i : Nat) (v : V) (a : Addr) : Prop := ∃ D, (clsL A)[i]? = some D ∧ ((i < 3 ∧ H a = some (ExO (.ref D) a)) ∨ (3 ≤ i ∧ ∃ dx, H a = some (exo a D (some dx)) ∧ H dx = some (exd dx (fieldsV i v))))
theorem ErrW.same {A : Adr} {H H' : Hp} {i : Nat} {v : V} {a : Addr} (h : ErrW A H i v a) (s : Same H H') : ErrW A H' i v a := by
  obtain ⟨D, e, h⟩ := h
  refine ⟨D, e, ?_⟩
  rcases h with ⟨l, h⟩ | ⟨l, dx, h1, h2⟩
  · exact .inl ⟨l, s _ _ h⟩
  · exact .inr ⟨l, dx, s _ _ h1, s _ _ h2⟩
theorem ErrW.at_ {A : Adr} {H : Hp} {i : Nat} {v : V} {a : Addr} (h : ErrW A H i v a) : ∃ D, (clsL A)[i]? = some D ∧ EV.ErrAt H a D := by
  obtain ⟨D, e, h⟩ := h
  refine ⟨D, e, ?_⟩
  rcases h with ⟨l, h⟩ | ⟨l, dx, h1, h2⟩
  · exact .inr h
  · exact .inl ⟨dx, _, h1, h2⟩
def spMade (A : Adr) : Sp := fun vs H Q _ => ∃ (i : Nat) (v : V), vs = [.int (i : Int), v] ∧ i < 21 ∧ ∀ (a : Addr) (H' : Hp), Same H H' → ErrW A H' i v a → Q (.ref a) H'
def sortsL (i : Nat) : List Bool := (List.range 21).map fun k => decide (k = i)
def aboveL (i : Nat) : List Bool := [decide (i < 8), decide (i = 8 ∨ i = 9), decide (10 ≤ i ∧ i < 15), decide (8 ≤ i ∧ i < 16), decide (16 ≤ i ∧ i < 19), decide (18 < i)]
def spBools (A : Adr) (f : Nat → List Bool) : Sp := fun vs H Q _ => ∃ (i : Nat) (v : V) (a : Addr), vs = [.ref a] ∧ i < 21 ∧ ErrW A H i v a ∧ ∀ (l : Addr) (H' : Hp), Same H H' → H' l = some (.lst ((f i).map V.bl)) → Q (.ref l) H'
def KeptIs (H : Hp) (i : Nat) (v x : V) : Prop := (i < 3 ∧ x = .non) ∨ (i = 15 ∧ ∃ t, x = .ref t ∧ H t = some (.tup [v, .int 7])) ∨ (3 ≤ i ∧ i ≠ 15 ∧ x = v)
def spKept (A : Adr) : Sp := fun vs H Q _ => ∃ (i : Nat) (v : V) (a : Addr), vs = [.int (i : Int), .ref a] ∧ i < 21 ∧ ErrW A H i v a ∧ ∀ (x : V) (H' : Hp), Same H H' → KeptIs H' i v x → Q x H'
def spLaw (K : PySem.W.Frag) : Sp := fun vs H Q _ => ∃ (a : Addr) (ns : List Int), vs = [.ref a] ∧ SqL K H a (ns.map V.int) ∧ ns.length ≤ 63 ∧ ∀ H', Q (.bl true) H'
theorem inI (z : Int) (ws : List Int) : inV (.int z) (ws.map V.int) = decide (z ∈ ws) := by
  unfold inV
  rw [Bool.eq_iff_iff, decide_eq_true_iff, List.any_eq_true]
  constructor
  · rintro ⟨y, hy, e⟩
    obtain ⟨a, ha, rfl⟩ := List.mem_map.mp hy
    have e : (a == z) = true := e
    rw [← eq_of_beq e]; exact ha
  · intro h
    exact ⟨.int z, List.mem_map_of_mem h, beq_self_eq_true z⟩

theorem own_at (T : Txt w K mg A) : ∀ {i : Nat} {D : Addr}, (clsL A)[i]? = some D → ∃ b, biL[i]? = some b ∧ ER.Own K D b ∧ PySem.W.findIn K (.ref D) "__class__" = some (some (.builtin "object.__class__")) ∧ EV.bare b ∧ b.tl.contains (.type "object") = true
  | 0, _, h => by cases (show some A.c_NoRecord = some _ from h); exact ⟨_, rfl, T.ow_NoRecord, T.cc_NoRecord, fun _ => rfl, rfl⟩
  | 1, _, h => by cases (show some A.c_Unsound = some _ from h); exact ⟨_, rfl, T.ow_Unsound, T.cc_Unsound, fun _ => rfl, rfl⟩
  | 2, _, h => by cases (show some A.c_NoRow = some _ from h); exact ⟨_, rfl, T.ow_NoRow, T.cc_NoRow, fun _ => rfl, rfl⟩
  | 3, _, h => by cases (show some A.c_NoChain = some _ from h); exact ⟨_, rfl, T.ow_NoChain, T.cc_NoChain, fun _ => rfl, rfl⟩
  | 4, _, h => by cases (show some A.c_NoPairs = some _ from h); exact ⟨_, rfl, T.ow_NoPairs, T.cc_NoPairs, fun _ => rfl, rfl⟩
  | 5, _, h => by cases (show some A.c_NoSize = some _ from h); exact ⟨_, rfl, T.ow_NoSize, T.cc_NoSize, fun _ => rfl, rfl⟩
  | 6, _, h => by cases (show some A.c_NoText = some _ from h); exact ⟨_, rfl, T.ow_NoText, T.cc_NoText, fun _ => rfl, rfl⟩
  | 7, _, h => by cases (show some A.c_NoGoing = some _ from h); exact ⟨_, rfl, T.ow_NoGoing, T.cc_NoGoing, fun _ => rfl, rfl⟩
  | 8, _, h => by cases (show some A.c_NoRoom = some _ from h); exact ⟨_, rfl, T.ow_NoRoom, T.cc_NoRoom, fun _ => rfl, rfl⟩
  | 9, _, h => by cases (show some A.c_NoSlot = some _ from h); exact ⟨_, rfl, T.ow_NoSlot, T.cc_NoSlot, fun _ => rfl, rfl⟩
  | 10, _, h => by cases (show some A.c_NoName = some _ from h); exact ⟨_, rfl, T.ow_NoName, T.cc_NoName, fun _ => rfl, rfl⟩
  | 11, _, h => by cases (show some A.c_Twice = some _ from h); exact ⟨_, rfl, T.ow_Twice, T.cc_Twice, fun _ => rfl, rfl⟩
  | 12, _, h => by cases (show some A.c_NotInside = some _ from h); exact ⟨_, rfl, T.ow_NotInside, T.cc_NotInside, fun _ => rfl, rfl⟩
  | 13, _, h => by cases (show some A.c_NoKey = some _ from h); exact ⟨_, rfl, T.ow_NoKey, T.cc_NoKey, fun _ => rfl, rfl⟩
  | 14, _, h => by cases (show some A.c_NoValue = some _ from h); exact ⟨_, rfl, T.ow_NoValue, T.cc_NoValue, fun _ => rfl, rfl⟩
  | 15, _, h => by cases (show some A.c_NoWay = some _ from h); exact ⟨_, rfl, T.ow_NoWay, T.cc_NoWay, fun _ => rfl, rfl⟩
  | 16, _, h => by cases (show some A.c_Idle = some _ from h); exact ⟨_, rfl, T.ow_Idle, T.cc_Idle, fun _ => rfl, rfl⟩
  | 17, _, h => by cases (show some A.c_Busy = some _ from h); exact ⟨_, rfl, T.ow_Busy, T.cc_Busy, fun _ => rfl, rfl⟩
  | 18, _, h => by cases (show some A.c_NotOpen = some _ from h); exact ⟨_, rfl, T.ow_NotOpen, T.cc_NotOpen, fun _ => rfl, rfl⟩
  | 19, _, h => by cases (show some A.c_Full = some _ from h); exact ⟨_, rfl, T.ow_Full, T.cc_Full, fun _ => rfl, rfl⟩
  | 20, _, h => by cases (show some A.c_TooMany = some _ from h); exact ⟨_, rfl, T.ow_TooMany, T.cc_TooMany, fun _ => rfl, rfl⟩
  | n + 21, _, h => by cases h
theorem kit_at (T : Txt w K mg A) {i j : Nat} {D C : Addr} (hi : (clsL A)[i]? = some D) (hj : (clsL A)[j]? = some C) : PySem.W.kitOne K (.ref D) (.ref C) = some (decide (j = i)) := by
  obtain ⟨b, _, T1, _, hb, _⟩ := own_at T hi
  obtain ⟨b', _, T2, _, _, _⟩ := own_at T hj
  have nd : (clsL A).Nodup := T.nd_errs
  rw [EV.kit_own T1 T2 hb]
  by_cases e : D = C
  · subst e
    have := nd_ix nd hi hj
    rw [decide_eq_true rfl, decide_eq_true this.symm]
  · rw [decide_eq_false e, decide_eq_false (fun z => e (by rw [z, hi] at hj; exact Option.some.inj hj))]
theorem ok_made (T : Txt w K mg A) : FnOk P w K mg base CX0 4 A.a_made A.d_made ["_law_way", "_law_value"] (spMade A) := by
  refine T.F_made.ok sc_made (fun vs H Q E h => ?_) (fun cdv A' outer s H vs Q E hr h => ?_)
  · obtain ⟨i, v, rfl, _⟩ := h
    rfl
  · obtain ⟨i, v, rfl, hi, k⟩ := h
    refine ⟨_, (cutAt (ps_if (pt_cmpR op_lt (pv 0) pe_int (nomark _))
      (pss_one (ps_ret (pe_ix ix_list (pe_lst (pa_cons (L2.pe_exc1 PySem.F.excBase_ValueError T.ex_NoRecord T.mg_NoRecord T.kc_NoRecord (by rfl) pe_str) (pa_cons (L2.pe_exc1 PySem.F.excBase_ValueError T.ex_Unsound T.mg_Unsound T.kc_Unsound (by rfl) pe_str) (pa_cons (L2.pe_exc1 PySem.F.excBase_ValueError T.ex_NoRow T.mg_NoRow T.kc_NoRow (by rfl) pe_str) pa_nil)))) (pv 0) (fun _ _ => rfl))))
      pss_nil)
      (cutAt (ps_if (pt_cmpR op_lt (pv 0) pe_int (nomark _))
      (pss_one (ps_ret (pe_ix ix_list (pe_lst (pa_cons (EV.pe_err (fun v => [v]) (fun v => [("room", v)]) T.ow_NoChain T.ic_NoChain T.ti_NoChain (ok_NoChain_init T) (hr.mono (by decide)) T.b_NoChain_init (hsp1 A.c_NoChain "room") (fun _ => by show 1 ≤ 1000; decide) (by rfl) T.mg_NoChain (pa_cons (pv 1) pa_nil)) (pa_cons (EV.pe_err (fun v => [v]) (fun v => [("number", v)]) T.ow_NoPairs T.ic_NoPairs T.ti_NoPairs (ok_NoPairs_init T) (hr.mono (by decide)) T.b_NoPairs_init (hsp1 A.c_NoPairs "number") (fun _ => by show 1 ≤ 1000; decide) (by rfl) T.mg_NoPairs (pa_cons (pv 1) pa_nil)) (pa_cons (EV.pe_err (fun v => [v]) (fun v => [("word", v)]) T.ow_NoSize T.ic_NoSize T.ti_NoSize (ok_NoSize_init T) (hr.mono (by decide)) T.b_NoSize_init (hsp1 A.c_NoSize "word") (fun _ => by show 1 ≤ 1000; decide) (by rfl) T.mg_NoSize (pa_cons (pv 1) pa_nil)) (pa_cons (EV.pe_err (fun v => [v]) (fun v => [("row", v)]) T.ow_NoText T.ic_NoText T.ti_NoText (ok_NoText_init T) (hr.mono (by decide)) T.b_NoText_init (hsp1 A.c_NoText "row") (fun _ => by show 1 ≤ 1000; decide) (by rfl) T.mg_NoText (pa_cons (pv 1) pa_nil)) (pa_cons (EV.pe_err (fun v => [v]) (fun v => [("number", v)]) T.ow_NoGoing T.ic_NoGoing T.ti_NoGoing (ok_NoGoing_init T) (hr.mono (by decide)) T.b_NoGoing_init (hsp1 A.c_NoGoing "number") (fun _ => by show 1 ≤ 1000; decide) (by rfl) T.mg_NoGoing (pa_cons (pv 1) pa_nil)) pa_nil)))))) (pe_op op_sub (pv 0) pe_int) (fun _ _ => rfl))))
      pss_nil)
      (cutAt (ps_if (pt_cmpR op_lt (pv 0) pe_int (nomark _))
      (pss_cons (ps_set (i := 2) sc_made.nd rfl (Or.inl rfl) (pe_lst (pa_cons (EV.pe_err (fun v => [v]) (fun v => [("room", v)]) T.ow_NoRoom T.ic_NoRoom T.ti_NoRoom (ok_NoRoom_init T) (hr.mono (by decide)) T.b_NoRoom_init (hsp1 A.c_NoRoom "room") (fun _ => by show 1 ≤ 1000; decide) (by rfl) T.mg_NoRoom (pa_cons (pv 1) pa_nil)) (pa_cons (EV.pe_err (fun v => [v]) (fun v => [("slot", v)]) T.ow_NoSlot T.ic_NoSlot T.ti_NoSlot (ok_NoSlot_init T) (hr.mono (by decide)) T.b_NoSlot_init (hsp1 A.c_NoSlot "slot") (fun _ => by show 1 ≤ 1000; decide) (by rfl) T.mg_NoSlot (pa_cons (pv 1) pa_nil)) (pa_cons (EV.pe_err (fun v => [v]) (fun v => [("name", v)]) T.ow_NoName T.ic_NoName T.ti_NoName (ok_NoName_init T) (hr.mono (by decide)) T.b_NoName_init (hsp1 A.c_NoName "name") (fun _ => by show 1 ≤ 1000; decide) (by rfl) T.mg_NoName (pa_cons (pv 1) pa_nil)) (pa_cons (EV.pe_err (fun v => [v]) (fun v => [("name", v)]) T.ow_Twice T.ic_Twice T.ti_Twice (ok_Twice_init T) (hr.mono (by decide)) T.b_Twice_init (hsp1 A.c_Twice "name") (fun _ => by show 1 ≤ 1000; decide) (by rfl) T.mg_Twice (pa_cons (pv 1) pa_nil)) (pa_cons (EV.pe_err (fun v => [v]) (fun v => [("name", v)]) T.ow_NotInside T.ic_NotInside T.ti_NotInside (ok_NotInside_init T) (hr.mono (by decide)) T.b_NotInside_init (hsp1 A.c_NotInside "name") (fun _ => by show 1 ≤ 1000; decide) (by rfl) T.mg_NotInside (pa_cons (pv 1) pa_nil)) (pa_cons (EV.pe_err (fun v => [v]) (fun v => [("key", v)]) T.ow_NoKey T.ic_NoKey T.ti_NoKey (ok_NoKey_init T) (hr.mono (by decide)) T.b_NoKey_init (hsp1 A.c_NoKey "key") (fun _ => by show 1 ≤ 1000; decide) (by rfl) T.mg_NoKey (pa_cons (pv 1) pa_nil)) pa_nil))))))))
      (pss_one (ps_ret (pe_ix ix_list (pe_op op_cat (pv 2) (pe_lst (pa_cons (EV.pe_err (fun v => [v]) (fun v => [("value", v)]) T.ow_NoValue T.ic_NoValue T.ti_NoValue (ok_NoValue_init T) (hr.mono (by decide)) T.b_NoValue_init (hsp1 A.c_NoValue "value") (fun _ => by show 1 ≤ 1000; decide) (by rfl) T.mg_NoValue (pa_cons (pv 1) pa_nil)) pa_nil))) (pe_op op_sub (pv 0) pe_int) (fun _ _ => rfl)))))
      pss_nil)
      (cutAt (ps_if (pt_cmpR op_lt (pv 0) pe_int (nomark _))
      (pss_one (ps_ret (pe_ix ix_list (pe_lst (pa_cons (EV.pe_err (fun v => [v, (V.int 7)]) (fun v => [("key", (V.int 7)), ("slot", v)]) T.ow_NoWay T.ic_NoWay T.ti_NoWay (ok_NoWay_init T) (hr.mono (by decide)) T.b_NoWay_init (hsp2 A.c_NoWay "slot" "key" (V.int 7)) (fun _ => by show 2 ≤ 1000; decide) (by rfl) T.mg_NoWay (pa_cons (pv 1) (pa_cons pe_int pa_nil))) (pa_cons (EV.pe_err (fun v => [v]) (fun v => [("name", v)]) T.ow_Idle T.ic_Idle T.ti_Idle (ok_Idle_init T) (hr.mono (by decide)) T.b_Idle_init (hsp1 A.c_Idle "name") (fun _ => by show 1 ≤ 1000; decide) (by rfl) T.mg_Idle (pa_cons (pv 1) pa_nil)) (pa_cons (EV.pe_err (fun v => [v]) (fun v => [("name", v)]) T.ow_Busy T.ic_Busy T.ti_Busy (ok_Busy_init T) (hr.mono (by decide)) T.b_Busy_init (hsp1 A.c_Busy "name") (fun _ => by show 1 ≤ 1000; decide) (by rfl) T.mg_Busy (pa_cons (pv 1) pa_nil)) pa_nil)))) (pe_op op_sub (pv 0) pe_int) (fun _ _ => rfl))))
      pss_nil)
      (pss_one (ps_ret (pe_ix ix_list (pe_lst (pa_cons (EV.pe_err (fun v => [v]) (fun v => [("state", v)]) T.ow_NotOpen T.ic_NotOpen T.ti_NotOpen (ok_NotOpen_init T) (hr.mono (by decide)) T.b_NotOpen_init (hsp1 A.c_NotOpen "state") (fun _ => by show 1 ≤ 1000; decide) (by rfl) T.mg_NotOpen (pa_cons (pv 1) pa_nil)) (pa_cons (EV.pe_err (fun v => [v]) (fun v => [("many", v)]) T.ow_Full T.ic_Full T.ti_Full (ok_Full_init T) (hr.mono (by decide)) T.b_Full_init (hsp1 A.c_Full "many") (fun _ => by show 1 ≤ 1000; decide) (by rfl) T.mg_Full (pa_cons (pv 1) pa_nil)) (pa_cons (EV.pe_err (fun v => [v]) (fun v => [("many", v)]) T.ow_TooMany T.ic_TooMany T.ti_TooMany (ok_TooMany_init T) (hr.mono (by decide)) T.b_TooMany_init (hsp1 A.c_TooMany "many") (fun _ => by show 1 ≤ 1000; decide) (by rfl) T.mg_TooMany (pa_cons (pv 1) pa_nil)) pa_nil)))) (pe_op op_sub (pv 0) pe_int) (fun _ _ => rfl)))))))), ?_⟩
    refine ⟨fun σ G => Wrap (σ = [some (.int (i : Int)), some v, none] ∧ G = H ∧ 3 ≤ i), ?_, ?_⟩
    · walk_at "go"
      with_reducible refine by2 (fun c => ?_) (fun c => ?_)
      · have c := of_decide_eq_true c
        walk_at "go"
        intro a0 f0
        have s0 := (Same.refl H).trans (same_new (o := ExO (.ref A.c_NoRecord) a0) f0)
        have e0 : ErrW A (upd H a0 (ExO (.ref A.c_NoRecord) a0)) 0 v a0 := ⟨_, rfl, .inl ⟨by decide, upd_same⟩⟩
        generalize upd H a0 (ExO (.ref A.c_NoRecord) a0) = H0 at *
        walk_at "go"
        intro a1 f1
        have s1 := (s0).trans (same_new (o := ExO (.ref A.c_Unsound) a1) f1)
        have e1 : ErrW A (upd H0 a1 (ExO (.ref A.c_Unsound) a1)) 1 v a1 := ⟨_, rfl, .inl ⟨by decide, upd_same⟩⟩
        have e0 := e0.same (same_new (o := ExO (.ref A.c_Unsound) a1) f1)
        generalize upd H0 a1 (ExO (.ref A.c_Unsound) a1) = H1 at *
        walk_at "go"
        intro a2 f2
        have s2 := (s1).trans (same_new (o := ExO (.ref A.c_NoRow) a2) f2)
        have e2 : ErrW A (upd H1 a2 (ExO (.ref A.c_NoRow) a2)) 2 v a2 := ⟨_, rfl, .inl ⟨by decide, upd_same⟩⟩
        have e0 := e0.same (same_new (o := ExO (.ref A.c_NoRow) a2) f2)
        have e1 := e1.same (same_new (o := ExO (.ref A.c_NoRow) a2) f2)
        generalize upd H1 a2 (ExO (.ref A.c_NoRow) a2) = H2 at *
        walk_at "go"
        intro L hL
        have sL := same_new (o := .lst [V.ref a0, V.ref a1, V.ref a2]) hL
        have hL_ : upd H2 L (.lst [V.ref a0, V.ref a1, V.ref a2]) L = some (.lst [V.ref a0, V.ref a1, V.ref a2]) := upd_same
        have e0 := e0.same sL
        have e1 := e1.same sL
        have e2 := e2.same sL
        have sF := s2.trans sL
        generalize upd H2 L (.lst [V.ref a0, V.ref a1, V.ref a2]) = HL at *
        have c : i = 0 ∨ i = 1 ∨ i = 2 := by omega
        rcases c with rfl | rfl | rfl
        · have a0 : atI [V.ref a0, V.ref a1, V.ref a2] (((0 : Nat) : Int)) = some (.ref a0) := atI_nat (j := 0) rfl
          walk_at "go"
          exact k _ HL sF e0
        · have a0 : atI [V.ref a0, V.ref a1, V.ref a2] (((1 : Nat) : Int)) = some (.ref a1) := atI_nat (j := 1) rfl
          walk_at "go"
          exact k _ HL sF e1
        · have a0 : atI [V.ref a0, V.ref a1, V.ref a2] (((2 : Nat) : Int)) = some (.ref a2) := atI_nat (j := 2) rfl
          walk_at "go"
          exact k _ HL sF e2
      · have c := of_decide_eq_false c
        exact ⟨rfl, rfl, by omega⟩
    rintro σ G0 ⟨rfl, rfl, g0⟩
    refine ⟨fun σ G => Wrap (σ = [some (.int (i : Int)), some v, none] ∧ G = G0 ∧ 8 ≤ i), ?_, ?_⟩
    · walk_at "go"
      with_reducible refine by2 (fun c => ?_) (fun c => ?_)
      · have c := of_decide_eq_true c
        walk_at "go"
        intro a3 x3 H3 f3 t3 p3 q3
        have s3 := (Same.refl G0).trans t3
        have e3 : ErrW A H3 3 v a3 := ⟨_, rfl, .inr ⟨by decide, x3, p3, q3⟩⟩
        walk_at "go"
        intro a4 x4 H4 f4 t4 p4 q4
        have s4 := (s3).trans t4
        have e4 : ErrW A H4 4 v a4 := ⟨_, rfl, .inr ⟨by decide, x4, p4, q4⟩⟩
        have e3 := e3.same t4
        walk_at "go"
        intro a5 x5 H5 f5 t5 p5 q5
        have s5 := (s4).trans t5
        have e5 : ErrW A H5 5 v a5 := ⟨_, rfl, .inr ⟨by decide, x5, p5, q5⟩⟩
        have e3 := e3.same t5
        have e4 := e4.same t5
        walk_at "go"
        intro a6 x6 H6 f6 t6 p6 q6
        have s6 := (s5).trans t6
        have e6 : ErrW A H6 6 v a6 := ⟨_, rfl, .inr ⟨by decide, x6, p6, q6⟩⟩
        have e3 := e3.same t6
        have e4 := e4.same t6
        have e5 := e5.same t6
        walk_at "go"
        intro a7 x7 H7 f7 t7 p7 q7
        have s7 := (s6).trans t7
        have e7 : ErrW A H7 7 v a7 := ⟨_, rfl, .inr ⟨by decide, x7, p7, q7⟩⟩
        have e3 := e3.same t7
        have e4 := e4.same t7
        have e5 := e5.same t7
        have e6 := e6.same t7
        walk_at "go"
        intro L hL
        have sL := same_new (o := .lst [V.ref a3, V.ref a4, V.ref a5, V.ref a6, V.ref a7]) hL
        have hL_ : upd H7 L (.lst [V.ref a3, V.ref a4, V.ref a5, V.ref a6, V.ref a7]) L = some (.lst [V.ref a3, V.ref a4, V.ref a5, V.ref a6, V.ref a7]) := upd_same
        have e3 := e3.same sL
        have e4 := e4.same sL
        have e5 := e5.same sL
        have e6 := e6.same sL
        have e7 := e7.same sL
        have sF := s7.trans sL
        generalize upd H7 L (.lst [V.ref a3, V.ref a4, V.ref a5, V.ref a6, V.ref a7]) = HL at *
        have c : i = 3 ∨ i = 4 ∨ i = 5 ∨ i = 6 ∨ i = 7 := by omega
        rcases c with rfl | rfl | rfl | rfl | rfl
        · have a0 : atI [V.ref a3, V.ref a4, V.ref a5, V.ref a6, V.ref a7] (((3 : Nat) : Int) - 3) = some (.ref a3) := atI_nat (j := 0) rfl
          walk_at "go"
          exact k _ HL sF e3
        · have a0 : atI [V.ref a3, V.ref a4, V.ref a5, V.ref a6, V.ref a7] (((4 : Nat) : Int) - 3) = some (.ref a4) := atI_nat (j := 1) rfl
          walk_at "go"
          exact k _ HL sF e4
        · have a0 : atI [V.ref a3, V.ref a4, V.ref a5, V.ref a6, V.ref a7] (((5 : Nat) : Int) - 3) = some (.ref a5) := atI_nat (j := 2) rfl
          walk_at "go"
          exact k _ HL sF e5
        · have a0 : atI [V.ref a3, V.ref a4, V.ref a5, V.ref a6, V.ref a7] (((6 : Nat) : Int) - 3) = some (.ref a6) := atI_nat (j := 3) rfl
          walk_at "go"
          exact k _ HL sF e6
        · have a0 : atI [V.ref a3, V.ref a4, V.ref a5, V.ref a6, V.ref a7] (((7 : Nat) : Int) - 3) = some (.ref a7) := atI_nat (j := 4) rfl
          walk_at "go"
          exact k _ HL sF e7
      · have c := of_decide_eq_false c
        exact ⟨rfl, rfl, by omega⟩
    rintro σ G1 ⟨rfl, rfl, g1⟩
    refine ⟨fun σ G => Wrap (σ = [some (.int (i : Int)), some v, none] ∧ G = G1 ∧ 15 ≤ i), ?_, ?_⟩
    · walk_at "go"
      with_reducible refine by2 (fun c => ?_) (fun c => ?_)
      · have c := of_decide_eq_true c
        walk_at "go"
        intro a8 x8 H8 f8 t8 p8 q8
        have s8 := (Same.refl G1).trans t8
        have e8 : ErrW A H8 8 v a8 := ⟨_, rfl, .inr ⟨by decide, x8, p8, q8⟩⟩
        walk_at "go"
        intro a9 x9 H9 f9 t9 p9 q9
        have s9 := (s8).trans t9
        have e9 : ErrW A H9 9 v a9 := ⟨_, rfl, .inr ⟨by decide, x9, p9, q9⟩⟩
        have e8 := e8.same t9
        walk_at "go"
        intro a10 x10 H10 f10 t10 p10 q10
        have s10 := (s9).trans t10
        have e10 : ErrW A H10 10 v a10 := ⟨_, rfl, .inr ⟨by decide, x10, p10, q10⟩⟩
        have e8 := e8.same t10
        have e9 := e9.same t10
        walk_at "go"
        intro a11 x11 H11 f11 t11 p11 q11
        have s11 := (s10).trans t11
        have e11 : ErrW A H11 11 v a11 := ⟨_, rfl, .inr ⟨by decide, x11, p11, q11⟩⟩
        have e8 := e8.same t11
        have e9 := e9.same t11
        have e10 := e10.same t11
        walk_at "go"
        intro a12 x12 H12 f12 t12 p12 q12
        have s12 := (s11).trans t12
        have e12 : ErrW A H12 12 v a12 := ⟨_, rfl, .inr ⟨by decide, x12, p12, q12⟩⟩
        have e8 := e8.same t12
        have e9 := e9.same t12
        have e10 := e10.same t12
        have e11 := e11.same t12
        walk_at "go"
        intro a13 x13 H13 f13 t13 p13 q13
        have s13 := (s12).trans t13
        have e13 : ErrW A H13 13 v a13 := ⟨_, rfl, .inr ⟨by decide, x13, p13, q13⟩⟩
        have e8 := e8.same t13
        have e9 := e9.same t13
        have e10 := e10.same t13
        have e11 := e11.same t13
        have e12 := e12.same t13
        walk_at "go"
        intro L0 hL0
        have sL0 := same_new (o := .lst [.ref a8, .ref a9, .ref a10, .ref a11, .ref a12, .ref a13]) hL0
        have hL0_ : upd H13 L0 (.lst [.ref a8, .ref a9, .ref a10, .ref a11, .ref a12, .ref a13]) L0 = some (.lst [.ref a8, .ref a9, .ref a10, .ref a11, .ref a12, .ref a13]) := upd_same
        have e8 := e8.same sL0
        have e9 := e9.same sL0
        have e10 := e10.same sL0
        have e11 := e11.same sL0
        have e12 := e12.same sL0
        have e13 := e13.same sL0
        have s13 := s13.trans sL0
        generalize upd H13 L0 (.lst [.ref a8, .ref a9, .ref a10, .ref a11, .ref a12, .ref a13]) = H13 at *
        walk_at "go"
        intro a14 x14 H14 f14 t14 p14 q14
        have s14 := (s13).trans t14
        have e14 : ErrW A H14 14 v a14 := ⟨_, rfl, .inr ⟨by decide, x14, p14, q14⟩⟩
        have e8 := e8.same t14
        have e9 := e9.same t14
        have e10 := e10.same t14
        have e11 := e11.same t14
        have e12 := e12.same t14
        have e13 := e13.same t14
        have hL0_ := t14 _ _ hL0_
        walk_at "go"
        intro L1 hL1
        have sL1 := same_new (o := .lst [.ref a14]) hL1
        have hL1_ : upd H14 L1 (.lst [.ref a14]) L1 = some (.lst [.ref a14]) := upd_same
        have hL0_ := sL1 _ _ hL0_
        have e8 := e8.same sL1
        have e9 := e9.same sL1
        have e10 := e10.same sL1
        have e11 := e11.same sL1
        have e12 := e12.same sL1
        have e13 := e13.same sL1
        have e14 := e14.same sL1
        have s14 := s14.trans sL1
        generalize upd H14 L1 (.lst [.ref a14]) = H14 at *
        have hz : ([V.ref a8, V.ref a9, V.ref a10, V.ref a11, V.ref a12, V.ref a13] : List V).length + ([V.ref a14] : List V).length ≤ sizeLine := Nat.le_of_lt (small1000 (by show 6 + 1 ≤ 1000; decide))
        walk_at "go"
        intro L hL
        have sL := same_new (o := .lst ([V.ref a8, V.ref a9, V.ref a10, V.ref a11, V.ref a12, V.ref a13] ++ [V.ref a14])) hL
        have hL_ : upd H14 L (.lst ([V.ref a8, V.ref a9, V.ref a10, V.ref a11, V.ref a12, V.ref a13] ++ [V.ref a14])) L = some (.lst ([V.ref a8, V.ref a9, V.ref a10, V.ref a11, V.ref a12, V.ref a13] ++ [V.ref a14])) := upd_same
        have e8 := e8.same sL
        have e9 := e9.same sL
        have e10 := e10.same sL
        have e11 := e11.same sL
        have e12 := e12.same sL
        have e13 := e13.same sL
        have e14 := e14.same sL
        have sF := s14.trans sL
        generalize upd H14 L (.lst ([V.ref a8, V.ref a9, V.ref a10, V.ref a11, V.ref a12, V.ref a13] ++ [V.ref a14])) = HL at *
        have c : i = 8 ∨ i = 9 ∨ i = 10 ∨ i = 11 ∨ i = 12 ∨ i = 13 ∨ i = 14 := by omega
        rcases c with rfl | rfl | rfl | rfl | rfl | rfl | rfl
        · have a0 : atI ([V.ref a8, V.ref a9, V.ref a10, V.ref a11, V.ref a12, V.ref a13] ++ [V.ref a14]) (((8 : Nat) : Int) - 8) = some (.ref a8) := atI_nat (j := 0) rfl
          walk_at "go"
          exact k _ HL sF e8
        · have a0 : atI ([V.ref a8, V.ref a9, V.ref a10, V.ref a11, V.ref a12, V.ref a13] ++ [V.ref a14]) (((9 : Nat) : Int) - 8) = some (.ref a9) := atI_nat (j := 1) rfl
          walk_at "go"
          exact k _ HL sF e9
        · have a0 : atI ([V.ref a8, V.ref a9, V.ref a10, V.ref a11, V.ref a12, V.ref a13] ++ [V.ref a14]) (((10 : Nat) : Int) - 8) = some (.ref a10) := atI_nat (j := 2) rfl
          walk_at "go"
          exact k _ HL sF e10
        · have a0 : atI ([V.ref a8, V.ref a9, V.ref a10, V.ref a11, V.ref a12, V.ref a13] ++ [V.ref a14]) (((11 : Nat) : Int) - 8) = some (.ref a11) := atI_nat (j := 3) rfl
          walk_at "go"
          exact k _ HL sF e11
        · have a0 : atI ([V.ref a8, V.ref a9, V.ref a10, V.ref a11, V.ref a12, V.ref a13] ++ [V.ref a14]) (((12 : Nat) : Int) - 8) = some (.ref a12) := atI_nat (j := 4) rfl
          walk_at "go"
          exact k _ HL sF e12
        · have a0 : atI ([V.ref a8, V.ref a9, V.ref a10, V.ref a11, V.ref a12, V.ref a13] ++ [V.ref a14]) (((13 : Nat) : Int) - 8) = some (.ref a13) := atI_nat (j := 5) rfl
          walk_at "go"
          exact k _ HL sF e13
        · have a0 : atI ([V.ref a8, V.ref a9, V.ref a10, V.ref a11, V.ref a12, V.ref a13] ++ [V.ref a14]) (((14 : Nat) : Int) - 8) = some (.ref a14) := atI_nat (j := 6) rfl
          walk_at "go"
          exact k _ HL sF e14
      · have c := of_decide_eq_false c
        exact ⟨rfl, rfl, by omega⟩
    rintro σ G2 ⟨rfl, rfl, g2⟩
    refine ⟨fun σ G => Wrap (σ = [some (.int (i : Int)), some v, none] ∧ G = G2 ∧ 18 ≤ i), ?_, ?_⟩
    · walk_at "go"
      with_reducible refine by2 (fun c => ?_) (fun c => ?_)
      · have c := of_decide_eq_true c
        walk_at "go"
        intro a15 x15 H15 f15 t15 p15 q15
        have s15 := (Same.refl G2).trans t15
        have e15 : ErrW A H15 15 v a15 := ⟨_, rfl, .inr ⟨by decide, x15, p15, q15⟩⟩
        walk_at "go"
        intro a16 x16 H16 f16 t16 p16 q16
        have s16 := (s15).trans t16
        have e16 : ErrW A H16 16 v a16 := ⟨_, rfl, .inr ⟨by decide, x16, p16, q16⟩⟩
        have e15 := e15.same t16
        walk_at "go"
        intro a17 x17 H17 f17 t17 p17 q17
        have s17 := (s16).trans t17
        have e17 : ErrW A H17 17 v a17 := ⟨_, rfl, .inr ⟨by decide, x17, p17, q17⟩⟩
        have e15 := e15.same t17
        have e16 := e16.same t17
        walk_at "go"
        intro L hL
        have sL := same_new (o := .lst [V.ref a15, V.ref a16, V.ref a17]) hL
        have hL_ : upd H17 L (.lst [V.ref a15, V.ref a16, V.ref a17]) L = some (.lst [V.ref a15, V.ref a16, V.ref a17]) := upd_same
        have e15 := e15.same sL
        have e16 := e16.same sL
        have e17 := e17.same sL
        have sF := s17.trans sL
        generalize upd H17 L (.lst [V.ref a15, V.ref a16, V.ref a17]) = HL at *
        have c : i = 15 ∨ i = 16 ∨ i = 17 := by omega
        rcases c with rfl | rfl | rfl
        · have a0 : atI [V.ref a15, V.ref a16, V.ref a17] (((15 : Nat) : Int) - 15) = some (.ref a15) := atI_nat (j := 0) rfl
          walk_at "go"
          exact k _ HL sF e15
        · have a0 : atI [V.ref a15, V.ref a16, V.ref a17] (((16 : Nat) : Int) - 15) = some (.ref a16) := atI_nat (j := 1) rfl
          walk_at "go"
          exact k _ HL sF e16
        · have a0 : atI [V.ref a15, V.ref a16, V.ref a17] (((17 : Nat) : Int) - 15) = some (.ref a17) := atI_nat (j := 2) rfl
          walk_at "go"
          exact k _ HL sF e17
      · have c := of_decide_eq_false c
        exact ⟨rfl, rfl, by omega⟩
    rintro σ G3 ⟨rfl, rfl, g3⟩
    walk_at "go"
    intro a18 x18 H18 f18 t18 p18 q18
    have s18 := (Same.refl G3).trans t18
    have e18 : ErrW A H18 18 v a18 := ⟨_, rfl, .inr ⟨by decide, x18, p18, q18⟩⟩
    walk_at "go"
    intro a19 x19 H19 f19 t19 p19 q19
    have s19 := (s18).trans t19
    have e19 : ErrW A H19 19 v a19 := ⟨_, rfl, .inr ⟨by decide, x19, p19, q19⟩⟩
    have e18 := e18.same t19
    walk_at "go"
    intro a20 x20 H20 f20 t20 p20 q20
    have s20 := (s19).trans t20
    have e20 : ErrW A H20 20 v a20 := ⟨_, rfl, .inr ⟨by decide, x20, p20, q20⟩⟩
    have e18 := e18.same t20
    have e19 := e19.same t20
    walk_at "go"
    intro L hL
    have sL := same_new (o := .lst [V.ref a18, V.ref a19, V.ref a20]) hL
    have hL_ : upd H20 L (.lst [V.ref a18, V.ref a19, V.ref a20]) L = some (.lst [V.ref a18, V.ref a19, V.ref a20]) := upd_same
    have e18 := e18.same sL
    have e19 := e19.same sL
    have e20 := e20.same sL
    have sF := s20.trans sL
    generalize upd H20 L (.lst [V.ref a18, V.ref a19, V.ref a20]) = HL at *
    have c : i = 18 ∨ i = 19 ∨ i = 20 := by omega
    rcases c with rfl | rfl | rfl
    · have a0 : atI [V.ref a18, V.ref a19, V.ref a20] (((18 : Nat) : Int) - 18) = some (.ref a18) := atI_nat (j := 0) rfl
      walk_at "go"
      exact k _ HL sF e18
    · have a0 : atI [V.ref a18, V.ref a19, V.ref a20] (((19 : Nat) : Int) - 18) = some (.ref a19) := atI_nat (j := 1) rfl
      walk_at "go"
      exact k _ HL sF e19
    · have a0 : atI [V.ref a18, V.ref a19, V.ref a20] (((20 : Nat) : Int) - 18) = some (.ref a20) := atI_nat (j := 2) rfl
      walk_at "go"
      exact k _ HL sF e20

theorem errAt_same {H H' : Hp} {a D : Addr} (s : Same H H') (h : EV.ErrAt H a D) : EV.ErrAt H' a D := by
  rcases h with ⟨dx, fs, h1, h2⟩ | h
  · exact .inl ⟨dx, fs, s _ _ h1, s _ _ h2⟩
  · exact .inr (s _ _ h)
theorem ok_sorts (T : Txt w K mg A) : FnOk P w K mg base CX0 2 A.a_sorts A.d_sorts ["_law_error"] (spBools A sortsL) := by
  refine T.F_sorts.ok sc_sorts (fun vs H Q E h => ?_) (fun cdv A' outer s H vs Q E hr h => ?_)
  · obtain ⟨i, v, a, rfl, _⟩ := h
    rfl
  · obtain ⟨i, v, a, rfl, hi, he, k⟩ := h
    obtain ⟨D, hD, hat⟩ := he.at_
    obtain ⟨b, hb, T1, hcc, _, hob⟩ := own_at T hD
    have hxc := EV.excC_of T1 hcc hob
    have k0 : EV.KitV K D (.ref A.c_NoRecord) (decide (0 = i)) := kit_at T hD (j := 0) rfl
    have k1 : EV.KitV K D (.ref A.c_Unsound) (decide (1 = i)) := kit_at T hD (j := 1) rfl
    have k2 : EV.KitV K D (.ref A.c_NoRow) (decide (2 = i)) := kit_at T hD (j := 2) rfl
    have k3 : EV.KitV K D (.ref A.c_NoChain) (decide (3 = i)) := kit_at T hD (j := 3) rfl
    have k4 : EV.KitV K D (.ref A.c_NoPairs) (decide (4 = i)) := kit_at T hD (j := 4) rfl
    have k5 : EV.KitV K D (.ref A.c_NoSize) (decide (5 = i)) := kit_at T hD (j := 5) rfl
    have k6 : EV.KitV K D (.ref A.c_NoText) (decide (6 = i)) := kit_at T hD (j := 6) rfl
    have k7 : EV.KitV K D (.ref A.c_NoGoing) (decide (7 = i)) := kit_at T hD (j := 7) rfl
    have k8 : EV.KitV K D (.ref A.c_NoRoom) (decide (8 = i)) := kit_at T hD (j := 8) rfl
    have k9 : EV.KitV K D (.ref A.c_NoSlot) (decide (9 = i)) := kit_at T hD (j := 9) rfl
    have k10 : EV.KitV K D (.ref A.c_NoName) (decide (10 = i)) := kit_at T hD (j := 10) rfl
    have k11 : EV.KitV K D (.ref A.c_Twice) (decide (11 = i)) := kit_at T hD (j := 11) rfl
    have k12 : EV.KitV K D (.ref A.c_NotInside) (decide (12 = i)) := kit_at T hD (j := 12) rfl
    have k13 : EV.KitV K D (.ref A.c_NoKey) (decide (13 = i)) := kit_at T hD (j := 13) rfl
    have k14 : EV.KitV K D (.ref A.c_NoValue) (decide (14 = i)) := kit_at T hD (j := 14) rfl
    have k15 : EV.KitV K D (.ref A.c_NoWay) (decide (15 = i)) := kit_at T hD (j := 15) rfl
    have k16 : EV.KitV K D (.ref A.c_Idle) (decide (16 = i)) := kit_at T hD (j := 16) rfl
    have k17 : EV.KitV K D (.ref A.c_Busy) (decide (17 = i)) := kit_at T hD (j := 17) rfl
    have k18 : EV.KitV K D (.ref A.c_NotOpen) (decide (18 = i)) := kit_at T hD (j := 18) rfl
    have k19 : EV.KitV K D (.ref A.c_Full) (decide (19 = i)) := kit_at T hD (j := 19) rfl
    have k20 : EV.KitV K D (.ref A.c_TooMany) (decide (20 = i)) := kit_at T hD (j := 20) rfl
    refine ⟨_, (pss_cons (ps_set (i := 1) sc_sorts.nd rfl (Or.inl rfl) (pe_lst (pa_cons (pe_callB EV.call_isV (by rfl) T.n_isinstance (by decide +kernel) (pa_cons (pv 0) (pa_cons (pe_glob (v := V.ref A.c_NoRecord) rfl T.mg_NoRecord rfl) pa_nil))) (pa_cons (pe_callB EV.call_isV (by rfl) T.n_isinstance (by decide +kernel) (pa_cons (pv 0) (pa_cons (pe_glob (v := V.ref A.c_Unsound) rfl T.mg_Unsound rfl) pa_nil))) (pa_cons (pe_callB EV.call_isV (by rfl) T.n_isinstance (by decide +kernel) (pa_cons (pv 0) (pa_cons (pe_glob (v := V.ref A.c_NoRow) rfl T.mg_NoRow rfl) pa_nil))) pa_nil)))))
      (pss_cons (ps_set (i := 1) sc_sorts.nd rfl (Or.inl rfl) (pe_op op_cat (pv 1) (pe_lst (pa_cons (pe_callB EV.call_isV (by rfl) T.n_isinstance (by decide +kernel) (pa_cons (pv 0) (pa_cons (pe_glob (v := V.ref A.c_NoChain) rfl T.mg_NoChain rfl) pa_nil))) (pa_cons (pe_callB EV.call_isV (by rfl) T.n_isinstance (by decide +kernel) (pa_cons (pv 0) (pa_cons (pe_glob (v := V.ref A.c_NoPairs) rfl T.mg_NoPairs rfl) pa_nil))) (pa_cons (pe_callB EV.call_isV (by rfl) T.n_isinstance (by decide +kernel) (pa_cons (pv 0) (pa_cons (pe_glob (v := V.ref A.c_NoSize) rfl T.mg_NoSize rfl) pa_nil))) pa_nil))))))
      (pss_cons (ps_set (i := 1) sc_sorts.nd rfl (Or.inl rfl) (pe_op op_cat (pv 1) (pe_lst (pa_cons (pe_callB EV.call_isV (by rfl) T.n_isinstance (by decide +kernel) (pa_cons (pv 0) (pa_cons (pe_glob (v := V.ref A.c_NoText) rfl T.mg_NoText rfl) pa_nil))) (pa_cons (pe_callB EV.call_isV (by rfl) T.n_isinstance (by decide +kernel) (pa_cons (pv 0) (pa_cons (pe_glob (v := V.ref A.c_NoGoing) rfl T.mg_NoGoing rfl) pa_nil))) (pa_cons (pe_callB EV.call_isV (by rfl) T.n_isinstance (by decide +kernel) (pa_cons (pv 0) (pa_cons (pe_glob (v := V.ref A.c_NoRoom) rfl T.mg_NoRoom rfl) pa_nil))) pa_nil))))))
      (pss_cons (ps_set (i := 1) sc_sorts.nd rfl (Or.inl rfl) (pe_op op_cat (pv 1) (pe_lst (pa_cons (pe_callB EV.call_isV (by rfl) T.n_isinstance (by decide +kernel) (pa_cons (pv 0) (pa_cons (pe_glob (v := V.ref A.c_NoSlot) rfl T.mg_NoSlot rfl) pa_nil))) (pa_cons (pe_callB EV.call_isV (by rfl) T.n_isinstance (by decide +kernel) (pa_cons (pv 0) (pa_cons (pe_glob (v := V.ref A.c_NoName) rfl T.mg_NoName rfl) pa_nil))) (pa_cons (pe_callB EV.call_isV (by rfl) T.n_isinstance (by decide +kernel) (pa_cons (pv 0) (pa_cons (pe_glob (v := V.ref A.c_Twice) rfl T.mg_Twice rfl) pa_nil))) pa_nil))))))
      (pss_cons (ps_set (i := 1) sc_sorts.nd rfl (Or.inl rfl) (pe_op op_cat (pv 1) (pe_lst (pa_cons (pe_callB EV.call_isV (by rfl) T.n_isinstance (by decide +kernel) (pa_cons (pv 0) (pa_cons (pe_glob (v := V.ref A.c_NotInside) rfl T.mg_NotInside rfl) pa_nil))) (pa_cons (pe_callB EV.call_isV (by rfl) T.n_isinstance (by decide +kernel) (pa_cons (pv 0) (pa_cons (pe_glob (v := V.ref A.c_NoKey) rfl T.mg_NoKey rfl) pa_nil))) (pa_cons (pe_callB EV.call_isV (by rfl) T.n_isinstance (by decide +kernel) (pa_cons (pv 0) (pa_cons (pe_glob (v := V.ref A.c_NoValue) rfl T.mg_NoValue rfl) pa_nil))) pa_nil))))))
      (pss_cons (ps_set (i := 1) sc_sorts.nd rfl (Or.inl rfl) (pe_op op_cat (pv 1) (pe_lst (pa_cons (pe_callB EV.call_isV (by rfl) T.n_isinstance (by decide +kernel) (pa_cons (pv 0) (pa_cons (pe_glob (v := V.ref A.c_NoWay) rfl T.mg_NoWay rfl) pa_nil))) (pa_cons (pe_callB EV.call_isV (by rfl) T.n_isinstance (by decide +kernel) (pa_cons (pv 0) (pa_cons (pe_glob (v := V.ref A.c_Idle) rfl T.mg_Idle rfl) pa_nil))) (pa_cons (pe_callB EV.call_isV (by rfl) T.n_isinstance (by decide +kernel) (pa_cons (pv 0) (pa_cons (pe_glob (v := V.ref A.c_Busy) rfl T.mg_Busy rfl) pa_nil))) pa_nil))))))
      (pss_one (ps_ret (pe_op op_cat (pv 1) (pe_lst (pa_cons (pe_callB EV.call_isV (by rfl) T.n_isinstance (by decide +kernel) (pa_cons (pv 0) (pa_cons (pe_glob (v := V.ref A.c_NotOpen) rfl T.mg_NotOpen rfl) pa_nil))) (pa_cons (pe_callB EV.call_isV (by rfl) T.n_isinstance (by decide +kernel) (pa_cons (pv 0) (pa_cons (pe_glob (v := V.ref A.c_Full) rfl T.mg_Full rfl) pa_nil))) (pa_cons (pe_callB EV.call_isV (by rfl) T.n_isinstance (by decide +kernel) (pa_cons (pv 0) (pa_cons (pe_glob (v := V.ref A.c_TooMany) rfl T.mg_TooMany rfl) pa_nil))) pa_nil))))))))))))), ?_⟩
    walk_at "go"
    intro L0 f0
    have t0 := same_new (o := .lst [V.bl (decide (0 = i)), V.bl (decide (1 = i)), V.bl (decide (2 = i))]) f0
    have c0 : upd H L0 (.lst [V.bl (decide (0 = i)), V.bl (decide (1 = i)), V.bl (decide (2 = i))]) L0 = some (.lst [V.bl (decide (0 = i)), V.bl (decide (1 = i)), V.bl (decide (2 = i))]) := upd_same
    have s0 := (Same.refl H).trans t0
    have hat0 : EV.ErrAt (upd H L0 (.lst [V.bl (decide (0 = i)), V.bl (decide (1 = i)), V.bl (decide (2 = i))])) a D := errAt_same t0 hat
    generalize upd H L0 (.lst [V.bl (decide (0 = i)), V.bl (decide (1 = i)), V.bl (decide (2 = i))]) = G0 at *
    have hatM0 := hat0
    have cM0 := c0
    walk_at "go"
    intro L1 f1
    have t1 := same_new (o := .lst [V.bl (decide (3 = i)), V.bl (decide (4 = i)), V.bl (decide (5 = i))]) f1
    have c1 : upd G0 L1 (.lst [V.bl (decide (3 = i)), V.bl (decide (4 = i)), V.bl (decide (5 = i))]) L1 = some (.lst [V.bl (decide (3 = i)), V.bl (decide (4 = i)), V.bl (decide (5 = i))]) := upd_same
    have s1 := (s0).trans t1
    have hat1 : EV.ErrAt (upd G0 L1 (.lst [V.bl (decide (3 = i)), V.bl (decide (4 = i)), V.bl (decide (5 = i))])) a D := errAt_same t1 hatM0
    have d1 := t1 _ _ cM0
    generalize upd G0 L1 (.lst [V.bl (decide (3 = i)), V.bl (decide (4 = i)), V.bl (decide (5 = i))]) = G1 at *
    have hz1 : ([V.bl (decide (0 = i)), V.bl (decide (1 = i)), V.bl (decide (2 = i))] : List V).length + ([V.bl (decide (3 = i)), V.bl (decide (4 = i)), V.bl (decide (5 = i))] : List V).length ≤ sizeLine := Nat.le_of_lt (small1000 (by show 3 + 3 ≤ 1000; decide))
    walk_at "go"
    intro M1 fm1
    have eM1 : ([V.bl (decide (0 = i)), V.bl (decide (1 = i)), V.bl (decide (2 = i))] ++ [V.bl (decide (3 = i)), V.bl (decide (4 = i)), V.bl (decide (5 = i))] : List V) = [V.bl (decide (0 = i)), V.bl (decide (1 = i)), V.bl (decide (2 = i)), V.bl (decide (3 = i)), V.bl (decide (4 = i)), V.bl (decide (5 = i))] := rfl
    rw [eM1]
    have tm1 := same_new (o := .lst [V.bl (decide (0 = i)), V.bl (decide (1 = i)), V.bl (decide (2 = i)), V.bl (decide (3 = i)), V.bl (decide (4 = i)), V.bl (decide (5 = i))]) fm1
    have cM1 : upd G1 M1 (.lst [V.bl (decide (0 = i)), V.bl (decide (1 = i)), V.bl (decide (2 = i)), V.bl (decide (3 = i)), V.bl (decide (4 = i)), V.bl (decide (5 = i))]) M1 = some (.lst [V.bl (decide (0 = i)), V.bl (decide (1 = i)), V.bl (decide (2 = i)), V.bl (decide (3 = i)), V.bl (decide (4 = i)), V.bl (decide (5 = i))]) := upd_same
    have sm1 := s1.trans tm1
    have hatM1 := errAt_same tm1 hat1
    generalize upd G1 M1 (.lst [V.bl (decide (0 = i)), V.bl (decide (1 = i)), V.bl (decide (2 = i)), V.bl (decide (3 = i)), V.bl (decide (4 = i)), V.bl (decide (5 = i))]) = K1 at *
    clear eM1 d1 c1 hat1
    walk_at "go"
    intro L2 f2
    have t2 := same_new (o := .lst [V.bl (decide (6 = i)), V.bl (decide (7 = i)), V.bl (decide (8 = i))]) f2
    have c2 : upd K1 L2 (.lst [V.bl (decide (6 = i)), V.bl (decide (7 = i)), V.bl (decide (8 = i))]) L2 = some (.lst [V.bl (decide (6 = i)), V.bl (decide (7 = i)), V.bl (decide (8 = i))]) := upd_same
    have s2 := (sm1).trans t2
    have hat2 : EV.ErrAt (upd K1 L2 (.lst [V.bl (decide (6 = i)), V.bl (decide (7 = i)), V.bl (decide (8 = i))])) a D := errAt_same t2 hatM1
    have d2 := t2 _ _ cM1
    generalize upd K1 L2 (.lst [V.bl (decide (6 = i)), V.bl (decide (7 = i)), V.bl (decide (8 = i))]) = G2 at *
    have hz2 : ([V.bl (decide (0 = i)), V.bl (decide (1 = i)), V.bl (decide (2 = i)), V.bl (decide (3 = i)), V.bl (decide (4 = i)), V.bl (decide (5 = i))] : List V).length + ([V.bl (decide (6 = i)), V.bl (decide (7 = i)), V.bl (decide (8 = i))] : List V).length ≤ sizeLine := Nat.le_of_lt (small1000 (by show 6 + 3 ≤ 1000; decide))
    walk_at "go"
    intro M2 fm2
    have eM2 : ([V.bl (decide (0 = i)), V.bl (decide (1 = i)), V.bl (decide (2 = i)), V.bl (decide (3 = i)), V.bl (decide (4 = i)), V.bl (decide (5 = i))] ++ [V.bl (decide (6 = i)), V.bl (decide (7 = i)), V.bl (decide (8 = i))] : List V) = [V.bl (decide (0 = i)), V.bl (decide (1 = i)), V.bl (decide (2 = i)), V.bl (decide (3 = i)), V.bl (decide (4 = i)), V.bl (decide (5 = i)), V.bl (decide (6 = i)), V.bl (decide (7 = i)), V.bl (decide (8 = i))] := rfl
    rw [eM2]
    have tm2 := same_new (o := .lst [V.bl (decide (0 = i)), V.bl (decide (1 = i)), V.bl (decide (2 = i)), V.bl (decide (3 = i)), V.bl (decide (4 = i)), V.bl (decide (5 = i)), V.bl (decide (6 = i)), V.bl (decide (7 = i)), V.bl (decide (8 = i))]) fm2
    have cM2 : upd G2 M2 (.lst [V.bl (decide (0 = i)), V.bl (decide (1 = i)), V.bl (decide (2 = i)), V.bl (decide (3 = i)), V.bl (decide (4 = i)), V.bl (decide (5 = i)), V.bl (decide (6 = i)), V.bl (decide (7 = i)), V.bl (decide (8 = i))]) M2 = some (.lst [V.bl (decide (0 = i)), V.bl (decide (1 = i)), V.bl (decide (2 = i)), V.bl (decide (3 = i)), V.bl (decide (4 = i)), V.bl (decide (5 = i)), V.bl (decide (6 = i)), V.bl (decide (7 = i)), V.bl (decide (8 = i))]) := upd_same
    have sm2 := s2.trans tm2
    have hatM2 := errAt_same tm2 hat2
    generalize upd G2 M2 (.lst [V.bl (decide (0 = i)), V.bl (decide (1 = i)), V.bl (decide (2 = i)), V.bl (decide (3 = i)), V.bl (decide (4 = i)), V.bl (decide (5 = i)), V.bl (decide (6 = i)), V.bl (decide (7 = i)), V.bl (decide (8 = i))]) = K2 at *
    clear eM2 d2 c2 hat2
    walk_at "go"
    intro L3 f3
    have t3 := same_new (o := .lst [V.bl (decide (9 = i)), V.bl (decide (10 = i)), V.bl (decide (11 = i))]) f3
    have c3 : upd K2 L3 (.lst [V.bl (decide (9 = i)), V.bl (decide (10 = i)), V.bl (decide (11 = i))]) L3 = some (.lst [V.bl (decide (9 = i)), V.bl (decide (10 = i)), V.bl (decide (11 = i))]) := upd_same
    have s3 := (sm2).trans t3
    have hat3 : EV.ErrAt (upd K2 L3 (.lst [V.bl (decide (9 = i)), V.bl (decide (10 = i)), V.bl (decide (11 = i))])) a D := errAt_same t3 hatM2
    have d3 := t3 _ _ cM2
    generalize upd K2 L3 (.lst [V.bl (decide (9 = i)), V.bl (decide (10 = i)), V.bl (decide (11 = i))]) = G3 at *
    have hz3 : ([V.bl (decide (0 = i)), V.bl (decide (1 = i)), V.bl (decide (2 = i)), V.bl (decide (3 = i)), V.bl (decide (4 = i)), V.bl (decide (5 = i)), V.bl (decide (6 = i)), V.bl (decide (7 = i)), V.bl (decide (8 = i))] : List V).length + ([V.bl (decide (9 = i)), V.bl (decide (10 = i)), V.bl (decide (11 = i))] : List V).length ≤ sizeLine := Nat.le_of_lt (small1000 (by show 9 + 3 ≤ 1000; decide))
    walk_at "go"
    intro M3 fm3
    have eM3 : ([V.bl (decide (0 = i)), V.bl (decide (1 = i)), V.bl (decide (2 = i)), V.bl (decide (3 = i)), V.bl (decide (4 = i)), V.bl (decide (5 = i)), V.bl (decide (6 = i)), V.bl (decide (7 = i)), V.bl (decide (8 = i))] ++ [V.bl (decide (9 = i)), V.bl (decide (10 = i)), V.bl (decide (11 = i))] : List V) = [V.bl (decide (0 = i)), V.bl (decide (1 = i)), V.bl (decide (2 = i)), V.bl (decide (3 = i)), V.bl (decide (4 = i)), V.bl (decide (5 = i)), V.bl (decide (6 = i)), V.bl (decide (7 = i)), V.bl (decide (8 = i)), V.bl (decide (9 = i)), V.bl (decide (10 = i)), V.bl (decide (11 = i))] := rfl
    rw [eM3]
    have tm3 := same_new (o := .lst [V.bl (decide (0 = i)), V.bl (decide (1 = i)), V.bl (decide (2 = i)), V.bl (decide (3 = i)), V.bl (decide (4 = i)), V.bl (decide (5 = i)), V.bl (decide (6 = i)), V.bl (decide (7 = i)), V.bl (decide (8 = i)), V.bl (decide (9 = i)), V.bl (decide (10 = i)), V.bl (decide (11 = i))]) fm3
    have cM3 : upd G3 M3 (.lst [V.bl (decide (0 = i)), V.bl (decide (1 = i)), V.bl (decide (2 = i)), V.bl (decide (3 = i)), V.bl (decide (4 = i)), V.bl (decide (5 = i)), V.bl (decide (6 = i)), V.bl (decide (7 = i)), V.bl (decide (8 = i)), V.bl (decide (9 = i)), V.bl (decide (10 = i)), V.bl (decide (11 = i))]) M3 = some (.lst [V.bl (decide (0 = i)), V.bl (decide (1 = i)), V.bl (decide (2 = i)), V.bl (decide (3 = i)), V.bl (decide (4 = i)), V.bl (decide (5 = i)), V.bl (decide (6 = i)), V.bl (decide (7 = i)), V.bl (decide (8 = i)), V.bl (decide (9 = i)), V.bl (decide (10 = i)), V.bl (decide (11 = i))]) := upd_same
    have sm3 := s3.trans tm3
    have hatM3 := errAt_same tm3 hat3
    generalize upd G3 M3 (.lst [V.bl (decide (0 = i)), V.bl (decide (1 = i)), V.bl (decide (2 = i)), V.bl (decide (3 = i)), V.bl (decide (4 = i)), V.bl (decide (5 = i)), V.bl (decide (6 = i)), V.bl (decide (7 = i)), V.bl (decide (8 = i)), V.bl (decide (9 = i)), V.bl (decide (10 = i)), V.bl (decide (11 = i))]) = K3 at *
    clear eM3 d3 c3 hat3
    walk_at "go"
    intro L4 f4
    have t4 := same_new (o := .lst [V.bl (decide (12 = i)), V.bl (decide (13 = i)), V.bl (decide (14 = i))]) f4
    have c4 : upd K3 L4 (.lst [V.bl (decide (12 = i)), V.bl (decide (13 = i)), V.bl (decide (14 = i))]) L4 = some (.lst [V.bl (decide (12 = i)), V.bl (decide (13 = i)), V.bl (decide (14 = i))]) := upd_same
    have s4 := (sm3).trans t4
    have hat4 : EV.ErrAt (upd K3 L4 (.lst [V.bl (decide (12 = i)), V.bl (decide (13 = i)), V.bl (decide (14 = i))])) a D := errAt_same t4 hatM3
    have d4 := t4 _ _ cM3
    generalize upd K3 L4 (.lst [V.bl (decide (12 = i)), V.bl (decide (13 = i)), V.bl (decide (14 = i))]) = G4 at *
    have hz4 : ([V.bl (decide (0 = i)), V.bl (decide (1 = i)), V.bl (decide (2 = i)), V.bl (decide (3 = i)), V.bl (decide (4 = i)), V.bl (decide (5 = i)), V.bl (decide (6 = i)), V.bl (decide (7 = i)), V.bl (decide (8 = i)), V.bl (decide (9 = i)), V.bl (decide (10 = i)), V.bl (decide (11 = i))] : List V).length + ([V.bl (decide (12 = i)), V.bl (decide (13 = i)), V.bl (decide (14 = i))] : List V).length ≤ sizeLine := Nat.le_of_lt (small1000 (by show 12 + 3 ≤ 1000; decide))
    walk_at "go"
    intro M4 fm4
    have eM4 : ([V.bl (decide (0 = i)), V.bl (decide (1 = i)), V.bl (decide (2 = i)), V.bl (decide (3 = i)), V.bl (decide (4 = i)), V.bl (decide (5 = i)), V.bl (decide (6 = i)), V.bl (decide (7 = i)), V.bl (decide (8 = i)), V.bl (decide (9 = i)), V.bl (decide (10 = i)), V.bl (decide (11 = i))] ++ [V.bl (decide (12 = i)), V.bl (decide (13 = i)), V.bl (decide (14 = i))] : List V) = [V.bl (decide (0 = i)), V.bl (decide (1 = i)), V.bl (decide (2 = i)), V.bl (decide (3 = i)), V.bl (decide (4 = i)), V.bl (decide (5 = i)), V.bl (decide (6 = i)), V.bl (decide (7 = i)), V.bl (decide (8 = i)), V.bl (decide (9 = i)), V.bl (decide (10 = i)), V.bl (decide (11 = i)), V.bl (decide (12 = i)), V.bl (decide (13 = i)), V.bl (decide (14 = i))] := rfl
    rw [eM4]
    have tm4 := same_new (o := .lst [V.bl (decide (0 = i)), V.bl (decide (1 = i)), V.bl (decide (2 = i)), V.bl (decide (3 = i)), V.bl (decide (4 = i)), V.bl (decide (5 = i)), V.bl (decide (6 = i)), V.bl (decide (7 = i)), V.bl (decide (8 = i)), V.bl (decide (9 = i)), V.bl (decide (10 = i)), V.bl (decide (11 = i)), V.bl (decide (12 = i)), V.bl (decide (13 = i)), V.bl (decide (14 = i))]) fm4
    have cM4 : upd G4 M4 (.lst [V.bl (decide (0 = i)), V.bl (decide (1 = i)), V.bl (decide (2 = i)), V.bl (decide (3 = i)), V.bl (decide (4 = i)), V.bl (decide (5 = i)), V.bl (decide (6 = i)), V.bl (decide (7 = i)), V.bl (decide (8 = i)), V.bl (decide (9 = i)), V.bl (decide (10 = i)), V.bl (decide (11 = i)), V.bl (decide (12 = i)), V.bl (decide (13 = i)), V.bl (decide (14 = i))]) M4 = some (.lst [V.bl (decide (0 = i)), V.bl (decide (1 = i)), V.bl (decide (2 = i)), V.bl (decide (3 = i)), V.bl (decide (4 = i)), V.bl (decide (5 = i)), V.bl (decide (6 = i)), V.bl (decide (7 = i)), V.bl (decide (8 = i)), V.bl (decide (9 = i)), V.bl (decide (10 = i)), V.bl (decide (11 = i)), V.bl (decide (12 = i)), V.bl (decide (13 = i)), V.bl (decide (14 = i))]) := upd_same
    have sm4 := s4.trans tm4
    have hatM4 := errAt_same tm4 hat4
    generalize upd G4 M4 (.lst [V.bl (decide (0 = i)), V.bl (decide (1 = i)), V.bl (decide (2 = i)), V.bl (decide (3 = i)), V.bl (decide (4 = i)), V.bl (decide (5 = i)), V.bl (decide (6 = i)), V.bl (decide (7 = i)), V.bl (decide (8 = i)), V.bl (decide (9 = i)), V.bl (decide (10 = i)), V.bl (decide (11 = i)), V.bl (decide (12 = i)), V.bl (decide (13 = i)), V.bl (decide (14 = i))]) = K4 at *
    clear eM4 d4 c4 hat4
    walk_at "go"
    intro L5 f5
    have t5 := same_new (o := .lst [V.bl (decide (15 = i)), V.bl (decide (16 = i)), V.bl (decide (17 = i))]) f5
    have c5 : upd K4 L5 (.lst [V.bl (decide (15 = i)), V.bl (decide (16 = i)), V.bl (decide (17 = i))]) L5 = some (.lst [V.bl (decide (15 = i)), V.bl (decide (16 = i)), V.bl (decide (17 = i))]) := upd_same
    have s5 := (sm4).trans t5
    have hat5 : EV.ErrAt (upd K4 L5 (.lst [V.bl (decide (15 = i)), V.bl (decide (16 = i)), V.bl (decide (17 = i))])) a D := errAt_same t5 hatM4
    have d5 := t5 _ _ cM4
    generalize upd K4 L5 (.lst [V.bl (decide (15 = i)), V.bl (decide (16 = i)), V.bl (decide (17 = i))]) = G5 at *
    have hz5 : ([V.bl (decide (0 = i)), V.bl (decide (1 = i)), V.bl (decide (2 = i)), V.bl (decide (3 = i)), V.bl (decide (4 = i)), V.bl (decide (5 = i)), V.bl (decide (6 = i)), V.bl (decide (7 = i)), V.bl (decide (8 = i)), V.bl (decide (9 = i)), V.bl (decide (10 = i)), V.bl (decide (11 = i)), V.bl (decide (12 = i)), V.bl (decide (13 = i)), V.bl (decide (14 = i))] : List V).length + ([V.bl (decide (15 = i)), V.bl (decide (16 = i)), V.bl (decide (17 = i))] : List V).length ≤ sizeLine := Nat.le_of_lt (small1000 (by show 15 + 3 ≤ 1000; decide))
    walk_at "go"
    intro M5 fm5
    have eM5 : ([V.bl (decide (0 = i)), V.bl (decide (1 = i)), V.bl (decide (2 = i)), V.bl (decide (3 = i)), V.bl (decide (4 = i)), V.bl (decide (5 = i)), V.bl (decide (6 = i)), V.bl (decide (7 = i)), V.bl (decide (8 = i)), V.bl (decide (9 = i)), V.bl (decide (10 = i)), V.bl (decide (11 = i)), V.bl (decide (12 = i)), V.bl (decide (13 = i)), V.bl (decide (14 = i))] ++ [V.bl (decide (15 = i)), V.bl (decide (16 = i)), V.bl (decide (17 = i))] : List V) = [V.bl (decide (0 = i)), V.bl (decide (1 = i)), V.bl (decide (2 = i)), V.bl (decide (3 = i)), V.bl (decide (4 = i)), V.bl (decide (5 = i)), V.bl (decide (6 = i)), V.bl (decide (7 = i)), V.bl (decide (8 = i)), V.bl (decide (9 = i)), V.bl (decide (10 = i)), V.bl (decide (11 = i)), V.bl (decide (12 = i)), V.bl (decide (13 = i)), V.bl (decide (14 = i)), V.bl (decide (15 = i)), V.bl (decide (16 = i)), V.bl (decide (17 = i))] := rfl
    rw [eM5]
    have tm5 := same_new (o := .lst [V.bl (decide (0 = i)), V.bl (decide (1 = i)), V.bl (decide (2 = i)), V.bl (decide (3 = i)), V.bl (decide (4 = i)), V.bl (decide (5 = i)), V.bl (decide (6 = i)), V.bl (decide (7 = i)), V.bl (decide (8 = i)), V.bl (decide (9 = i)), V.bl (decide (10 = i)), V.bl (decide (11 = i)), V.bl (decide (12 = i)), V.bl (decide (13 = i)), V.bl (decide (14 = i)), V.bl (decide (15 = i)), V.bl (decide (16 = i)), V.bl (decide (17 = i))]) fm5
    have cM5 : upd G5 M5 (.lst [V.bl (decide (0 = i)), V.bl (decide (1 = i)), V.bl (decide (2 = i)), V.bl (decide (3 = i)), V.bl (decide (4 = i)), V.bl (decide (5 = i)), V.bl (decide (6 = i)), V.bl (decide (7 = i)), V.bl (decide (8 = i)), V.bl (decide (9 = i)), V.bl (decide (10 = i)), V.bl (decide (11 = i)), V.bl (decide (12 = i)), V.bl (decide (13 = i)), V.bl (decide (14 = i)), V.bl (decide (15 = i)), V.bl (decide (16 = i)), V.bl (decide (17 = i))]) M5 = some (.lst [V.bl (decide (0 = i)), V.bl (decide (1 = i)), V.bl (decide (2 = i)), V.bl (decide (3 = i)), V.bl (decide (4 = i)), V.bl (decide (5 = i)), V.bl (decide (6 = i)), V.bl (decide (7 = i)), V.bl (decide (8 = i)), V.bl (decide (9 = i)), V.bl (decide (10 = i)), V.bl (decide (11 = i)), V.bl (decide (12 = i)), V.bl (decide (13 = i)), V.bl (decide (14 = i)), V.bl (decide (15 = i)), V.bl (decide (16 = i)), V.bl (decide (17 = i))]) := upd_same
    have sm5 := s5.trans tm5
    have hatM5 := errAt_same tm5 hat5
    generalize upd G5 M5 (.lst [V.bl (decide (0 = i)), V.bl (decide (1 = i)), V.bl (decide (2 = i)), V.bl (decide (3 = i)), V.bl (decide (4 = i)), V.bl (decide (5 = i)), V.bl (decide (6 = i)), V.bl (decide (7 = i)), V.bl (decide (8 = i)), V.bl (decide (9 = i)), V.bl (decide (10 = i)), V.bl (decide (11 = i)), V.bl (decide (12 = i)), V.bl (decide (13 = i)), V.bl (decide (14 = i)), V.bl (decide (15 = i)), V.bl (decide (16 = i)), V.bl (decide (17 = i))]) = K5 at *
    clear eM5 d5 c5 hat5
    walk_at "go"
    intro L6 f6
    have t6 := same_new (o := .lst [V.bl (decide (18 = i)), V.bl (decide (19 = i)), V.bl (decide (20 = i))]) f6
    have c6 : upd K5 L6 (.lst [V.bl (decide (18 = i)), V.bl (decide (19 = i)), V.bl (decide (20 = i))]) L6 = some (.lst [V.bl (decide (18 = i)), V.bl (decide (19 = i)), V.bl (decide (20 = i))]) := upd_same
    have s6 := (sm5).trans t6
    have hat6 : EV.ErrAt (upd K5 L6 (.lst [V.bl (decide (18 = i)), V.bl (decide (19 = i)), V.bl (decide (20 = i))])) a D := errAt_same t6 hatM5
    have d6 := t6 _ _ cM5
    generalize upd K5 L6 (.lst [V.bl (decide (18 = i)), V.bl (decide (19 = i)), V.bl (decide (20 = i))]) = G6 at *
    have hz6 : ([V.bl (decide (0 = i)), V.bl (decide (1 = i)), V.bl (decide (2 = i)), V.bl (decide (3 = i)), V.bl (decide (4 = i)), V.bl (decide (5 = i)), V.bl (decide (6 = i)), V.bl (decide (7 = i)), V.bl (decide (8 = i)), V.bl (decide (9 = i)), V.bl (decide (10 = i)), V.bl (decide (11 = i)), V.bl (decide (12 = i)), V.bl (decide (13 = i)), V.bl (decide (14 = i)), V.bl (decide (15 = i)), V.bl (decide (16 = i)), V.bl (decide (17 = i))] : List V).length + ([V.bl (decide (18 = i)), V.bl (decide (19 = i)), V.bl (decide (20 = i))] : List V).length ≤ sizeLine := Nat.le_of_lt (small1000 (by show 18 + 3 ≤ 1000; decide))
    walk_at "go"
    intro M6 fm6
    have eM6 : ([V.bl (decide (0 = i)), V.bl (decide (1 = i)), V.bl (decide (2 = i)), V.bl (decide (3 = i)), V.bl (decide (4 = i)), V.bl (decide (5 = i)), V.bl (decide (6 = i)), V.bl (decide (7 = i)), V.bl (decide (8 = i)), V.bl (decide (9 = i)), V.bl (decide (10 = i)), V.bl (decide (11 = i)), V.bl (decide (12 = i)), V.bl (decide (13 = i)), V.bl (decide (14 = i)), V.bl (decide (15 = i)), V.bl (decide (16 = i)), V.bl (decide (17 = i))] ++ [V.bl (decide (18 = i)), V.bl (decide (19 = i)), V.bl (decide (20 = i))] : List V) = [V.bl (decide (0 = i)), V.bl (decide (1 = i)), V.bl (decide (2 = i)), V.bl (decide (3 = i)), V.bl (decide (4 = i)), V.bl (decide (5 = i)), V.bl (decide (6 = i)), V.bl (decide (7 = i)), V.bl (decide (8 = i)), V.bl (decide (9 = i)), V.bl (decide (10 = i)), V.bl (decide (11 = i)), V.bl (decide (12 = i)), V.bl (decide (13 = i)), V.bl (decide (14 = i)), V.bl (decide (15 = i)), V.bl (decide (16 = i)), V.bl (decide (17 = i)), V.bl (decide (18 = i)), V.bl (decide (19 = i)), V.bl (decide (20 = i))] := rfl
    rw [eM6]
    have tm6 := same_new (o := .lst [V.bl (decide (0 = i)), V.bl (decide (1 = i)), V.bl (decide (2 = i)), V.bl (decide (3 = i)), V.bl (decide (4 = i)), V.bl (decide (5 = i)), V.bl (decide (6 = i)), V.bl (decide (7 = i)), V.bl (decide (8 = i)), V.bl (decide (9 = i)), V.bl (decide (10 = i)), V.bl (decide (11 = i)), V.bl (decide (12 = i)), V.bl (decide (13 = i)), V.bl (decide (14 = i)), V.bl (decide (15 = i)), V.bl (decide (16 = i)), V.bl (decide (17 = i)), V.bl (decide (18 = i)), V.bl (decide (19 = i)), V.bl (decide (20 = i))]) fm6
    have cM6 : upd G6 M6 (.lst [V.bl (decide (0 = i)), V.bl (decide (1 = i)), V.bl (decide (2 = i)), V.bl (decide (3 = i)), V.bl (decide (4 = i)), V.bl (decide (5 = i)), V.bl (decide (6 = i)), V.bl (decide (7 = i)), V.bl (decide (8 = i)), V.bl (decide (9 = i)), V.bl (decide (10 = i)), V.bl (decide (11 = i)), V.bl (decide (12 = i)), V.bl (decide (13 = i)), V.bl (decide (14 = i)), V.bl (decide (15 = i)), V.bl (decide (16 = i)), V.bl (decide (17 = i)), V.bl (decide (18 = i)), V.bl (decide (19 = i)), V.bl (decide (20 = i))]) M6 = some (.lst [V.bl (decide (0 = i)), V.bl (decide (1 = i)), V.bl (decide (2 = i)), V.bl (decide (3 = i)), V.bl (decide (4 = i)), V.bl (decide (5 = i)), V.bl (decide (6 = i)), V.bl (decide (7 = i)), V.bl (decide (8 = i)), V.bl (decide (9 = i)), V.bl (decide (10 = i)), V.bl (decide (11 = i)), V.bl (decide (12 = i)), V.bl (decide (13 = i)), V.bl (decide (14 = i)), V.bl (decide (15 = i)), V.bl (decide (16 = i)), V.bl (decide (17 = i)), V.bl (decide (18 = i)), V.bl (decide (19 = i)), V.bl (decide (20 = i))]) := upd_same
    have sm6 := s6.trans tm6
    have hatM6 := errAt_same tm6 hat6
    generalize upd G6 M6 (.lst [V.bl (decide (0 = i)), V.bl (decide (1 = i)), V.bl (decide (2 = i)), V.bl (decide (3 = i)), V.bl (decide (4 = i)), V.bl (decide (5 = i)), V.bl (decide (6 = i)), V.bl (decide (7 = i)), V.bl (decide (8 = i)), V.bl (decide (9 = i)), V.bl (decide (10 = i)), V.bl (decide (11 = i)), V.bl (decide (12 = i)), V.bl (decide (13 = i)), V.bl (decide (14 = i)), V.bl (decide (15 = i)), V.bl (decide (16 = i)), V.bl (decide (17 = i)), V.bl (decide (18 = i)), V.bl (decide (19 = i)), V.bl (decide (20 = i))]) = K6 at *
    clear eM6 d6 c6 hat6
    exact k M6 K6 sm6 cM6
theorem above_at {i : Nat} {b : ER.BI} (hi : i < 21) (hb : biL[i]? = some b) : b.tl.contains (.type "ValueError") = decide (i < 8) ∧ b.tl.contains (.type "IndexError") = decide (i = 8 ∨ i = 9) ∧ b.tl.contains (.type "KeyError") = decide (10 ≤ i ∧ i < 15) ∧ b.tl.contains (.type "LookupError") = decide (8 ≤ i ∧ i < 16) ∧ b.tl.contains (.type "RuntimeError") = decide (16 ≤ i ∧ i < 19) ∧ b.tl.contains (.type "OverflowError") = decide (18 < i) := by
  have c : i = 0 ∨ i = 1 ∨ i = 2 ∨ i = 3 ∨ i = 4 ∨ i = 5 ∨ i = 6 ∨ i = 7 ∨ i = 8 ∨ i = 9 ∨ i = 10 ∨ i = 11 ∨ i = 12 ∨ i = 13 ∨ i = 14 ∨ i = 15 ∨ i = 16 ∨ i = 17 ∨ i = 18 ∨ i = 19 ∨ i = 20 := by omega
  rcases c with rfl | rfl | rfl | rfl | rfl | rfl | rfl | rfl | rfl | rfl | rfl | rfl | rfl | rfl | rfl | rfl | rfl | rfl | rfl | rfl | rfl <;> (obtain rfl := Option.some.inj hb; decide +kernel)
theorem ok_above (T : Txt w K mg A) : FnOk P w K mg base CX0 2 A.a_above A.d_above ["_law_error"] (spBools A aboveL) := by
  refine T.F_above.ok sc_above (fun vs H Q E h => ?_) (fun cdv A' outer s H vs Q E hr h => ?_)
  · obtain ⟨i, v, a, rfl, _⟩ := h
    rfl
  · obtain ⟨i, v, a, rfl, hi, he, k⟩ := h
    obtain ⟨D, hD, hat⟩ := he.at_
    obtain ⟨b, hb, T1, hcc, _, hob⟩ := own_at T hD
    have hxc := EV.excC_of T1 hcc hob
    obtain ⟨m0, m1, m2, m3, m4, m5⟩ := above_at hi hb
    have k0 : EV.KitV K D (.ty "ValueError") (decide (i < 8)) := by
      have e := EV.kit_base T1 (t := "ValueError") (by decide +kernel)
      rw [m0] at e
      exact e
    have k1 : EV.KitV K D (.ty "IndexError") (decide (i = 8 ∨ i = 9)) := by
      have e := EV.kit_base T1 (t := "IndexError") (by decide +kernel)
      rw [m1] at e
      exact e
    have k2 : EV.KitV K D (.ty "KeyError") (decide (10 ≤ i ∧ i < 15)) := by
      have e := EV.kit_base T1 (t := "KeyError") (by decide +kernel)
      rw [m2] at e
      exact e
    have k3 : EV.KitV K D (.ty "LookupError") (decide (8 ≤ i ∧ i < 16)) := by
      have e := EV.kit_base T1 (t := "LookupError") (by decide +kernel)
      rw [m3] at e
      exact e
    have k4 : EV.KitV K D (.ty "RuntimeError") (decide (16 ≤ i ∧ i < 19)) := by
      have e := EV.kit_base T1 (t := "RuntimeError") (by decide +kernel)
      rw [m4] at e
      exact e
    have k5 : EV.KitV K D (.ty "OverflowError") (decide (18 < i)) := by
      have e := EV.kit_base T1 (t := "OverflowError") (by decide +kernel)
      rw [m5] at e
      exact e
    refine ⟨_, (pss_cons (ps_set (i := 1) sc_above.nd rfl (Or.inl rfl) (pe_lst (pa_cons (pe_callB EV.call_isV (by rfl) T.n_isinstance (by decide +kernel) (pa_cons (pv 0) (pa_cons (pe_bltn (v := V.ty "ValueError") (by rfl) T.n_ValueError (by decide +kernel) rfl) pa_nil))) (pa_cons (pe_callB EV.call_isV (by rfl) T.n_isinstance (by decide +kernel) (pa_cons (pv 0) (pa_cons (pe_bltn (v := V.ty "IndexError") (by rfl) T.n_IndexError (by decide +kernel) rfl) pa_nil))) (pa_cons (pe_callB EV.call_isV (by rfl) T.n_isinstance (by decide +kernel) (pa_cons (pv 0) (pa_cons (pe_bltn (v := V.ty "KeyError") (by rfl) T.n_KeyError (by decide +kernel) rfl) pa_nil))) pa_nil)))))
      (pss_one (ps_ret (pe_op op_cat (pv 1) (pe_lst (pa_cons (pe_callB EV.call_isV (by rfl) T.n_isinstance (by decide +kernel) (pa_cons (pv 0) (pa_cons (pe_bltn (v := V.ty "LookupError") (by rfl) T.n_LookupError (by decide +kernel) rfl) pa_nil))) (pa_cons (pe_callB EV.call_isV (by rfl) T.n_isinstance (by decide +kernel) (pa_cons (pv 0) (pa_cons (pe_bltn (v := V.ty "RuntimeError") (by rfl) T.n_RuntimeError (by decide +kernel) rfl) pa_nil))) (pa_cons (pe_callB EV.call_isV (by rfl) T.n_isinstance (by decide +kernel) (pa_cons (pv 0) (pa_cons (pe_bltn (v := V.ty "OverflowError") (by rfl) T.n_OverflowError (by decide +kernel) rfl) pa_nil))) pa_nil)))))))), ?_⟩
    walk_at "go"
    intro L0 f0
    have t0 := same_new (o := .lst [V.bl (decide (i < 8)), V.bl (decide (i = 8 ∨ i = 9)), V.bl (decide (10 ≤ i ∧ i < 15))]) f0
    have c0 : upd H L0 (.lst [V.bl (decide (i < 8)), V.bl (decide (i = 8 ∨ i = 9)), V.bl (decide (10 ≤ i ∧ i < 15))]) L0 = some (.lst [V.bl (decide (i < 8)), V.bl (decide (i = 8 ∨ i = 9)), V.bl (decide (10 ≤ i ∧ i < 15))]) := upd_same
    have s0 := (Same.refl H).trans t0
    have hat0 : EV.ErrAt (upd H L0 (.lst [V.bl (decide (i < 8)), V.bl (decide (i = 8 ∨ i = 9)), V.bl (decide (10 ≤ i ∧ i < 15))])) a D := errAt_same t0 hat
    generalize upd H L0 (.lst [V.bl (decide (i < 8)), V.bl (decide (i = 8 ∨ i = 9)), V.bl (decide (10 ≤ i ∧ i < 15))]) = G0 at *
    have hatM0 := hat0
    have cM0 := c0
    walk_at "go"
    intro L1 f1
    have t1 := same_new (o := .lst [V.bl (decide (8 ≤ i ∧ i < 16)), V.bl (decide (16 ≤ i ∧ i < 19)), V.bl (decide (18 < i))]) f1
    have c1 : upd G0 L1 (.lst [V.bl (decide (8 ≤ i ∧ i < 16)), V.bl (decide (16 ≤ i ∧ i < 19)), V.bl (decide (18 < i))]) L1 = some (.lst [V.bl (decide (8 ≤ i ∧ i < 16)), V.bl (decide (16 ≤ i ∧ i < 19)), V.bl (decide (18 < i))]) := upd_same
    have s1 := (s0).trans t1
    have hat1 : EV.ErrAt (upd G0 L1 (.lst [V.bl (decide (8 ≤ i ∧ i < 16)), V.bl (decide (16 ≤ i ∧ i < 19)), V.bl (decide (18 < i))])) a D := errAt_same t1 hatM0
    have d1 := t1 _ _ cM0
    generalize upd G0 L1 (.lst [V.bl (decide (8 ≤ i ∧ i < 16)), V.bl (decide (16 ≤ i ∧ i < 19)), V.bl (decide (18 < i))]) = G1 at *
    have hz1 : ([V.bl (decide (i < 8)), V.bl (decide (i = 8 ∨ i = 9)), V.bl (decide (10 ≤ i ∧ i < 15))] : List V).length + ([V.bl (decide (8 ≤ i ∧ i < 16)), V.bl (decide (16 ≤ i ∧ i < 19)), V.bl (decide (18 < i))] : List V).length ≤ sizeLine := Nat.le_of_lt (small1000 (by show 3 + 3 ≤ 1000; decide))
    walk_at "go"
    intro M1 fm1
    have eM1 : ([V.bl (decide (i < 8)), V.bl (decide (i = 8 ∨ i = 9)), V.bl (decide (10 ≤ i ∧ i < 15))] ++ [V.bl (decide (8 ≤ i ∧ i < 16)), V.bl (decide (16 ≤ i ∧ i < 19)), V.bl (decide (18 < i))] : List V) = [V.bl (decide (i < 8)), V.bl (decide (i = 8 ∨ i = 9)), V.bl (decide (10 ≤ i ∧ i < 15)), V.bl (decide (8 ≤ i ∧ i < 16)), V.bl (decide (16 ≤ i ∧ i < 19)), V.bl (decide (18 < i))] := rfl
    rw [eM1]
    have tm1 := same_new (o := .lst [V.bl (decide (i < 8)), V.bl (decide (i = 8 ∨ i = 9)), V.bl (decide (10 ≤ i ∧ i < 15)), V.bl (decide (8 ≤ i ∧ i < 16)), V.bl (decide (16 ≤ i ∧ i < 19)), V.bl (decide (18 < i))]) fm1
    have cM1 : upd G1 M1 (.lst [V.bl (decide (i < 8)), V.bl (decide (i = 8 ∨ i = 9)), V.bl (decide (10 ≤ i ∧ i < 15)), V.bl (decide (8 ≤ i ∧ i < 16)), V.bl (decide (16 ≤ i ∧ i < 19)), V.bl (decide (18 < i))]) M1 = some (.lst [V.bl (decide (i < 8)), V.bl (decide (i = 8 ∨ i = 9)), V.bl (decide (10 ≤ i ∧ i < 15)), V.bl (decide (8 ≤ i ∧ i < 16)), V.bl (decide (16 ≤ i ∧ i < 19)), V.bl (decide (18 < i))]) := upd_same
    have sm1 := s1.trans tm1
    have hatM1 := errAt_same tm1 hat1
    generalize upd G1 M1 (.lst [V.bl (decide (i < 8)), V.bl (decide (i = 8 ∨ i = 9)), V.bl (decide (10 ≤ i ∧ i < 15)), V.bl (decide (8 ≤ i ∧ i < 16)), V.bl (decide (16 ≤ i ∧ i < 19)), V.bl (decide (18 < i))]) = K1 at *
    clear eM1 d1 c1 hat1
    exact k M1 K1 sm1 cM1
theorem ok_kept (T : Txt w K mg A) : FnOk P w K mg base CX0 2 A.a_kept A.d_kept ["_law_way", "_law_error"] (spKept A) := by
  refine T.F_kept.ok sc_kept (fun vs H Q E h => ?_) (fun cdv A' outer s H vs Q E hr h => ?_)
  · obtain ⟨i, v, a, rfl, _⟩ := h
    rfl
  · obtain ⟨i, v, a, rfl, hi, he, k⟩ := h
    obtain ⟨D, hD, hE⟩ := he
    obtain ⟨b, hb, T1, hcc, _, hob⟩ := own_at T hD
    have hxf := T1.xf
    refine ⟨_, (cutAt (ps_if (pt_cmpR op_lt (pv 0) pe_int (nomark _))
      (pss_one (ps_ret pe_non))
      pss_nil)
      (cutAt (ps_if (pt_cmpR op_in_seq (pv 0) (pe_lst (pa_cons pe_int (pa_cons pe_int pa_nil))) rfl)
      (pss_one (ps_ret (EV.pe_fldV (pv 1))))
      pss_nil)
      (cutAt (ps_if (pt_cmpR op_in_seq (pv 0) (pe_lst (pa_cons pe_int (pa_cons pe_int pa_nil))) rfl)
      (pss_one (ps_ret (EV.pe_fldV (pv 1))))
      pss_nil)
      (cutAt (ps_if (pt_cmpR op_eq (pv 0) pe_int (nomark _))
      (pss_one (ps_ret (EV.pe_fldV (pv 1))))
      pss_nil)
      (cutAt (ps_if (pt_cmpR op_eq (pv 0) pe_int (nomark _))
      (pss_one (ps_ret (EV.pe_fldV (pv 1))))
      pss_nil)
      (cutAt (ps_if (pt_cmpR op_eq (pv 0) pe_int (nomark _))
      (pss_one (ps_ret (EV.pe_fldV (pv 1))))
      pss_nil)
      (cutAt (ps_if (pt_cmpR op_in_seq (pv 0) (pe_lst (pa_cons pe_int (pa_cons pe_int (pa_cons pe_int (pa_cons pe_int (pa_cons pe_int pa_nil)))))) rfl)
      (pss_one (ps_ret (EV.pe_fldV (pv 1))))
      pss_nil)
      (cutAt (ps_if (pt_cmpR op_eq (pv 0) pe_int (nomark _))
      (pss_one (ps_ret (EV.pe_fldV (pv 1))))
      pss_nil)
      (cutAt (ps_if (pt_cmpR op_eq (pv 0) pe_int (nomark _))
      (pss_one (ps_ret (EV.pe_fldV (pv 1))))
      pss_nil)
      (cutAt (ps_if (pt_cmpR op_eq (pv 0) pe_int (nomark _))
      (pss_one (ps_ret (pe_tup (pa_cons (EV.pe_fldV (pv 1)) (pa_cons (EV.pe_fldV (pv 1)) pa_nil)))))
      pss_nil)
      (cutAt (ps_if (pt_cmpR op_eq (pv 0) pe_int (nomark _))
      (pss_one (ps_ret (EV.pe_fldV (pv 1))))
      pss_nil)
      (pss_one (ps_ret (EV.pe_fldV (pv 1))))))))))))))), ?_⟩
    refine ⟨fun σ G => Wrap (∃ dx, σ = [some (.int (i : Int)), some (.ref a)] ∧ Same H G ∧ 3 ≤ i ∧ G a = some (exo a D (some dx)) ∧ G dx = some (exd dx (fieldsV i v))), ?_, ?_⟩
    · walk_at "go"
      with_reducible refine by2 (fun c => ?_) (fun c => ?_)
      · have c := of_decide_eq_true c
        walk_at "go"
        exact k _ H (Same.refl H) (.inl ⟨by omega, rfl⟩)
      · have c := of_decide_eq_false c
        rcases hE with ⟨l, _⟩ | ⟨l, dx, h1, h2⟩
        · omega
        · exact ⟨dx, rfl, Same.refl H, l, h1, h2⟩
    rintro σ G ⟨dx, rfl, s0, l3, h1, h2⟩
    clear hE
    refine ⟨fun σ G => Wrap (σ = [some (.int (i : Int)), some (.ref a)] ∧ Same H G ∧ G a = some (exo a D (some dx)) ∧ G dx = some (exd dx (fieldsV i v)) ∧ i ∉ ([3, 8] : List Nat)), ?_, ?_⟩
    · walk_at "go"
      intro L hL
      have sL := same_new (o := .lst [V.int 3, V.int 8]) hL
      have hL9 : upd G L (.lst [V.int 3, V.int 8]) L = some (.lst [V.int 3, V.int 8]) := upd_same
      have fl : List.all [V.int 3, V.int 8] flatV = true := rfl
      have h1 := sL _ _ h1
      have h2 := sL _ _ h2
      have s9 := s0.trans sL
      generalize upd G L (.lst [V.int 3, V.int 8]) = G9 at *
      walk_at "go"
      with_reducible refine by2 (fun c => ?_) (fun c => ?_)
      · have c : (i : Int) ∈ ([3, 8] : List Int) := of_decide_eq_true ((inI (i : Int) [3, 8]).symm.trans c)
        have hc : i = 3 ∨ i = 8 := by simp at c; omega
        rcases hc with rfl | rfl
        · have no := T.no_NoChain_room
          obtain rfl : A.c_NoChain = D := Option.some.inj hD
          have l1 : (fieldsV 3 v).lookup ("room" : Str) = some v := by show List.lookup ("room" : Str) [("room", v)] = some v; simp [List.lookup]
          walk_at "go"
          exact k _ _ s9 (.inr (.inr ⟨by decide, by decide, rfl⟩))
        · have no := T.no_NoRoom_room
          obtain rfl : A.c_NoRoom = D := Option.some.inj hD
          have l1 : (fieldsV 8 v).lookup ("room" : Str) = some v := by show List.lookup ("room" : Str) [("room", v)] = some v; simp [List.lookup]
          walk_at "go"
          exact k _ _ s9 (.inr (.inr ⟨by decide, by decide, rfl⟩))
      · have c : (i : Int) ∉ ([3, 8] : List Int) := of_decide_eq_false ((inI (i : Int) [3, 8]).symm.trans c)
        exact ⟨rfl, s9, h1, h2, by simp at c ⊢; omega⟩
    rintro σ R0 ⟨rfl, s1, h1, h2, n0⟩
    refine ⟨fun σ G => Wrap (σ = [some (.int (i : Int)), some (.ref a)] ∧ Same H G ∧ G a = some (exo a D (some dx)) ∧ G dx = some (exd dx (fieldsV i v)) ∧ i ∉ ([4, 7] : List Nat)), ?_, ?_⟩
    · walk_at "go"
      intro L hL
      have sL := same_new (o := .lst [V.int 4, V.int 7]) hL
      have hL9 : upd R0 L (.lst [V.int 4, V.int 7]) L = some (.lst [V.int 4, V.int 7]) := upd_same
      have fl : List.all [V.int 4, V.int 7] flatV = true := rfl
      have h1 := sL _ _ h1
      have h2 := sL _ _ h2
      have s9 := s1.trans sL
      generalize upd R0 L (.lst [V.int 4, V.int 7]) = G9 at *
      walk_at "go"
      with_reducible refine by2 (fun c => ?_) (fun c => ?_)
      · have c : (i : Int) ∈ ([4, 7] : List Int) := of_decide_eq_true ((inI (i : Int) [4, 7]).symm.trans c)
        have hc : i = 4 ∨ i = 7 := by simp at c; omega
        rcases hc with rfl | rfl
        · have no := T.no_NoPairs_number
          obtain rfl : A.c_NoPairs = D := Option.some.inj hD
          have l1 : (fieldsV 4 v).lookup ("number" : Str) = some v := by show List.lookup ("number" : Str) [("number", v)] = some v; simp [List.lookup]
          walk_at "go"
          exact k _ _ s9 (.inr (.inr ⟨by decide, by decide, rfl⟩))
        · have no := T.no_NoGoing_number
          obtain rfl : A.c_NoGoing = D := Option.some.inj hD
          have l1 : (fieldsV 7 v).lookup ("number" : Str) = some v := by show List.lookup ("number" : Str) [("number", v)] = some v; simp [List.lookup]
          walk_at "go"
          exact k _ _ s9 (.inr (.inr ⟨by decide, by decide, rfl⟩))
      · have c : (i : Int) ∉ ([4, 7] : List Int) := of_decide_eq_false ((inI (i : Int) [4, 7]).symm.trans c)
        exact ⟨rfl, s9, h1, h2, by simp at c ⊢; omega⟩
    rintro σ R1 ⟨rfl, s2, h1, h2, n1⟩
    refine ⟨fun σ G => Wrap (σ = [some (.int (i : Int)), some (.ref a)] ∧ Same H G ∧ G a = some (exo a D (some dx)) ∧ G dx = some (exd dx (fieldsV i v)) ∧ i ≠ 5), ?_, ?_⟩
    · walk_at "go"
      with_reducible refine by2 (fun c => ?_) (fun c => ?_)
      · have hc : i = 5 := by have c := V.int.inj (of_decide_eq_true c); omega
        subst hc
        · have no := T.no_NoSize_word
          obtain rfl : A.c_NoSize = D := Option.some.inj hD
          have l1 : (fieldsV 5 v).lookup ("word" : Str) = some v := by show List.lookup ("word" : Str) [("word", v)] = some v; simp [List.lookup]
          walk_at "go"
          exact k _ _ s2 (.inr (.inr ⟨by decide, by decide, rfl⟩))
      · exact ⟨rfl, s2, h1, h2, fun e => of_decide_eq_false c (by rw [e]; rfl)⟩
    rintro σ R2 ⟨rfl, s3, h1, h2, n2⟩
    refine ⟨fun σ G => Wrap (σ = [some (.int (i : Int)), some (.ref a)] ∧ Same H G ∧ G a = some (exo a D (some dx)) ∧ G dx = some (exd dx (fieldsV i v)) ∧ i ≠ 6), ?_, ?_⟩
    · walk_at "go"
      with_reducible refine by2 (fun c => ?_) (fun c => ?_)
      · have hc : i = 6 := by have c := V.int.inj (of_decide_eq_true c); omega
        subst hc
        · have no := T.no_NoText_row
          obtain rfl : A.c_NoText = D := Option.some.inj hD
          have l1 : (fieldsV 6 v).lookup ("row" : Str) = some v := by show List.lookup ("row" : Str) [("row", v)] = some v; simp [List.lookup]
          walk_at "go"
          exact k _ _ s3 (.inr (.inr ⟨by decide, by decide, rfl⟩))
      · exact ⟨rfl, s3, h1, h2, fun e => of_decide_eq_false c (by rw [e]; rfl)⟩
    rintro σ R3 ⟨rfl, s4, h1, h2, n3⟩
    refine ⟨fun σ G => Wrap (σ = [some (.int (i : Int)), some (.ref a)] ∧ Same H G ∧ G a = some (exo a D (some dx)) ∧ G dx = some (exd dx (fieldsV i v)) ∧ i ≠ 9), ?_, ?_⟩
    · walk_at "go"
      with_reducible refine by2 (fun c => ?_) (fun c => ?_)
      · have hc : i = 9 := by have c := V.int.inj (of_decide_eq_true c); omega
        subst hc
        · have no := T.no_NoSlot_slot
          obtain rfl : A.c_NoSlot = D := Option.some.inj hD
          have l1 : (fieldsV 9 v).lookup ("slot" : Str) = some v := by show List.lookup ("slot" : Str) [("slot", v)] = some v; simp [List.lookup]
          walk_at "go"
          exact k _ _ s4 (.inr (.inr ⟨by decide, by decide, rfl⟩))
      · exact ⟨rfl, s4, h1, h2, fun e => of_decide_eq_false c (by rw [e]; rfl)⟩
    rintro σ R4 ⟨rfl, s5, h1, h2, n4⟩
    refine ⟨fun σ G => Wrap (σ = [some (.int (i : Int)), some (.ref a)] ∧ Same H G ∧ G a = some (exo a D (some dx)) ∧ G dx = some (exd dx (fieldsV i v)) ∧ i ∉ ([10, 11, 12, 16, 17] : List Nat)), ?_, ?_⟩
    · walk_at "go"
      intro L hL
      have sL := same_new (o := .lst [V.int 10, V.int 11, V.int 12, V.int 16, V.int 17]) hL
      have hL9 : upd R4 L (.lst [V.int 10, V.int 11, V.int 12, V.int 16, V.int 17]) L = some (.lst [V.int 10, V.int 11, V.int 12, V.int 16, V.int 17]) := upd_same
      have fl : List.all [V.int 10, V.int 11, V.int 12, V.int 16, V.int 17] flatV = true := rfl
      have h1 := sL _ _ h1
      have h2 := sL _ _ h2
      have s9 := s5.trans sL
      generalize upd R4 L (.lst [V.int 10, V.int 11, V.int 12, V.int 16, V.int 17]) = G9 at *
      walk_at "go"
      with_reducible refine by2 (fun c => ?_) (fun c => ?_)
      · have c : (i : Int) ∈ ([10, 11, 12, 16, 17] : List Int) := of_decide_eq_true ((inI (i : Int) [10, 11, 12, 16, 17]).symm.trans c)
        have hc : i = 10 ∨ i = 11 ∨ i = 12 ∨ i = 16 ∨ i = 17 := by simp at c; omega
        rcases hc with rfl | rfl | rfl | rfl | rfl
        · have no := T.no_NoName_name
          obtain rfl : A.c_NoName = D := Option.some.inj hD
          have l1 : (fieldsV 10 v).lookup ("name" : Str) = some v := by show List.lookup ("name" : Str) [("name", v)] = some v; simp [List.lookup]
          walk_at "go"
          exact k _ _ s9 (.inr (.inr ⟨by decide, by decide, rfl⟩))
        · have no := T.no_Twice_name
          obtain rfl : A.c_Twice = D := Option.some.inj hD
          have l1 : (fieldsV 11 v).lookup ("name" : Str) = some v := by show List.lookup ("name" : Str) [("name", v)] = some v; simp [List.lookup]
          walk_at "go"
          exact k _ _ s9 (.inr (.inr ⟨by decide, by decide, rfl⟩))
        · have no := T.no_NotInside_name
          obtain rfl : A.c_NotInside = D := Option.some.inj hD
          have l1 : (fieldsV 12 v).lookup ("name" : Str) = some v := by show List.lookup ("name" : Str) [("name", v)] = some v; simp [List.lookup]
          walk_at "go"
          exact k _ _ s9 (.inr (.inr ⟨by decide, by decide, rfl⟩))
        · have no := T.no_Idle_name
          obtain rfl : A.c_Idle = D := Option.some.inj hD
          have l1 : (fieldsV 16 v).lookup ("name" : Str) = some v := by show List.lookup ("name" : Str) [("name", v)] = some v; simp [List.lookup]
          walk_at "go"
          exact k _ _ s9 (.inr (.inr ⟨by decide, by decide, rfl⟩))
        · have no := T.no_Busy_name
          obtain rfl : A.c_Busy = D := Option.some.inj hD
          have l1 : (fieldsV 17 v).lookup ("name" : Str) = some v := by show List.lookup ("name" : Str) [("name", v)] = some v; simp [List.lookup]
          walk_at "go"
          exact k _ _ s9 (.inr (.inr ⟨by decide, by decide, rfl⟩))
      · have c : (i : Int) ∉ ([10, 11, 12, 16, 17] : List Int) := of_decide_eq_false ((inI (i : Int) [10, 11, 12, 16, 17]).symm.trans c)
        exact ⟨rfl, s9, h1, h2, by simp at c ⊢; omega⟩
    rintro σ R5 ⟨rfl, s6, h1, h2, n5⟩
    refine ⟨fun σ G => Wrap (σ = [some (.int (i : Int)), some (.ref a)] ∧ Same H G ∧ G a = some (exo a D (some dx)) ∧ G dx = some (exd dx (fieldsV i v)) ∧ i ≠ 13), ?_, ?_⟩
    · walk_at "go"
      with_reducible refine by2 (fun c => ?_) (fun c => ?_)
      · have hc : i = 13 := by have c := V.int.inj (of_decide_eq_true c); omega
        subst hc
        · have no := T.no_NoKey_key
          obtain rfl : A.c_NoKey = D := Option.some.inj hD
          have l1 : (fieldsV 13 v).lookup ("key" : Str) = some v := by show List.lookup ("key" : Str) [("key", v)] = some v; simp [List.lookup]
          walk_at "go"
          exact k _ _ s6 (.inr (.inr ⟨by decide, by decide, rfl⟩))
      · exact ⟨rfl, s6, h1, h2, fun e => of_decide_eq_false c (by rw [e]; rfl)⟩
    rintro σ R6 ⟨rfl, s7, h1, h2, n6⟩
    refine ⟨fun σ G => Wrap (σ = [some (.int (i : Int)), some (.ref a)] ∧ Same H G ∧ G a = some (exo a D (some dx)) ∧ G dx = some (exd dx (fieldsV i v)) ∧ i ≠ 14), ?_, ?_⟩
    · walk_at "go"
      with_reducible refine by2 (fun c => ?_) (fun c => ?_)
      · have hc : i = 14 := by have c := V.int.inj (of_decide_eq_true c); omega
        subst hc
        · have no := T.no_NoValue_value
          obtain rfl : A.c_NoValue = D := Option.some.inj hD
          have l1 : (fieldsV 14 v).lookup ("value" : Str) = some v := by show List.lookup ("value" : Str) [("value", v)] = some v; simp [List.lookup]
          walk_at "go"
          exact k _ _ s7 (.inr (.inr ⟨by decide, by decide, rfl⟩))
      · exact ⟨rfl, s7, h1, h2, fun e => of_decide_eq_false c (by rw [e]; rfl)⟩
    rintro σ R7 ⟨rfl, s8, h1, h2, n7⟩
    refine ⟨fun σ G => Wrap (σ = [some (.int (i : Int)), some (.ref a)] ∧ Same H G ∧ G a = some (exo a D (some dx)) ∧ G dx = some (exd dx (fieldsV i v)) ∧ i ≠ 15), ?_, ?_⟩
    · walk_at "go"
      with_reducible refine by2 (fun c => ?_) (fun c => ?_)
      · have hc : i = 15 := by have c := V.int.inj (of_decide_eq_true c); omega
        subst hc
        have n1 := T.no_NoWay_slot; have n2 := T.no_NoWay_key
        obtain rfl : A.c_NoWay = D := Option.some.inj hD
        have l1 : (fieldsV 15 v).lookup ("slot" : Str) = some v := by show List.lookup ("slot" : Str) [("key", V.int 7), ("slot", v)] = some v; simp [List.lookup, (by decide +kernel : (("slot" : Str) == ("key" : Str)) = false)]
        have l2 : (fieldsV 15 v).lookup ("key" : Str) = some (.int 7) := by show List.lookup ("key" : Str) [("key", V.int 7), ("slot", v)] = _; simp [List.lookup]
        walk_at "go"
        intro t ht
        exact k _ _ (s8.trans (same_new ht)) (.inr (.inl ⟨rfl, t, rfl, upd_same⟩))
      · exact ⟨rfl, s8, h1, h2, fun e => of_decide_eq_false c (by rw [e]; rfl)⟩
    rintro σ R8 ⟨rfl, s9, h1, h2, n8⟩
    refine ⟨fun σ G => Wrap (σ = [some (.int (i : Int)), some (.ref a)] ∧ Same H G ∧ G a = some (exo a D (some dx)) ∧ G dx = some (exd dx (fieldsV i v)) ∧ i ≠ 18), ?_, ?_⟩
    · walk_at "go"
      with_reducible refine by2 (fun c => ?_) (fun c => ?_)
      · have hc : i = 18 := by have c := V.int.inj (of_decide_eq_true c); omega
        subst hc
        · have no := T.no_NotOpen_state
          obtain rfl : A.c_NotOpen = D := Option.some.inj hD
          have l1 : (fieldsV 18 v).lookup ("state" : Str) = some v := by show List.lookup ("state" : Str) [("state", v)] = some v; simp [List.lookup]
          walk_at "go"
          exact k _ _ s9 (.inr (.inr ⟨by decide, by decide, rfl⟩))
      · exact ⟨rfl, s9, h1, h2, fun e => of_decide_eq_false c (by rw [e]; rfl)⟩
    rintro σ R9 ⟨rfl, s10, h1, h2, n9⟩
    have hc : i = 19 ∨ i = 20 := by simp at n0 n1 n5; omega
    rcases hc with rfl | rfl
    · have no := T.no_Full_many
      obtain rfl : A.c_Full = D := Option.some.inj hD
      have l1 : (fieldsV 19 v).lookup ("many" : Str) = some v := by show List.lookup ("many" : Str) [("many", v)] = some v; simp [List.lookup]
      walk_at "go"
      exact k _ _ s10 (.inr (.inr ⟨by decide, by decide, rfl⟩))
    · have no := T.no_TooMany_many
      obtain rfl : A.c_TooMany = D := Option.some.inj hD
      have l1 : (fieldsV 20 v).lookup ("many" : Str) = some v := by show List.lookup ("many" : Str) [("many", v)] = some v; simp [List.lookup]
      walk_at "go"
      exact k _ _ s10 (.inr (.inr ⟨by decide, by decide, rfl⟩))

theorem dp_bools {H : Hp} : ∀ bs : List Bool, DpAll K H (bs.map V.bl) (bs.map PyData.bool)
  | [] => .nil
  | c :: r => .cons (.bl c) (dp_bools r)
theorem lay_bools : ∀ bs : List Bool, PyData.canLayAll0 (bs.map PyData.bool) = true ∧ PyData.depthAll (bs.map PyData.bool) = 0
  | [] => ⟨rfl, rfl⟩
  | c :: r => by
    obtain ⟨a, b⟩ := lay_bools r
    rw [List.map_cons, PyData.canLayAll0, PyData.depthAll, a, b]
    exact ⟨rfl, rfl⟩
theorem shaped_bools (bs : List Bool) : SeqAt.shaped (.list (bs.map PyData.bool)) = true := by
  obtain ⟨a, b⟩ := lay_bools bs
  unfold SeqAt.shaped
  rw [PyData.canLay0, PyData.depth, a, b]
  rfl
theorem eqv_bools (bs : List Bool) : PyData.eqv (.list (bs.map PyData.bool)) (.list (bs.map PyData.bool)) = true := SeqAt.eqv_refl _ (by rw [PyData.canLay0, (lay_bools bs).1])
theorem due_eq {i : Nat} {x3 x4 x5 : Bool} (h3 : x3 = decide (10 ≤ i ∧ i < 15)) (h4 : x4 = decide (8 ≤ i ∧ i < 16)) (h5 : x5 = decide (16 ≤ i ∧ i < 19)) :
    [V.bl (decide ((i : Int) < 8)), V.bl (inV (.int (i : Int)) [.int 8, .int 9]), V.bl x3, V.bl x4, V.bl x5, V.bl (decide ((18 : Int) < (i : Int)))] = (aboveL i).map V.bl := by
  have e1 : decide ((i : Int) < 8) = decide (i < 8) := decide_eq_decide.mpr (by omega)
  have e2 : inV (.int (i : Int)) [.int 8, .int 9] = decide (i = 8 ∨ i = 9) := (inI (i : Int) [8, 9]).trans (decide_eq_decide.mpr (by simp; omega))
  have e6 : decide ((18 : Int) < (i : Int)) = decide (18 < i) := decide_eq_decide.mpr (by omega)
  rw [e1, e2, e6, h3, h4, h5]; rfl
/-- values that may be compared, and are no truths -/
structure GoodD (d : PyData) : Prop where
  s1 : SeqAt.shaped d = true
  s2 : SeqAt.shaped (.tuple [d, .int 7]) = true
  e1 : PyData.eqv d d = true
  e2 : PyData.eqv (.tuple [d, .int 7]) (.tuple [d, .int 7]) = true
  nb : isD "bool" d = false
theorem good_of {d : PyData} (h1 : SeqAt.shaped d = true) (h2 : SeqAt.shaped (.tuple [d, .int 7]) = true) (c1 : d.canLay0 = true) (c2 : (PyData.tuple [d, .int 7]).canLay0 = true) (nb : isD "bool" d = false) : GoodD d := ⟨h1, h2, SeqAt.eqv_refl _ c1, SeqAt.eqv_refl _ c2, nb⟩
def keptD (i : Nat) (d : PyData) : PyData := if i < 3 then .none else if i = 15 then .tuple [d, .int 7] else d
theorem kept_dp {H : Hp} {i : Nat} {v x : V} {d : PyData} (h : KeptIs H i v x) (hd : Dt K H v d) : Dp K H x (keptD i d) := by
  unfold keptD
  rcases h with ⟨l, rfl⟩ | ⟨rfl, t, rfl, ht⟩ | ⟨l, n, rfl⟩
  · rw [if_pos l]; exact .non
  · rw [if_neg (by decide), if_pos rfl]
    exact .tup (SqT.of ht) (.cons hd.dp (.cons (.int 7) .nil))
  · rw [if_neg (by omega), if_neg n]; exact hd.dp
theorem kept_good {i : Nat} {d : PyData} (g : GoodD d) : SeqAt.shaped (keptD i d) = true ∧ PyData.eqv (keptD i d) (keptD i d) = true ∧ isD "bool" (keptD i d) = false := by
  unfold keptD
  by_cases h1 : i < 3
  · rw [if_pos h1]; exact ⟨rfl, rfl, rfl⟩
  · rw [if_neg h1]
    by_cases h2 : i = 15
    · rw [if_pos h2]; exact ⟨g.s2, g.e2, rfl⟩
    · rw [if_neg h2]; exact ⟨g.s1, g.e1, g.nb⟩
theorem KeptIs.same {H H' : Hp} {i : Nat} {v x : V} (h : KeptIs H i v x) (s : Same H H') : KeptIs H' i v x := by
  rcases h with h | ⟨e, t, e2, ht⟩ | h
  · exact .inl h
  · exact .inr (.inl ⟨e, t, e2, s _ _ ht⟩)
  · exact .inr (.inr h)
theorem ok_law (T : Txt w K mg A) : FnOk P w K mg base CX0 8 A.a_law A.d_law ["_law_script"] (spLaw K) := by
  refine T.F_law.ok sc_law (fun vs H Q E h => ?_) (fun cdv A' outer s H vs Q E hr h => ?_)
  · obtain ⟨a, ns, rfl, _⟩ := h
    rfl
  · obtain ⟨a, ns, rfl, hS, hns, k⟩ := h
    refine ⟨_, (pss_cons (ps_set (i := 1) sc_law.nd rfl (Or.inl rfl) (pe_call (ok_pool T) (hr.mono (by decide)) rfl T.m_pool T.F_pool.kp T.b_pool .nil pass0 (pa_cons (pv 0) (pa_cons pe_int pa_nil))))
      (pss_cons (ps_for PassesOwn.never rfl (pi_w (pi_range1 rfl T.n_range (pa_cons pe_int pa_nil))) (pg_name (i := 2) sc_law.nd rfl (Or.inr rfl))
      (cutAt (ps_set (i := 3) sc_law.nd rfl (Or.inl rfl) (pe_ix ix_list (pe_lst (pa_cons pe_non (pa_cons pe_int (pa_cons (pe_call (ok_takeD T) (hr.mono (by decide)) rfl T.m_take T.F_take.kp T.b_take .nil pass0 (pa_cons (pv 1) (pa_cons (pe_op op_pow pe_int pe_int) pa_nil))) (pa_cons pe_str (pa_cons pe_str (pa_cons (pe_tup (pa_cons pe_int pa_nil)) (pa_cons (pe_un un_neg pe_int) pa_nil)))))))) (pe_call (ok_takeD T) (hr.mono (by decide)) rfl T.m_take T.F_take.kp T.b_take .nil pass0 (pa_cons (pv 1) (pa_cons pe_int pa_nil))) (fun _ _ => rfl)))
      (pss_cons (ps_set (i := 4) sc_law.nd rfl (Or.inl rfl) (pe_call (ok_made T) (hr.mono (by decide)) rfl T.m_made T.F_made.kp T.b_made .nil pass0 (pa_cons (pv 2) (pa_cons (pv 3) pa_nil))))
      (cutAt (ps_set (i := 5) sc_law.nd rfl (Or.inl rfl) (pe_lst (pa_cons (pe_cmpR op_lt (pv 2) pe_int (nomark _)) (pa_cons (pe_cmpR op_in_seq (pv 2) (pe_lst (pa_cons pe_int (pa_cons pe_int pa_nil))) rfl) (pa_cons (pe_chain op_le op_lt pe_int (pv 2) pe_int) (pa_cons (pe_chain op_le op_lt pe_int (pv 2) pe_int) (pa_cons (pe_chain op_le op_lt pe_int (pv 2) pe_int) (pa_cons (pe_cmpR op_gt (pv 2) pe_int (nomark _)) pa_nil))))))))
      (cutAt (ps_if (PW.pt (pw_or (pt_cmpR (op_neD hr.units) (pe_call (ok_sorts T) (hr.mono (by decide)) rfl T.m_sorts T.F_sorts.kp T.b_sorts .nil pass0 (pa_cons (pv 4) pa_nil)) (pe_lc (own := [("_law_k", 8)]) rfl sc_law.nd (pi_w (pi_range1 rfl T.n_range (pa_cons pe_int pa_nil))) (blkOk_by (own := [("_law_k", 8)]) (N := n_law) (sc := defScope s_law) (by decide +kernel)) (fun _ _ _ _ _ => viaG (pg_name (i := 8) sc_law.nd rfl (Or.inl rfl)) (by first | rfl | (dsimp only [Cx.blk]; done) | (dsimp only [Cx.blk]; rfl))) (fun _ _ _ _ _ => viaT pts_nil (by first | rfl | (dsimp only [Cx.blk]; done) | (dsimp only [Cx.blk]; rfl))) (fun _ _ _ _ _ => viaE (pe_cmpR op_eq (pv 8) (pv 2) (nomark _)) (by first | rfl | (dsimp only [Cx.blk]; done) | (dsimp only [Cx.blk]; rfl)))) (nomark _)) (pw_or1 (pt_cmpR (op_neD hr.units) (pe_call (ok_above T) (hr.mono (by decide)) rfl T.m_above T.F_above.kp T.b_above .nil pass0 (pa_cons (pv 4) pa_nil)) (pv 5) (nomark _)))))
      (pss_one (ps_ret pe_bl))
      pss_nil)
      (cutAt (ps_set (i := 6) sc_law.nd rfl (Or.inl rfl) (pe_ix ix_list (pe_lst (pa_cons (pv 3) (pa_cons pe_non (pa_cons (pe_tup (pa_cons (pv 3) (pa_cons pe_int pa_nil))) pa_nil)))) (pe_op op_add (pe_callTy call_int1 (by rfl) T.n_int (by decide +kernel) (pa_cons (pe_cmpR op_lt (pv 2) pe_int (nomark _)) pa_nil)) (pe_op op_mul pe_int (pe_callTy call_int1 (by rfl) T.n_int (by decide +kernel) (pa_cons (pe_cmpR op_eq (pv 2) pe_int (nomark _)) pa_nil)))) (fun _ _ => rfl)))
      (cutAt (ps_if (PW.pt (pw_or (pt_cmpR (op_neD hr.units) (pe_call (ok_kept T) (hr.mono (by decide)) rfl T.m_kept T.F_kept.kp T.b_kept .nil pass0 (pa_cons (pv 2) (pa_cons (pv 4) pa_nil))) (pv 6) (nomark _)) (pw_or1 (pt_val (pe_callB call_isD (by rfl) T.n_isinstance (by decide +kernel) (pa_cons (pe_call (ok_kept T) (hr.mono (by decide)) rfl T.m_kept T.F_kept.kp T.b_kept .nil pass0 (pa_cons (pv 2) (pa_cons (pv 4) pa_nil))) (pa_cons (pe_bltn (v := V.ty "bool") (by rfl) T.n_bool (by decide +kernel) rfl) pa_nil)))))))
      (pss_one (ps_ret pe_bl))
      pss_nil)
      (pss_cons (ps_set (i := 7) sc_law.nd rfl (Or.inl rfl) (pe_call (ok_made T) (hr.mono (by decide)) rfl T.m_made T.F_made.kp T.b_made .nil pass0 (pa_cons (pv 2) (pa_cons pe_str pa_nil))))
      (pss_one (ps_if (PW.pt (pw_and (pt_cmpR op_gt (pv 2) pe_int (nomark _)) (pw_and (pt_cmpR op_ne (pv 2) pe_int (nomark _)) (pw_and1 (PW.pt (pw_or (pt_cmpR (op_neD hr.units) (pe_call (ok_kept T) (hr.mono (by decide)) rfl T.m_kept T.F_kept.kp T.b_kept .nil pass0 (pa_cons (pv 2) (pa_cons (pv 7) pa_nil))) pe_str (nomark _)) (pw_or1 (pt_cmpR (op_neD hr.units) (pe_call (ok_kept T) (hr.mono (by decide)) rfl T.m_kept T.F_kept.kp T.b_kept .nil pass0 (pa_cons (pv 2) (pa_cons (pv 4) pa_nil))) (pv 6) (nomark _)))))))))
      (pss_one (ps_ret pe_bl))
      pss_nil))))))))))
      (pss_one (ps_ret pe_bl)))), ?_⟩
    have hz63 : (0 : Nat) ≤ 63 := by decide
    walk_at "go"
    intro q c s fq c0 s0 s1
    have hq : PoolAt (upd H q (.lst [.int c, .int s])) q := ⟨c, s, upd_same, c0, s0, s1⟩
    generalize upd H q (.lst [.int c, .int s]) = H0 at *
    walk_at "go"
    refine Wrap.mk (for_it walk_upto (fun j σ H2 => Wrap (∃ w2 w3 w4 w5 w6 w7, σ = [some (.ref a), some (.ref q), w2, w3, w4, w5, w6, w7, none] ∧ PoolAt H2 q)) ⟨none, none, none, none, none, none, rfl, hq⟩ (fun _ _ _ _ _ => trivial) ?_ ?_)
    · rintro i x σ H2 H3 hi ⟨w2, w3, w4, w5, w6, w7, rfl, hq2⟩ ⟨rfl, rfl⟩
      have hi : i < 21 := hi
      walk_at "go"
      refine ⟨fun σ G => Wrap (∃ v d, σ = [some (.ref a), some (.ref q), some (.int (i : Int)), some v, w4, w5, w6, w7, none] ∧ PoolAt G q ∧ Dt K G v d ∧ GoodD d), ?_, ?_⟩
      · have ten : (0 : Int) < (10 : Int) ^ (6 : Int).toNat ∧ (10 : Int) ^ (6 : Int).toNat < 1073741824 := by decide
        obtain ⟨ten0, ten1⟩ := ten
        walk_at "go"
        intro r1 H4 r10 r11 d4
        have hq4 := d4.pool
        walk_at "go"
        intro t ht
        have d5 := (Drew.refl hq4).new (o := .tup [.int 1]) ht
        have ht5 : SqT K (upd H4 t (.tup [.int 1])) t [.int 1] := SqT.of upd_same
        generalize upd H4 t (.tup [.int 1]) = H5 at *
        have hq5 := d5.pool
        walk_at "go"
        intro L hL
        obtain ⟨xs, hxs⟩ : ∃ xs : List V, xs = [.non, .int 0, .int r1, .str "ab", .str "wide", .ref t, .int (-1)] := ⟨_, rfl⟩
        have eL : upd H5 L (.lst [.non, .int 0, .int r1, .str "ab", .str "wide", .ref t, .int (-1)]) = upd H5 L (.lst xs) := by rw [hxs]
        rw [eL]
        have nL := hq5.ne hL
        have d6 := (Drew.refl hq5).new (o := .lst xs) hL
        have hL6 : upd H5 L (.lst xs) L = some (.lst xs) := upd_same
        have ht6 := sqT_same (same_new (o := .lst xs) hL) ht5
        clear eL
        generalize upd H5 L (.lst xs) = H6 at *
        have hq6 := d6.pool
        walk_at "go"
        intro r2 H7 r20 r21 d7
        have hL7 := d7.kp _ _ nL hL6
        have ht7 := d7.tup hq6 ht6
        obtain ⟨n, rfl⟩ : ∃ n : Nat, r2 = (n : Int) := ⟨r2.toNat, by omega⟩
        have hxl : xs.length = 7 := by rw [hxs]; rfl
        have hn : n < xs.length := by omega
        have hxi : xs[n]? = some xs[n] := List.getElem?_eq_getElem hn
        have hall : DtAll K H7 xs [.none, .int 0, .int r1, .str "ab", .str "wide", .tuple [.int 1], .int (-1)] := by
          rw [hxs]
          exact .cons .non (.cons (.int _) (.cons (.int _) (.cons (.str _) (.cons (.str _) (.cons (.tup ht7 (.cons (.int _) .nil)) (.cons (.int _) .nil))))))
        have hgood : ∀ d ∈ ([.none, .int 0, .int r1, .str "ab", .str "wide", .tuple [.int 1], .int (-1)] : List PyData), GoodD d := fun d hd => by
          simp only [List.mem_cons, List.not_mem_nil, or_false] at hd
          rcases hd with rfl | rfl | rfl | rfl | rfl | rfl | rfl <;> first | exact good_of rfl rfl rfl rfl rfl | exact good_of (by decide +kernel) (by decide +kernel) (by decide +kernel) (by decide +kernel) rfl
        obtain ⟨d, hd, hv⟩ := hall.nth hxi
        have a0 : atI xs (n : Int) = some xs[n] := atI_nat hxi
        clear hall hxs
        generalize xs[n] = v at *
        walk_at "go"
        exact ⟨v, d, rfl, d7.pool, hv, hgood d (List.mem_of_getElem? hd)⟩
      rintro σ G1 ⟨v, d, rfl, hq1, hv, hg⟩
      clear hq2
      walk_at "go"
      intro e G2 s2 he
      have hq2 := hq1.same s2
      have hv2 := hv.same s2
      walk_at "go"
      refine ⟨fun σ G => Wrap (∃ D, σ = [some (.ref a), some (.ref q), some (.int (i : Int)), some v, some (.ref e), some (.ref D), w6, w7, none] ∧ PoolAt G q ∧ Dt K G v d ∧ ErrW A G i v e ∧ G D = some (.lst ((aboveL i).map V.bl))), ?_, ?_⟩
      · walk_at "go"
        intro L hL
        have sL := same_new (o := .lst [.int 8, .int 9]) hL
        have hL9 : upd G2 L (.lst [.int 8, .int 9]) L = some (.lst [.int 8, .int 9]) := upd_same
        have fl : List.all [V.int 8, .int 9] flatV = true := rfl
        have hq3 := hq2.same sL
        have hv3 := hv2.same sL
        have he3 := he.same sL
        generalize upd G2 L (.lst [.int 8, .int 9]) = G3 at *
        walk_at "go"
        with_reducible refine by2 (fun c0 => ?_) (fun c0 => ?_)
        · have c0 := of_decide_eq_true c0
          walk_at "go"
          with_reducible refine by2 (fun c1 => ?_) (fun c1 => ?_)
          · have c1 := of_decide_eq_true c1
            walk_at "go"
            with_reducible refine by2 (fun c2 => ?_) (fun c2 => ?_)
            · have c2 := of_decide_eq_true c2
              walk_at "go"
              intro D hD
              have hl := due_eq (i := i) (x3 := decide ((i : Int) < 15)) (h3 := decide_eq_decide.mpr (by omega)) (x4 := decide ((i : Int) < 16)) (h4 := decide_eq_decide.mpr (by omega)) (x5 := decide ((i : Int) < 19)) (h5 := decide_eq_decide.mpr (by omega))
              rw [show (if false = true then !inV (V.int (i : Int)) [V.int 8, V.int 9] else inV (V.int (i : Int)) [V.int 8, V.int 9]) = inV (V.int (i : Int)) [V.int 8, V.int 9] from rfl, hl]
              have sD := same_new (o := .lst ((aboveL i).map V.bl)) hD
              exact ⟨D, rfl, hq3.same sD, hv3.same sD, he3.same sD, upd_same⟩
            · have c2 := of_decide_eq_false c2
              walk_at "go"
              intro D hD
              have hl := due_eq (i := i) (x3 := decide ((i : Int) < 15)) (h3 := decide_eq_decide.mpr (by omega)) (x4 := decide ((i : Int) < 16)) (h4 := decide_eq_decide.mpr (by omega)) (x5 := false) (h5 := (decide_eq_false (by omega)).symm)
              rw [show (if false = true then !inV (V.int (i : Int)) [V.int 8, V.int 9] else inV (V.int (i : Int)) [V.int 8, V.int 9]) = inV (V.int (i : Int)) [V.int 8, V.int 9] from rfl, hl]
              have sD := same_new (o := .lst ((aboveL i).map V.bl)) hD
              exact ⟨D, rfl, hq3.same sD, hv3.same sD, he3.same sD, upd_same⟩
          · have c1 := of_decide_eq_false c1
            walk_at "go"
            with_reducible refine by2 (fun c2 => ?_) (fun c2 => ?_)
            · have c2 := of_decide_eq_true c2
              walk_at "go"
              intro D hD
              have hl := due_eq (i := i) (x3 := decide ((i : Int) < 15)) (h3 := decide_eq_decide.mpr (by omega)) (x4 := false) (h4 := (decide_eq_false (by omega)).symm) (x5 := decide ((i : Int) < 19)) (h5 := decide_eq_decide.mpr (by omega))
              rw [show (if false = true then !inV (V.int (i : Int)) [V.int 8, V.int 9] else inV (V.int (i : Int)) [V.int 8, V.int 9]) = inV (V.int (i : Int)) [V.int 8, V.int 9] from rfl, hl]
              have sD := same_new (o := .lst ((aboveL i).map V.bl)) hD
              exact ⟨D, rfl, hq3.same sD, hv3.same sD, he3.same sD, upd_same⟩
            · have c2 := of_decide_eq_false c2
              walk_at "go"
              intro D hD
              have hl := due_eq (i := i) (x3 := decide ((i : Int) < 15)) (h3 := decide_eq_decide.mpr (by omega)) (x4 := false) (h4 := (decide_eq_false (by omega)).symm) (x5 := false) (h5 := (decide_eq_false (by omega)).symm)
              rw [show (if false = true then !inV (V.int (i : Int)) [V.int 8, V.int 9] else inV (V.int (i : Int)) [V.int 8, V.int 9]) = inV (V.int (i : Int)) [V.int 8, V.int 9] from rfl, hl]
              have sD := same_new (o := .lst ((aboveL i).map V.bl)) hD
              exact ⟨D, rfl, hq3.same sD, hv3.same sD, he3.same sD, upd_same⟩
        · have c0 := of_decide_eq_false c0
          walk_at "go"
          with_reducible refine by2 (fun c1 => ?_) (fun c1 => ?_)
          · have c1 := of_decide_eq_true c1
            walk_at "go"
            with_reducible refine by2 (fun c2 => ?_) (fun c2 => ?_)
            · have c2 := of_decide_eq_true c2
              walk_at "go"
              intro D hD
              have hl := due_eq (i := i) (x3 := false) (h3 := (decide_eq_false (by omega)).symm) (x4 := decide ((i : Int) < 16)) (h4 := decide_eq_decide.mpr (by omega)) (x5 := decide ((i : Int) < 19)) (h5 := decide_eq_decide.mpr (by omega))
              rw [show (if false = true then !inV (V.int (i : Int)) [V.int 8, V.int 9] else inV (V.int (i : Int)) [V.int 8, V.int 9]) = inV (V.int (i : Int)) [V.int 8, V.int 9] from rfl, hl]
              have sD := same_new (o := .lst ((aboveL i).map V.bl)) hD
              exact ⟨D, rfl, hq3.same sD, hv3.same sD, he3.same sD, upd_same⟩
            · have c2 := of_decide_eq_false c2
              walk_at "go"
              intro D hD
              have hl := due_eq (i := i) (x3 := false) (h3 := (decide_eq_false (by omega)).symm) (x4 := decide ((i : Int) < 16)) (h4 := decide_eq_decide.mpr (by omega)) (x5 := false) (h5 := (decide_eq_false (by omega)).symm)
              rw [show (if false = true then !inV (V.int (i : Int)) [V.int 8, V.int 9] else inV (V.int (i : Int)) [V.int 8, V.int 9]) = inV (V.int (i : Int)) [V.int 8, V.int 9] from rfl, hl]
              have sD := same_new (o := .lst ((aboveL i).map V.bl)) hD
              exact ⟨D, rfl, hq3.same sD, hv3.same sD, he3.same sD, upd_same⟩
          · have c1 := of_decide_eq_false c1
            walk_at "go"
            with_reducible refine by2 (fun c2 => ?_) (fun c2 => ?_)
            · have c2 := of_decide_eq_true c2
              walk_at "go"
              intro D hD
              have hl := due_eq (i := i) (x3 := false) (h3 := (decide_eq_false (by omega)).symm) (x4 := false) (h4 := (decide_eq_false (by omega)).symm) (x5 := decide ((i : Int) < 19)) (h5 := decide_eq_decide.mpr (by omega))
              rw [show (if false = true then !inV (V.int (i : Int)) [V.int 8, V.int 9] else inV (V.int (i : Int)) [V.int 8, V.int 9]) = inV (V.int (i : Int)) [V.int 8, V.int 9] from rfl, hl]
              have sD := same_new (o := .lst ((aboveL i).map V.bl)) hD
              exact ⟨D, rfl, hq3.same sD, hv3.same sD, he3.same sD, upd_same⟩
            · have c2 := of_decide_eq_false c2
              walk_at "go"
              intro D hD
              have hl := due_eq (i := i) (x3 := false) (h3 := (decide_eq_false (by omega)).symm) (x4 := false) (h4 := (decide_eq_false (by omega)).symm) (x5 := false) (h5 := (decide_eq_false (by omega)).symm)
              rw [show (if false = true then !inV (V.int (i : Int)) [V.int 8, V.int 9] else inV (V.int (i : Int)) [V.int 8, V.int 9]) = inV (V.int (i : Int)) [V.int 8, V.int 9] from rfl, hl]
              have sD := same_new (o := .lst ((aboveL i).map V.bl)) hD
              exact ⟨D, rfl, hq3.same sD, hv3.same sD, he3.same sD, upd_same⟩
      rintro σ G3 ⟨D, rfl, hq3, hv3, he3, hD3⟩
      clear hq2 hv2 he hq1 hv
      refine ⟨fun σ G => Wrap (σ = [some (.ref a), some (.ref q), some (.int (i : Int)), some v, some (.ref e), some (.ref D), w6, w7, none] ∧ PoolAt G q ∧ Dt K G v d ∧ ErrW A G i v e), ?_, ?_⟩
      · walk_at "go"
        intro l G4 s4 hl4
        have he4 := he3.same s4
        walk_at "go"
        refine Wrap.mk fun F hF => ?_
        refine lc_it walk_upto (CP G4 F fun j => ((sortsL i).take j).map V.bl) (.start hF rfl) (fun _ _ _ _ => trivial) ?_ ?_
        · rintro j x H2 H3 hj c ⟨rfl, rfl⟩
          have hj : j < 21 := hj
          have hF2 := c.at_
          have hlz : (((sortsL i).take j).map V.bl).length < sizeLine := by
            simp only [List.length_map, List.length_take]
            exact small1000 (by omega)
          have ej : (sortsL i)[j]? = some (decide (j = i)) := by
            unfold sortsL
            rw [List.getElem?_map, List.getElem?_range hj]; rfl
          have ed : decide (V.int (j : Int) = V.int (i : Int)) = decide (j = i) := by rw [dec_v]; exact decide_eq_decide.mpr (by omega)
          have hp := c.push (y := V.bl (decide (V.int (j : Int) = V.int (i : Int)))) (Same.refl _) (by
            show List.map _ ((sortsL i).take (j + 1)) = _
            rw [take_snoc ej, List.map_append, ed]; rfl)
          walk_at "go"
          exact hp
        · intro G5 c
          have s5 := c.sm
          have hF5 := c.at_
          have el : (sortsL i).take (Int.toNat 21) = sortsL i := List.take_of_length_le (by unfold sortsL; simp)
          rw [el] at hF5
          have d1 : Dp K G5 (.ref l) (.list ((sortsL i).map PyData.bool)) := .lst (SqL.of (s5 _ _ hl4)) (dp_bools _)
          have d2 : Dp K G5 (.ref F) (.list ((sortsL i).map PyData.bool)) := .lst (SqL.of hF5) (dp_bools _)
          refine ⟨_, _, d1, d2, shaped_bools _, shaped_bools _, ?_⟩
          rw [eqv_bools]
          have he5 := he4.same s5
          walk_at "go"
          intro l2 G6 s6 hl6
          have d3 : Dp K G6 (.ref l2) (.list ((aboveL i).map PyData.bool)) := .lst (SqL.of hl6) (dp_bools _)
          have d4 : Dp K G6 (.ref D) (.list ((aboveL i).map PyData.bool)) := .lst (SqL.of (s6 _ _ (s5 _ _ (s4 _ _ hD3)))) (dp_bools _)
          have g1 := shaped_bools (aboveL i)
          walk_at "go"
          rw [eqv_bools]
          walk_at "go"
          exact ⟨rfl, ((hq3.same s4).same s5).same s6, ((hv3.same s4).same s5).same s6, he5.same s6⟩
      rintro σ G4 ⟨rfl, hq4, hv4, he4⟩
      clear hq3 hv3 he3 hD3
      -- what is kept
      refine ⟨fun σ G => Wrap (∃ sv, σ = [some (.ref a), some (.ref q), some (.int (i : Int)), some v, some (.ref e), some (.ref D), some sv, w7, none] ∧ PoolAt G q ∧ Dt K G v d ∧ ErrW A G i v e ∧ KeptIs G i v sv), ?_, ?_⟩
      · walk_at "go"
        intro t ht
        have s5 := same_new (o := .tup [v, .int 7]) ht
        have ht5 : upd G4 t (.tup [v, .int 7]) t = some (.tup [v, .int 7]) := upd_same
        have hq5 := hq4.same s5
        have hv5 := hv4.same s5
        have he5 := he4.same s5
        generalize upd G4 t (.tup [v, .int 7]) = G5 at *
        walk_at "go"
        intro L hL
        have s6 := same_new (o := .lst [v, .non, .ref t]) hL
        have hL6 : upd G5 L (.lst [v, .non, .ref t]) L = some (.lst [v, .non, .ref t]) := upd_same
        have ht6 := s6 _ _ ht5
        have hq6 := hq5.same s6
        have hv6 := hv5.same s6
        have he6 := he5.same s6
        generalize upd G5 L (.lst [v, .non, .ref t]) = G6 at *
        walk_at "go"
        refine Or.inr ⟨_, rfl, ?_⟩
        walk_at "go"
        refine Or.inr ⟨_, rfl, ?_⟩
        have ix : ∃ sv, atI [v, V.non, .ref t] ((if decide ((i : Int) < 3) = true then 1 else 0) + 2 * (if decide (V.int (i : Int) = V.int 15) = true then 1 else 0)) = some sv ∧ KeptIs G6 i v sv := by
          by_cases h1 : i < 3
          · rw [decide_eq_true (show (i : Int) < 3 by omega), decide_eq_false (fun z => by have := V.int.inj z; omega)]
            exact ⟨.non, atI_nat (j := 1) rfl, .inl ⟨h1, rfl⟩⟩
          · rw [decide_eq_false (show ¬ (i : Int) < 3 by omega)]
            by_cases h2 : i = 15
            · rw [decide_eq_true (show V.int (i : Int) = V.int 15 by rw [h2]; rfl)]
              exact ⟨.ref t, atI_nat (j := 2) rfl, .inr (.inl ⟨h2, t, rfl, ht6⟩)⟩
            · rw [decide_eq_false (fun z => h2 (by have := V.int.inj z; omega))]
              exact ⟨v, atI_nat (j := 0) rfl, .inr (.inr ⟨by omega, h2, rfl⟩)⟩
        obtain ⟨sv, ix, hk⟩ := ix
        walk_at "go"
        exact ⟨sv, rfl, hq6, hv6, he6, hk⟩
      rintro σ G5 ⟨sv, rfl, hq5, hv5, he5, hk5⟩
      clear hq4 hv4 he4
      obtain ⟨gs, ge, gb⟩ := kept_good (i := i) hg
      refine ⟨fun σ G => Wrap (σ = [some (.ref a), some (.ref q), some (.int (i : Int)), some v, some (.ref e), some (.ref D), some sv, w7, none] ∧ PoolAt G q ∧ Dt K G v d ∧ ErrW A G i v e ∧ KeptIs G i v sv), ?_, ?_⟩
      · walk_at "go"
        intro x G6 s6 hx6
        have hv6 := hv5.same s6
        have d1 := kept_dp hx6 hv6
        have d2 := kept_dp (hk5.same s6) hv6
        have he6 := he5.same s6
        walk_at "go"
        rw [ge]
        walk_at "go"
        intro y G7 s7 hy7
        have hv7 := hv6.same s7
        have d3 := kept_dp hy7 hv7
        have hT2 : okT "bool" = true := by decide
        walk_at "go"
        with_reducible refine else_ gb ?_
        exact ⟨rfl, (hq5.same s6).same s7, hv7, he6.same s7, (hk5.same s6).same s7⟩
      rintro σ G6 ⟨rfl, hq6, hv6, he6, hk6⟩
      clear hq5 hv5 he5 hk5
      walk_at "go"
      intro b G7 s7 hb7
      have hq7 := hq6.same s7
      have hv7 := hv6.same s7
      have he7 := he6.same s7
      have hk7 := hk6.same s7
      generalize w7 = w7' at *
      walk_at "go"
      with_reducible refine by2 (fun c1 => ?_) (fun c1 => ?_)
      · have c1 := of_decide_eq_true c1
        walk_at "go"
        by_cases c2 : i = 15
        · with_reducible refine else_ (by subst c2; decide) ?_
          exact ⟨_, _, _, _, _, _, rfl, hq7⟩
        · with_reducible refine then_ (by simp; omega) ?_
          walk_at "go"
          intro x G8 s8 hx8
          have ex : x = .str "other" := by
            rcases hx8 with ⟨l, _⟩ | ⟨l, _⟩ | ⟨_, _, e⟩
            · omega
            · omega
            · exact e
          subst ex
          have o1 : Dp K G8 (V.str "other") (.str "other") := .str _
          have o2 : SeqAt.shaped (.str "other") = true := by decide +kernel
          have o3 : PyData.eqv (.str "other") (.str "other") = true := by decide +kernel
          have he8 := he7.same s8
          have hv8 := hv7.same s8
          have hk8 := hk7.same s8
          walk_at "go"
          intro y G9 s9 hy9
          have hv9 := hv8.same s9
          have d1 := kept_dp hy9 hv9
          have d2 := kept_dp (hk8.same s9) hv9
          walk_at "go"
          rw [ge]
          with_reducible refine else_ rfl ?_
          exact ⟨_, _, _, _, _, _, rfl, (hq7.same s8).same s9⟩
      · with_reducible refine else_ rfl ?_
        exact ⟨_, _, _, _, _, _, rfl, hq7⟩
    · rintro σ H2 ⟨w2, w3, w4, w5, w6, w7, rfl, hq2⟩
      walk_at "go"
      exact k H2

end
theorem all_mk {l : PySem.W.OpenLaw} {w : World} {K : PySem.W.Frag} {h : Heap} {mg : Str → Option Value} {fa : Addr} (X : K.In h) (G : h.Ns mainGlobals mg) (hfa : mg "law" = some (.ref fa))
    {a_NoChain_init a_NoPairs_init a_NoSize_init a_NoText_init a_NoGoing_init a_NoRoom_init a_NoSlot_init a_NoName_init a_Twice_init a_NotInside_init a_NoKey_init a_NoValue_init a_NoWay_init a_Idle_init a_Busy_init a_NotOpen_init a_Full_init a_TooMany_init a_pool a_take a_made a_sorts a_above a_kept a_law c_NoChain c_NoPairs c_NoSize c_NoText c_NoGoing c_NoRoom c_NoSlot c_NoName c_Twice c_NotInside c_NoKey c_NoValue c_NoWay c_Idle c_Busy c_NotOpen c_Full c_TooMany c_NoRecord c_Unsound c_NoRow : Addr} {od0 an0 od1 an1 od2 an2 od3 an3 od4 an4 od5 an5 od6 an6 od7 an7 od8 an8 od9 an9 od10 an10 od11 an11 od12 an12 od13 an13 od14 an14 od15 an15 od16 an16 od17 an17 od18 an18 od19 an19 od20 an20 od21 an21 od22 an22 od23 an23 od24 an24 : Option Addr} {sl0 sl1 sl2 sl3 sl4 sl5 sl6 sl7 sl8 sl9 sl10 sl11 sl12 sl13 sl14 sl15 sl16 sl17 sl18 sl19 sl20 sl21 sl22 sl23 sl24 : Array (Option Value)} {oc0 kV0 dc0 pm0 cd0 ct0 oc1 kV1 dc1 pm1 cd1 ct1 oc2 kV2 dc2 pm2 cd2 ct2 oc3 kV3 dc3 pm3 cd3 ct3 oc4 kV4 dc4 pm4 cd4 ct4 oc5 kV5 dc5 pm5 cd5 ct5 oc6 kV6 dc6 pm6 cd6 ct6 oc7 kV7 dc7 pm7 cd7 ct7 oc8 kV8 dc8 pm8 cd8 ct8 oc9 kV9 dc9 pm9 cd9 ct9 oc10 kV10 dc10 pm10 cd10 ct10 oc11 kV11 dc11 pm11 cd11 ct11 oc12 kV12 dc12 pm12 cd12 ct12 oc13 kV13 dc13 pm13 cd13 ct13 oc14 kV14 dc14 pm14 cd14 ct14 oc15 kV15 dc15 pm15 cd15 ct15 oc16 kV16 dc16 pm16 cd16 ct16 oc17 kV17 dc17 pm17 cd17 ct17 oc18 kV18 dc18 pm18 cd18 ct18 oc19 kV19 dc19 pm19 cd19 ct19 oc20 kV20 dc20 pm20 cd20 ct20 oc21 kV21 dc21 pm21 cd21 ct21 oc22 kV22 dc22 pm22 cd22 ct22 oc23 kV23 dc23 pm23 cd23 ct23 oc24 kV24 dc24 pm24 cd24 ct24 : Value} {nm_NoChain qq_NoChain : Str} {NN_NoChain : Addr} {bs_NoChain : List Value} {sn_NoChain : List Str} {sub_NoChain : List Value} {ab_NoChain : Bool} {col_NoChain : Option Bool} {dd_NoChain : Option Addr} {m0_NoChain m1_NoChain m2_NoChain m3_NoChain m5_NoChain : Option Value} {nm_NoPairs qq_NoPairs : Str} {NN_NoPairs : Addr} {bs_NoPairs : List Value} {sn_NoPairs : List Str} {sub_NoPairs : List Value} {ab_NoPairs : Bool} {col_NoPairs : Option Bool} {dd_NoPairs : Option Addr} {m0_NoPairs m1_NoPairs m2_NoPairs m3_NoPairs m5_NoPairs : Option Value} {nm_NoSize qq_NoSize : Str} {NN_NoSize : Addr} {bs_NoSize : List Value} {sn_NoSize : List Str} {sub_NoSize : List Value} {ab_NoSize : Bool} {col_NoSize : Option Bool} {dd_NoSize : Option Addr} {m0_NoSize m1_NoSize m2_NoSize m3_NoSize m5_NoSize : Option Value} {nm_NoText qq_NoText : Str} {NN_NoText : Addr} {bs_NoText : List Value} {sn_NoText : List Str} {sub_NoText : List Value} {ab_NoText : Bool} {col_NoText : Option Bool} {dd_NoText : Option Addr} {m0_NoText m1_NoText m2_NoText m3_NoText m5_NoText : Option Value} {nm_NoGoing qq_NoGoing : Str} {NN_NoGoing : Addr} {bs_NoGoing : List Value} {sn_NoGoing : List Str} {sub_NoGoing : List Value} {ab_NoGoing : Bool} {col_NoGoing : Option Bool} {dd_NoGoing : Option Addr} {m0_NoGoing m1_NoGoing m2_NoGoing m3_NoGoing m5_NoGoing : Option Value} {nm_NoRoom qq_NoRoom : Str} {NN_NoRoom : Addr} {bs_NoRoom : List Value} {sn_NoRoom : List Str} {sub_NoRoom : List Value} {ab_NoRoom : Bool} {col_NoRoom : Option Bool} {dd_NoRoom : Option Addr} {m0_NoRoom m1_NoRoom m2_NoRoom m3_NoRoom m5_NoRoom : Option Value} {nm_NoSlot qq_NoSlot : Str} {NN_NoSlot : Addr} {bs_NoSlot : List Value} {sn_NoSlot : List Str} {sub_NoSlot : List Value} {ab_NoSlot : Bool} {col_NoSlot : Option Bool} {dd_NoSlot : Option Addr} {m0_NoSlot m1_NoSlot m2_NoSlot m3_NoSlot m5_NoSlot : Option Value} {nm_NoName qq_NoName : Str} {NN_NoName : Addr} {bs_NoName : List Value} {sn_NoName : List Str} {sub_NoName : List Value} {ab_NoName : Bool} {col_NoName : Option Bool} {dd_NoName : Option Addr} {m0_NoName m1_NoName m2_NoName m3_NoName m5_NoName : Option Value} {nm_Twice qq_Twice : Str} {NN_Twice : Addr} {bs_Twice : List Value} {sn_Twice : List Str} {sub_Twice : List Value} {ab_Twice : Bool} {col_Twice : Option Bool} {dd_Twice : Option Addr} {m0_Twice m1_Twice m2_Twice m3_Twice m5_Twice : Option Value} {nm_NotInside qq_NotInside : Str} {NN_NotInside : Addr} {bs_NotInside : List Value} {sn_NotInside : List Str} {sub_NotInside : List Value} {ab_NotInside : Bool} {col_NotInside : Option Bool} {dd_NotInside : Option Addr} {m0_NotInside m1_NotInside m2_NotInside m3_NotInside m5_NotInside : Option Value} {nm_NoKey qq_NoKey : Str} {NN_NoKey : Addr} {bs_NoKey : List Value} {sn_NoKey : List Str} {sub_NoKey : List Value} {ab_NoKey : Bool} {col_NoKey : Option Bool} {dd_NoKey : Option Addr} {m0_NoKey m1_NoKey m2_NoKey m3_NoKey m5_NoKey : Option Value} {nm_NoValue qq_NoValue : Str} {NN_NoValue : Addr} {bs_NoValue : List Value} {sn_NoValue : List Str} {sub_NoValue : List Value} {ab_NoValue : Bool} {col_NoValue : Option Bool} {dd_NoValue : Option Addr} {m0_NoValue m1_NoValue m2_NoValue m3_NoValue m5_NoValue : Option Value} {nm_NoWay qq_NoWay : Str} {NN_NoWay : Addr} {bs_NoWay : List Value} {sn_NoWay : List Str} {sub_NoWay : List Value} {ab_NoWay : Bool} {col_NoWay : Option Bool} {dd_NoWay : Option Addr} {m0_NoWay m1_NoWay m2_NoWay m3_NoWay m5_NoWay : Option Value} {nm_Idle qq_Idle : Str} {NN_Idle : Addr} {bs_Idle : List Value} {sn_Idle : List Str} {sub_Idle : List Value} {ab_Idle : Bool} {col_Idle : Option Bool} {dd_Idle : Option Addr} {m0_Idle m1_Idle m2_Idle m3_Idle m5_Idle : Option Value} {nm_Busy qq_Busy : Str} {NN_Busy : Addr} {bs_Busy : List Value} {sn_Busy : List Str} {sub_Busy : List Value} {ab_Busy : Bool} {col_Busy : Option Bool} {dd_Busy : Option Addr} {m0_Busy m1_Busy m2_Busy m3_Busy m5_Busy : Option Value} {nm_NotOpen qq_NotOpen : Str} {NN_NotOpen : Addr} {bs_NotOpen : List Value} {sn_NotOpen : List Str} {sub_NotOpen : List Value} {ab_NotOpen : Bool} {col_NotOpen : Option Bool} {dd_NotOpen : Option Addr} {m0_NotOpen m1_NotOpen m2_NotOpen m3_NotOpen m5_NotOpen : Option Value} {nm_Full qq_Full : Str} {NN_Full : Addr} {bs_Full : List Value} {sn_Full : List Str} {sub_Full : List Value} {ab_Full : Bool} {col_Full : Option Bool} {dd_Full : Option Addr} {m0_Full m1_Full m2_Full m3_Full m5_Full : Option Value} {nm_TooMany qq_TooMany : Str} {NN_TooMany : Addr} {bs_TooMany : List Value} {sn_TooMany : List Str} {sub_TooMany : List Value} {ab_TooMany : Bool} {col_TooMany : Option Bool} {dd_TooMany : Option Addr} {m0_TooMany m1_TooMany m2_TooMany m3_TooMany m5_TooMany : Option Value} {nm_NoRecord qq_NoRecord : Str} {NN_NoRecord : Addr} {bs_NoRecord : List Value} {sn_NoRecord : List Str} {sub_NoRecord : List Value} {ab_NoRecord : Bool} {col_NoRecord : Option Bool} {dd_NoRecord : Option Addr} {m0_NoRecord m1_NoRecord m2_NoRecord m3_NoRecord m5_NoRecord : Option Value} {nm_Unsound qq_Unsound : Str} {NN_Unsound : Addr} {bs_Unsound : List Value} {sn_Unsound : List Str} {sub_Unsound : List Value} {ab_Unsound : Bool} {col_Unsound : Option Bool} {dd_Unsound : Option Addr} {m0_Unsound m1_Unsound m2_Unsound m3_Unsound m5_Unsound : Option Value} {nm_NoRow qq_NoRow : Str} {NN_NoRow : Addr} {bs_NoRow : List Value} {sn_NoRow : List Str} {sub_NoRow : List Value} {ab_NoRow : Bool} {col_NoRow : Option Bool} {dd_NoRow : Option Addr} {m0_NoRow m1_NoRow m2_NoRow m3_NoRow m5_NoRow : Option Value}
    (gE_NoChain : PySem.W.nsIn K mainGlobals "NoChain" = some (some (.ref c_NoChain)))
    (xE_NoChain : K.lookup c_NoChain = some (excClassObj nm_NoChain qq_NoChain c_NoChain NN_NoChain bs_NoChain ER.tlV true sn_NoChain sub_NoChain ab_NoChain col_NoChain dd_NoChain m0_NoChain m1_NoChain m2_NoChain m3_NoChain m5_NoChain "ValueError.__new__"))
    (sE_NoChain : PySem.W.findIn K (.ref c_NoChain) "__setattr__" = some (some (.builtin "object.__setattr__")))
    (rE_NoChain : PySem.W.findIn K (.ref c_NoChain) "__getattribute__" = some (some (.builtin "BaseException.__getattribute__")))
    (tE_NoChain : PySem.W.findIn K (.ref c_NoChain) "__getattr__" = some none)
    (dE_NoChain : PySem.W.hasDictIn K c_NoChain = true)
    (nE_NoChain_room : PySem.W.findIn K (.ref c_NoChain) "room" = some none)
    (bE_NoChain : PySem.W.subIn K (.ref c_NoChain) (.type "BaseException") = some true)
    (yE_NoChain : PySem.W.typeIn K (.ref c_NoChain) = some (.type "type"))
    (kE_NoChain : PySem.W.keepIn K (.ref c_NoChain) = true)
    (wE_NoChain : PySem.W.findIn K (.ref c_NoChain) "__class__" = some (some (.builtin "object.__class__")))
    (iE_NoChain : PySem.W.isClsIn K c_NoChain = true)
    (uE_NoChain : PySem.W.subIn K (.ref c_NoChain) (.ref c_NoChain) = some true)
    (gE_NoPairs : PySem.W.nsIn K mainGlobals "NoPairs" = some (some (.ref c_NoPairs)))
    (xE_NoPairs : K.lookup c_NoPairs = some (excClassObj nm_NoPairs qq_NoPairs c_NoPairs NN_NoPairs bs_NoPairs ER.tlV true sn_NoPairs sub_NoPairs ab_NoPairs col_NoPairs dd_NoPairs m0_NoPairs m1_NoPairs m2_NoPairs m3_NoPairs m5_NoPairs "ValueError.__new__"))
    (sE_NoPairs : PySem.W.findIn K (.ref c_NoPairs) "__setattr__" = some (some (.builtin "object.__setattr__")))
    (rE_NoPairs : PySem.W.findIn K (.ref c_NoPairs) "__getattribute__" = some (some (.builtin "BaseException.__getattribute__")))
    (tE_NoPairs : PySem.W.findIn K (.ref c_NoPairs) "__getattr__" = some none)
    (dE_NoPairs : PySem.W.hasDictIn K c_NoPairs = true)
    (nE_NoPairs_number : PySem.W.findIn K (.ref c_NoPairs) "number" = some none)
    (bE_NoPairs : PySem.W.subIn K (.ref c_NoPairs) (.type "BaseException") = some true)
    (yE_NoPairs : PySem.W.typeIn K (.ref c_NoPairs) = some (.type "type"))
    (kE_NoPairs : PySem.W.keepIn K (.ref c_NoPairs) = true)
    (wE_NoPairs : PySem.W.findIn K (.ref c_NoPairs) "__class__" = some (some (.builtin "object.__class__")))
    (iE_NoPairs : PySem.W.isClsIn K c_NoPairs = true)
    (uE_NoPairs : PySem.W.subIn K (.ref c_NoPairs) (.ref c_NoPairs) = some true)
    (gE_NoSize : PySem.W.nsIn K mainGlobals "NoSize" = some (some (.ref c_NoSize)))
    (xE_NoSize : K.lookup c_NoSize = some (excClassObj nm_NoSize qq_NoSize c_NoSize NN_NoSize bs_NoSize ER.tlV true sn_NoSize sub_NoSize ab_NoSize col_NoSize dd_NoSize m0_NoSize m1_NoSize m2_NoSize m3_NoSize m5_NoSize "ValueError.__new__"))
    (sE_NoSize : PySem.W.findIn K (.ref c_NoSize) "__setattr__" = some (some (.builtin "object.__setattr__")))
    (rE_NoSize : PySem.W.findIn K (.ref c_NoSize) "__getattribute__" = some (some (.builtin "BaseException.__getattribute__")))
    (tE_NoSize : PySem.W.findIn K (.ref c_NoSize) "__getattr__" = some none)
    (dE_NoSize : PySem.W.hasDictIn K c_NoSize = true)
    (nE_NoSize_word : PySem.W.findIn K (.ref c_NoSize) "word" = some none)
    (bE_NoSize : PySem.W.subIn K (.ref c_NoSize) (.type "BaseException") = some true)
    (yE_NoSize : PySem.W.typeIn K (.ref c_NoSize) = some (.type "type"))
    (kE_NoSize : PySem.W.keepIn K (.ref c_NoSize) = true)
    (wE_NoSize : PySem.W.findIn K (.ref c_NoSize) "__class__" = some (some (.builtin "object.__class__")))
    (iE_NoSize : PySem.W.isClsIn K c_NoSize = true)
    (uE_NoSize : PySem.W.subIn K (.ref c_NoSize) (.ref c_NoSize) = some true)
    (gE_NoText : PySem.W.nsIn K mainGlobals "NoText" = some (some (.ref c_NoText)))
    (xE_NoText : K.lookup c_NoText = some (excClassObj nm_NoText qq_NoText c_NoText NN_NoText bs_NoText ER.tlV true sn_NoText sub_NoText ab_NoText col_NoText dd_NoText m0_NoText m1_NoText m2_NoText m3_NoText m5_NoText "ValueError.__new__"))
    (sE_NoText : PySem.W.findIn K (.ref c_NoText) "__setattr__" = some (some (.builtin "object.__setattr__")))
    (rE_NoText : PySem.W.findIn K (.ref c_NoText) "__getattribute__" = some (some (.builtin "BaseException.__getattribute__")))
    (tE_NoText : PySem.W.findIn K (.ref c_NoText) "__getattr__" = some none)
    (dE_NoText : PySem.W.hasDictIn K c_NoText = true)
    (nE_NoText_row : PySem.W.findIn K (.ref c_NoText) "row" = some none)
    (bE_NoText : PySem.W.subIn K (.ref c_NoText) (.type "BaseException") = some true)
    (yE_NoText : PySem.W.typeIn K (.ref c_NoText) = some (.type "type"))
    (kE_NoText : PySem.W.keepIn K (.ref c_NoText) = true)
    (wE_NoText : PySem.W.findIn K (.ref c_NoText) "__class__" = some (some (.builtin "object.__class__")))
    (iE_NoText : PySem.W.isClsIn K c_NoText = true)
    (uE_NoText : PySem.W.subIn K (.ref c_NoText) (.ref c_NoText) = some true)
    (gE_NoGoing : PySem.W.nsIn K mainGlobals "NoGoing" = some (some (.ref c_NoGoing)))
    (xE_NoGoing : K.lookup c_NoGoing = some (excClassObj nm_NoGoing qq_NoGoing c_NoGoing NN_NoGoing bs_NoGoing ER.tlV true sn_NoGoing sub_NoGoing ab_NoGoing col_NoGoing dd_NoGoing m0_NoGoing m1_NoGoing m2_NoGoing m3_NoGoing m5_NoGoing "ValueError.__new__"))
    (sE_NoGoing : PySem.W.findIn K (.ref c_NoGoing) "__setattr__" = some (some (.builtin "object.__setattr__")))
    (rE_NoGoing : PySem.W.findIn K (.ref c_NoGoing) "__getattribute__" = some (some (.builtin "BaseException.__getattribute__")))
    (tE_NoGoing : PySem.W.findIn K (.ref c_NoGoing) "__getattr__" = some none)
    (dE_NoGoing : PySem.W.hasDictIn K c_NoGoing = true)
    (nE_NoGoing_number : PySem.W.findIn K (.ref c_NoGoing) "number" = some none)
    (bE_NoGoing : PySem.W.subIn K (.ref c_NoGoing) (.type "BaseException") = some true)
    (yE_NoGoing : PySem.W.typeIn K (.ref c_NoGoing) = some (.type "type"))
    (kE_NoGoing : PySem.W.keepIn K (.ref c_NoGoing) = true)
    (wE_NoGoing : PySem.W.findIn K (.ref c_NoGoing) "__class__" = some (some (.builtin "object.__class__")))
    (iE_NoGoing : PySem.W.isClsIn K c_NoGoing = true)
    (uE_NoGoing : PySem.W.subIn K (.ref c_NoGoing) (.ref c_NoGoing) = some true)
    (gE_NoRoom : PySem.W.nsIn K mainGlobals "NoRoom" = some (some (.ref c_NoRoom)))
    (xE_NoRoom : K.lookup c_NoRoom = some (excClassObj nm_NoRoom qq_NoRoom c_NoRoom NN_NoRoom bs_NoRoom ER.tlI true sn_NoRoom sub_NoRoom ab_NoRoom col_NoRoom dd_NoRoom m0_NoRoom m1_NoRoom m2_NoRoom m3_NoRoom m5_NoRoom "IndexError.__new__"))
    (sE_NoRoom : PySem.W.findIn K (.ref c_NoRoom) "__setattr__" = some (some (.builtin "object.__setattr__")))
    (rE_NoRoom : PySem.W.findIn K (.ref c_NoRoom) "__getattribute__" = some (some (.builtin "BaseException.__getattribute__")))
    (tE_NoRoom : PySem.W.findIn K (.ref c_NoRoom) "__getattr__" = some none)
    (dE_NoRoom : PySem.W.hasDictIn K c_NoRoom = true)
    (nE_NoRoom_room : PySem.W.findIn K (.ref c_NoRoom) "room" = some none)
    (bE_NoRoom : PySem.W.subIn K (.ref c_NoRoom) (.type "BaseException") = some true)
    (yE_NoRoom : PySem.W.typeIn K (.ref c_NoRoom) = some (.type "type"))
    (kE_NoRoom : PySem.W.keepIn K (.ref c_NoRoom) = true)
    (wE_NoRoom : PySem.W.findIn K (.ref c_NoRoom) "__class__" = some (some (.builtin "object.__class__")))
    (iE_NoRoom : PySem.W.isClsIn K c_NoRoom = true)
    (uE_NoRoom : PySem.W.subIn K (.ref c_NoRoom) (.ref c_NoRoom) = some true)
    (gE_NoSlot : PySem.W.nsIn K mainGlobals "NoSlot" = some (some (.ref c_NoSlot)))
    (xE_NoSlot : K.lookup c_NoSlot = some (excClassObj nm_NoSlot qq_NoSlot c_NoSlot NN_NoSlot bs_NoSlot ER.tlI true sn_NoSlot sub_NoSlot ab_NoSlot col_NoSlot dd_NoSlot m0_NoSlot m1_NoSlot m2_NoSlot m3_NoSlot m5_NoSlot "IndexError.__new__"))
    (sE_NoSlot : PySem.W.findIn K (.ref c_NoSlot) "__setattr__" = some (some (.builtin "object.__setattr__")))
    (rE_NoSlot : PySem.W.findIn K (.ref c_NoSlot) "__getattribute__" = some (some (.builtin "BaseException.__getattribute__")))
    (tE_NoSlot : PySem.W.findIn K (.ref c_NoSlot) "__getattr__" = some none)
    (dE_NoSlot : PySem.W.hasDictIn K c_NoSlot = true)
    (nE_NoSlot_slot : PySem.W.findIn K (.ref c_NoSlot) "slot" = some none)
    (bE_NoSlot : PySem.W.subIn K (.ref c_NoSlot) (.type "BaseException") = some true)
    (yE_NoSlot : PySem.W.typeIn K (.ref c_NoSlot) = some (.type "type"))
    (kE_NoSlot : PySem.W.keepIn K (.ref c_NoSlot) = true)
    (wE_NoSlot : PySem.W.findIn K (.ref c_NoSlot) "__class__" = some (some (.builtin "object.__class__")))
    (iE_NoSlot : PySem.W.isClsIn K c_NoSlot = true)
    (uE_NoSlot : PySem.W.subIn K (.ref c_NoSlot) (.ref c_NoSlot) = some true)
    (gE_NoName : PySem.W.nsIn K mainGlobals "NoName" = some (some (.ref c_NoName)))
    (xE_NoName : K.lookup c_NoName = some (excClassObj nm_NoName qq_NoName c_NoName NN_NoName bs_NoName ER.tlK true sn_NoName sub_NoName ab_NoName col_NoName dd_NoName m0_NoName m1_NoName m2_NoName m3_NoName m5_NoName "LookupError.__new__"))
    (sE_NoName : PySem.W.findIn K (.ref c_NoName) "__setattr__" = some (some (.builtin "object.__setattr__")))
    (rE_NoName : PySem.W.findIn K (.ref c_NoName) "__getattribute__" = some (some (.builtin "BaseException.__getattribute__")))
    (tE_NoName : PySem.W.findIn K (.ref c_NoName) "__getattr__" = some none)
    (dE_NoName : PySem.W.hasDictIn K c_NoName = true)
    (nE_NoName_name : PySem.W.findIn K (.ref c_NoName) "name" = some none)
    (bE_NoName : PySem.W.subIn K (.ref c_NoName) (.type "BaseException") = some true)
    (yE_NoName : PySem.W.typeIn K (.ref c_NoName) = some (.type "type"))
    (kE_NoName : PySem.W.keepIn K (.ref c_NoName) = true)
    (wE_NoName : PySem.W.findIn K (.ref c_NoName) "__class__" = some (some (.builtin "object.__class__")))
    (iE_NoName : PySem.W.isClsIn K c_NoName = true)
    (uE_NoName : PySem.W.subIn K (.ref c_NoName) (.ref c_NoName) = some true)
    (gE_Twice : PySem.W.nsIn K mainGlobals "Twice" = some (some (.ref c_Twice)))
    (xE_Twice : K.lookup c_Twice = some (excClassObj nm_Twice qq_Twice c_Twice NN_Twice bs_Twice ER.tlK true sn_Twice sub_Twice ab_Twice col_Twice dd_Twice m0_Twice m1_Twice m2_Twice m3_Twice m5_Twice "LookupError.__new__"))
    (sE_Twice : PySem.W.findIn K (.ref c_Twice) "__setattr__" = some (some (.builtin "object.__setattr__")))
    (rE_Twice : PySem.W.findIn K (.ref c_Twice) "__getattribute__" = some (some (.builtin "BaseException.__getattribute__")))
    (tE_Twice : PySem.W.findIn K (.ref c_Twice) "__getattr__" = some none)
    (dE_Twice : PySem.W.hasDictIn K c_Twice = true)
    (nE_Twice_name : PySem.W.findIn K (.ref c_Twice) "name" = some none)
    (bE_Twice : PySem.W.subIn K (.ref c_Twice) (.type "BaseException") = some true)
    (yE_Twice : PySem.W.typeIn K (.ref c_Twice) = some (.type "type"))
    (kE_Twice : PySem.W.keepIn K (.ref c_Twice) = true)
    (wE_Twice : PySem.W.findIn K (.ref c_Twice) "__class__" = some (some (.builtin "object.__class__")))
    (iE_Twice : PySem.W.isClsIn K c_Twice = true)
    (uE_Twice : PySem.W.subIn K (.ref c_Twice) (.ref c_Twice) = some true)
    (gE_NotInside : PySem.W.nsIn K mainGlobals "NotInside" = some (some (.ref c_NotInside)))
    (xE_NotInside : K.lookup c_NotInside = some (excClassObj nm_NotInside qq_NotInside c_NotInside NN_NotInside bs_NotInside ER.tlK true sn_NotInside sub_NotInside ab_NotInside col_NotInside dd_NotInside m0_NotInside m1_NotInside m2_NotInside m3_NotInside m5_NotInside "LookupError.__new__"))
    (sE_NotInside : PySem.W.findIn K (.ref c_NotInside) "__setattr__" = some (some (.builtin "object.__setattr__")))
    (rE_NotInside : PySem.W.findIn K (.ref c_NotInside) "__getattribute__" = some (some (.builtin "BaseException.__getattribute__")))
    (tE_NotInside : PySem.W.findIn K (.ref c_NotInside) "__getattr__" = some none)
    (dE_NotInside : PySem.W.hasDictIn K c_NotInside = true)
    (nE_NotInside_name : PySem.W.findIn K (.ref c_NotInside) "name" = some none)
    (bE_NotInside : PySem.W.subIn K (.ref c_NotInside) (.type "BaseException") = some true)
    (yE_NotInside : PySem.W.typeIn K (.ref c_NotInside) = some (.type "type"))
    (kE_NotInside : PySem.W.keepIn K (.ref c_NotInside) = true)
    (wE_NotInside : PySem.W.findIn K (.ref c_NotInside) "__class__" = some (some (.builtin "object.__class__")))
    (iE_NotInside : PySem.W.isClsIn K c_NotInside = true)
    (uE_NotInside : PySem.W.subIn K (.ref c_NotInside) (.ref c_NotInside) = some true)
    (gE_NoKey : PySem.W.nsIn K mainGlobals "NoKey" = some (some (.ref c_NoKey)))
    (xE_NoKey : K.lookup c_NoKey = some (excClassObj nm_NoKey qq_NoKey c_NoKey NN_NoKey bs_NoKey ER.tlK true sn_NoKey sub_NoKey ab_NoKey col_NoKey dd_NoKey m0_NoKey m1_NoKey m2_NoKey m3_NoKey m5_NoKey "LookupError.__new__"))
    (sE_NoKey : PySem.W.findIn K (.ref c_NoKey) "__setattr__" = some (some (.builtin "object.__setattr__")))
    (rE_NoKey : PySem.W.findIn K (.ref c_NoKey) "__getattribute__" = some (some (.builtin "BaseException.__getattribute__")))
    (tE_NoKey : PySem.W.findIn K (.ref c_NoKey) "__getattr__" = some none)
    (dE_NoKey : PySem.W.hasDictIn K c_NoKey = true)
    (nE_NoKey_key : PySem.W.findIn K (.ref c_NoKey) "key" = some none)
    (bE_NoKey : PySem.W.subIn K (.ref c_NoKey) (.type "BaseException") = some true)
    (yE_NoKey : PySem.W.typeIn K (.ref c_NoKey) = some (.type "type"))
    (kE_NoKey : PySem.W.keepIn K (.ref c_NoKey) = true)
    (wE_NoKey : PySem.W.findIn K (.ref c_NoKey) "__class__" = some (some (.builtin "object.__class__")))
    (iE_NoKey : PySem.W.isClsIn K c_NoKey = true)
    (uE_NoKey : PySem.W.subIn K (.ref c_NoKey) (.ref c_NoKey) = some true)
    (gE_NoValue : PySem.W.nsIn K mainGlobals "NoValue" = some (some (.ref c_NoValue)))
    (xE_NoValue : K.lookup c_NoValue = some (excClassObj nm_NoValue qq_NoValue c_NoValue NN_NoValue bs_NoValue ER.tlK true sn_NoValue sub_NoValue ab_NoValue col_NoValue dd_NoValue m0_NoValue m1_NoValue m2_NoValue m3_NoValue m5_NoValue "LookupError.__new__"))
    (sE_NoValue : PySem.W.findIn K (.ref c_NoValue) "__setattr__" = some (some (.builtin "object.__setattr__")))
    (rE_NoValue : PySem.W.findIn K (.ref c_NoValue) "__getattribute__" = some (some (.builtin "BaseException.__getattribute__")))
    (tE_NoValue : PySem.W.findIn K (.ref c_NoValue) "__getattr__" = some none)
    (dE_NoValue : PySem.W.hasDictIn K c_NoValue = true)
    (nE_NoValue_value : PySem.W.findIn K (.ref c_NoValue) "value" = some none)
    (bE_NoValue : PySem.W.subIn K (.ref c_NoValue) (.type "BaseException") = some true)
    (yE_NoValue : PySem.W.typeIn K (.ref c_NoValue) = some (.type "type"))
    (kE_NoValue : PySem.W.keepIn K (.ref c_NoValue) = true)
    (wE_NoValue : PySem.W.findIn K (.ref c_NoValue) "__class__" = some (some (.builtin "object.__class__")))
    (iE_NoValue : PySem.W.isClsIn K c_NoValue = true)
    (uE_NoValue : PySem.W.subIn K (.ref c_NoValue) (.ref c_NoValue) = some true)
    (gE_NoWay : PySem.W.nsIn K mainGlobals "NoWay" = some (some (.ref c_NoWay)))
    (xE_NoWay : K.lookup c_NoWay = some (excClassObj nm_NoWay qq_NoWay c_NoWay NN_NoWay bs_NoWay ER.tlL true sn_NoWay sub_NoWay ab_NoWay col_NoWay dd_NoWay m0_NoWay m1_NoWay m2_NoWay m3_NoWay m5_NoWay "LookupError.__new__"))
    (sE_NoWay : PySem.W.findIn K (.ref c_NoWay) "__setattr__" = some (some (.builtin "object.__setattr__")))
    (rE_NoWay : PySem.W.findIn K (.ref c_NoWay) "__getattribute__" = some (some (.builtin "BaseException.__getattribute__")))
    (tE_NoWay : PySem.W.findIn K (.ref c_NoWay) "__getattr__" = some none)
    (dE_NoWay : PySem.W.hasDictIn K c_NoWay = true)
    (nE_NoWay_slot : PySem.W.findIn K (.ref c_NoWay) "slot" = some none)
    (nE_NoWay_key : PySem.W.findIn K (.ref c_NoWay) "key" = some none)
    (bE_NoWay : PySem.W.subIn K (.ref c_NoWay) (.type "BaseException") = some true)
    (yE_NoWay : PySem.W.typeIn K (.ref c_NoWay) = some (.type "type"))
    (kE_NoWay : PySem.W.keepIn K (.ref c_NoWay) = true)
    (wE_NoWay : PySem.W.findIn K (.ref c_NoWay) "__class__" = some (some (.builtin "object.__class__")))
    (iE_NoWay : PySem.W.isClsIn K c_NoWay = true)
    (uE_NoWay : PySem.W.subIn K (.ref c_NoWay) (.ref c_NoWay) = some true)
    (gE_Idle : PySem.W.nsIn K mainGlobals "Idle" = some (some (.ref c_Idle)))
    (xE_Idle : K.lookup c_Idle = some (excClassObj nm_Idle qq_Idle c_Idle NN_Idle bs_Idle ER.tlR true sn_Idle sub_Idle ab_Idle col_Idle dd_Idle m0_Idle m1_Idle m2_Idle m3_Idle m5_Idle "RuntimeError.__new__"))
    (sE_Idle : PySem.W.findIn K (.ref c_Idle) "__setattr__" = some (some (.builtin "object.__setattr__")))
    (rE_Idle : PySem.W.findIn K (.ref c_Idle) "__getattribute__" = some (some (.builtin "BaseException.__getattribute__")))
    (tE_Idle : PySem.W.findIn K (.ref c_Idle) "__getattr__" = some none)
    (dE_Idle : PySem.W.hasDictIn K c_Idle = true)
    (nE_Idle_name : PySem.W.findIn K (.ref c_Idle) "name" = some none)
    (bE_Idle : PySem.W.subIn K (.ref c_Idle) (.type "BaseException") = some true)
    (yE_Idle : PySem.W.typeIn K (.ref c_Idle) = some (.type "type"))
    (kE_Idle : PySem.W.keepIn K (.ref c_Idle) = true)
    (wE_Idle : PySem.W.findIn K (.ref c_Idle) "__class__" = some (some (.builtin "object.__class__")))
    (iE_Idle : PySem.W.isClsIn K c_Idle = true)
    (uE_Idle : PySem.W.subIn K (.ref c_Idle) (.ref c_Idle) = some true)
    (gE_Busy : PySem.W.nsIn K mainGlobals "Busy" = some (some (.ref c_Busy)))
    (xE_Busy : K.lookup c_Busy = some (excClassObj nm_Busy qq_Busy c_Busy NN_Busy bs_Busy ER.tlR true sn_Busy sub_Busy ab_Busy col_Busy dd_Busy m0_Busy m1_Busy m2_Busy m3_Busy m5_Busy "RuntimeError.__new__"))
    (sE_Busy : PySem.W.findIn K (.ref c_Busy) "__setattr__" = some (some (.builtin "object.__setattr__")))
    (rE_Busy : PySem.W.findIn K (.ref c_Busy) "__getattribute__" = some (some (.builtin "BaseException.__getattribute__")))
    (tE_Busy : PySem.W.findIn K (.ref c_Busy) "__getattr__" = some none)
    (dE_Busy : PySem.W.hasDictIn K c_Busy = true)
    (nE_Busy_name : PySem.W.findIn K (.ref c_Busy) "name" = some none)
    (bE_Busy : PySem.W.subIn K (.ref c_Busy) (.type "BaseException") = some true)
    (yE_Busy : PySem.W.typeIn K (.ref c_Busy) = some (.type "type"))
    (kE_Busy : PySem.W.keepIn K (.ref c_Busy) = true)
    (wE_Busy : PySem.W.findIn K (.ref c_Busy) "__class__" = some (some (.builtin "object.__class__")))
    (iE_Busy : PySem.W.isClsIn K c_Busy = true)
    (uE_Busy : PySem.W.subIn K (.ref c_Busy) (.ref c_Busy) = some true)
    (gE_NotOpen : PySem.W.nsIn K mainGlobals "NotOpen" = some (some (.ref c_NotOpen)))
    (xE_NotOpen : K.lookup c_NotOpen = some (excClassObj nm_NotOpen qq_NotOpen c_NotOpen NN_NotOpen bs_NotOpen ER.tlR true sn_NotOpen sub_NotOpen ab_NotOpen col_NotOpen dd_NotOpen m0_NotOpen m1_NotOpen m2_NotOpen m3_NotOpen m5_NotOpen "RuntimeError.__new__"))
    (sE_NotOpen : PySem.W.findIn K (.ref c_NotOpen) "__setattr__" = some (some (.builtin "object.__setattr__")))
    (rE_NotOpen : PySem.W.findIn K (.ref c_NotOpen) "__getattribute__" = some (some (.builtin "BaseException.__getattribute__")))
    (tE_NotOpen : PySem.W.findIn K (.ref c_NotOpen) "__getattr__" = some none)
    (dE_NotOpen : PySem.W.hasDictIn K c_NotOpen = true)
    (nE_NotOpen_state : PySem.W.findIn K (.ref c_NotOpen) "state" = some none)
    (bE_NotOpen : PySem.W.subIn K (.ref c_NotOpen) (.type "BaseException") = some true)
    (yE_NotOpen : PySem.W.typeIn K (.ref c_NotOpen) = some (.type "type"))
    (kE_NotOpen : PySem.W.keepIn K (.ref c_NotOpen) = true)
    (wE_NotOpen : PySem.W.findIn K (.ref c_NotOpen) "__class__" = some (some (.builtin "object.__class__")))
    (iE_NotOpen : PySem.W.isClsIn K c_NotOpen = true)
    (uE_NotOpen : PySem.W.subIn K (.ref c_NotOpen) (.ref c_NotOpen) = some true)
    (gE_Full : PySem.W.nsIn K mainGlobals "Full" = some (some (.ref c_Full)))
    (xE_Full : K.lookup c_Full = some (excClassObj nm_Full qq_Full c_Full NN_Full bs_Full ER.tlO true sn_Full sub_Full ab_Full col_Full dd_Full m0_Full m1_Full m2_Full m3_Full m5_Full "OverflowError.__new__"))
    (sE_Full : PySem.W.findIn K (.ref c_Full) "__setattr__" = some (some (.builtin "object.__setattr__")))
    (rE_Full : PySem.W.findIn K (.ref c_Full) "__getattribute__" = some (some (.builtin "BaseException.__getattribute__")))
    (tE_Full : PySem.W.findIn K (.ref c_Full) "__getattr__" = some none)
    (dE_Full : PySem.W.hasDictIn K c_Full = true)
    (nE_Full_many : PySem.W.findIn K (.ref c_Full) "many" = some none)
    (bE_Full : PySem.W.subIn K (.ref c_Full) (.type "BaseException") = some true)
    (yE_Full : PySem.W.typeIn K (.ref c_Full) = some (.type "type"))
    (kE_Full : PySem.W.keepIn K (.ref c_Full) = true)
    (wE_Full : PySem.W.findIn K (.ref c_Full) "__class__" = some (some (.builtin "object.__class__")))
    (iE_Full : PySem.W.isClsIn K c_Full = true)
    (uE_Full : PySem.W.subIn K (.ref c_Full) (.ref c_Full) = some true)
    (gE_TooMany : PySem.W.nsIn K mainGlobals "TooMany" = some (some (.ref c_TooMany)))
    (xE_TooMany : K.lookup c_TooMany = some (excClassObj nm_TooMany qq_TooMany c_TooMany NN_TooMany bs_TooMany ER.tlO true sn_TooMany sub_TooMany ab_TooMany col_TooMany dd_TooMany m0_TooMany m1_TooMany m2_TooMany m3_TooMany m5_TooMany "OverflowError.__new__"))
    (sE_TooMany : PySem.W.findIn K (.ref c_TooMany) "__setattr__" = some (some (.builtin "object.__setattr__")))
    (rE_TooMany : PySem.W.findIn K (.ref c_TooMany) "__getattribute__" = some (some (.builtin "BaseException.__getattribute__")))
    (tE_TooMany : PySem.W.findIn K (.ref c_TooMany) "__getattr__" = some none)
    (dE_TooMany : PySem.W.hasDictIn K c_TooMany = true)
    (nE_TooMany_many : PySem.W.findIn K (.ref c_TooMany) "many" = some none)
    (bE_TooMany : PySem.W.subIn K (.ref c_TooMany) (.type "BaseException") = some true)
    (yE_TooMany : PySem.W.typeIn K (.ref c_TooMany) = some (.type "type"))
    (kE_TooMany : PySem.W.keepIn K (.ref c_TooMany) = true)
    (wE_TooMany : PySem.W.findIn K (.ref c_TooMany) "__class__" = some (some (.builtin "object.__class__")))
    (iE_TooMany : PySem.W.isClsIn K c_TooMany = true)
    (uE_TooMany : PySem.W.subIn K (.ref c_TooMany) (.ref c_TooMany) = some true)
    (gE_NoRecord : PySem.W.nsIn K mainGlobals "NoRecord" = some (some (.ref c_NoRecord)))
    (xE_NoRecord : K.lookup c_NoRecord = some (excClassObj nm_NoRecord qq_NoRecord c_NoRecord NN_NoRecord bs_NoRecord ER.tlV true sn_NoRecord sub_NoRecord ab_NoRecord col_NoRecord dd_NoRecord m0_NoRecord m1_NoRecord m2_NoRecord m3_NoRecord m5_NoRecord "ValueError.__new__"))
    (sE_NoRecord : PySem.W.findIn K (.ref c_NoRecord) "__setattr__" = some (some (.builtin "object.__setattr__")))
    (rE_NoRecord : PySem.W.findIn K (.ref c_NoRecord) "__getattribute__" = some (some (.builtin "BaseException.__getattribute__")))
    (tE_NoRecord : PySem.W.findIn K (.ref c_NoRecord) "__getattr__" = some none)
    (dE_NoRecord : PySem.W.hasDictIn K c_NoRecord = true)
    (qE_NoRecord : PySem.W.excIn K c_NoRecord ER.tlV "ValueError.__new__" = true)
    (bE_NoRecord : PySem.W.subIn K (.ref c_NoRecord) (.type "BaseException") = some true)
    (yE_NoRecord : PySem.W.typeIn K (.ref c_NoRecord) = some (.type "type"))
    (kE_NoRecord : PySem.W.keepIn K (.ref c_NoRecord) = true)
    (wE_NoRecord : PySem.W.findIn K (.ref c_NoRecord) "__class__" = some (some (.builtin "object.__class__")))
    (iE_NoRecord : PySem.W.isClsIn K c_NoRecord = true)
    (uE_NoRecord : PySem.W.subIn K (.ref c_NoRecord) (.ref c_NoRecord) = some true)
    (gE_Unsound : PySem.W.nsIn K mainGlobals "Unsound" = some (some (.ref c_Unsound)))
    (xE_Unsound : K.lookup c_Unsound = some (excClassObj nm_Unsound qq_Unsound c_Unsound NN_Unsound bs_Unsound ER.tlV true sn_Unsound sub_Unsound ab_Unsound col_Unsound dd_Unsound m0_Unsound m1_Unsound m2_Unsound m3_Unsound m5_Unsound "ValueError.__new__"))
    (sE_Unsound : PySem.W.findIn K (.ref c_Unsound) "__setattr__" = some (some (.builtin "object.__setattr__")))
    (rE_Unsound : PySem.W.findIn K (.ref c_Unsound) "__getattribute__" = some (some (.builtin "BaseException.__getattribute__")))
    (tE_Unsound : PySem.W.findIn K (.ref c_Unsound) "__getattr__" = some none)
    (dE_Unsound : PySem.W.hasDictIn K c_Unsound = true)
    (qE_Unsound : PySem.W.excIn K c_Unsound ER.tlV "ValueError.__new__" = true)
    (bE_Unsound : PySem.W.subIn K (.ref c_Unsound) (.type "BaseException") = some true)
    (yE_Unsound : PySem.W.typeIn K (.ref c_Unsound) = some (.type "type"))
    (kE_Unsound : PySem.W.keepIn K (.ref c_Unsound) = true)
    (wE_Unsound : PySem.W.findIn K (.ref c_Unsound) "__class__" = some (some (.builtin "object.__class__")))
    (iE_Unsound : PySem.W.isClsIn K c_Unsound = true)
    (uE_Unsound : PySem.W.subIn K (.ref c_Unsound) (.ref c_Unsound) = some true)
    (gE_NoRow : PySem.W.nsIn K mainGlobals "NoRow" = some (some (.ref c_NoRow)))
    (xE_NoRow : K.lookup c_NoRow = some (excClassObj nm_NoRow qq_NoRow c_NoRow NN_NoRow bs_NoRow ER.tlV true sn_NoRow sub_NoRow ab_NoRow col_NoRow dd_NoRow m0_NoRow m1_NoRow m2_NoRow m3_NoRow m5_NoRow "ValueError.__new__"))
    (sE_NoRow : PySem.W.findIn K (.ref c_NoRow) "__setattr__" = some (some (.builtin "object.__setattr__")))
    (rE_NoRow : PySem.W.findIn K (.ref c_NoRow) "__getattribute__" = some (some (.builtin "BaseException.__getattribute__")))
    (tE_NoRow : PySem.W.findIn K (.ref c_NoRow) "__getattr__" = some none)
    (dE_NoRow : PySem.W.hasDictIn K c_NoRow = true)
    (qE_NoRow : PySem.W.excIn K c_NoRow ER.tlV "ValueError.__new__" = true)
    (bE_NoRow : PySem.W.subIn K (.ref c_NoRow) (.type "BaseException") = some true)
    (yE_NoRow : PySem.W.typeIn K (.ref c_NoRow) = some (.type "type"))
    (kE_NoRow : PySem.W.keepIn K (.ref c_NoRow) = true)
    (wE_NoRow : PySem.W.findIn K (.ref c_NoRow) "__class__" = some (some (.builtin "object.__class__")))
    (iE_NoRow : PySem.W.isClsIn K c_NoRow = true)
    (uE_NoRow : PySem.W.subIn K (.ref c_NoRow) (.ref c_NoRow) = some true)
    (ndE : [c_NoRecord, c_Unsound, c_NoRow, c_NoChain, c_NoPairs, c_NoSize, c_NoText, c_NoGoing, c_NoRoom, c_NoSlot, c_NoName, c_Twice, c_NotInside, c_NoKey, c_NoValue, c_NoWay, c_Idle, c_Busy, c_NotOpen, c_Full, c_TooMany].Nodup)
    (a0 : PySem.W.findIn K (.ref c_NoChain) "__init__" = some (some (.ref a_NoChain_init)))
    (i0 : PySem.W.typeIn K (.ref a_NoChain_init) = some (.type "function"))
    (l0 : K.lookup a_NoChain_init = some ⟨oc0, od0, .func (PySem.W.fnOf "__init__" "NoChain.__init__" (defArgs s_NoChain_init) (defBody s_NoChain_init) (defScope s_NoChain_init) .none kV0 dc0 pm0 an0 cd0 ct0), sl0⟩)
    (c0 : PySem.W.codeIn K cd0 "NoChain.__init__" = true)
    (k0 : PySem.W.keepIn K (.ref a_NoChain_init) = true)
    (a1 : PySem.W.findIn K (.ref c_NoPairs) "__init__" = some (some (.ref a_NoPairs_init)))
    (i1 : PySem.W.typeIn K (.ref a_NoPairs_init) = some (.type "function"))
    (l1 : K.lookup a_NoPairs_init = some ⟨oc1, od1, .func (PySem.W.fnOf "__init__" "NoPairs.__init__" (defArgs s_NoPairs_init) (defBody s_NoPairs_init) (defScope s_NoPairs_init) .none kV1 dc1 pm1 an1 cd1 ct1), sl1⟩)
    (c1 : PySem.W.codeIn K cd1 "NoPairs.__init__" = true)
    (k1 : PySem.W.keepIn K (.ref a_NoPairs_init) = true)
    (a2 : PySem.W.findIn K (.ref c_NoSize) "__init__" = some (some (.ref a_NoSize_init)))
    (i2 : PySem.W.typeIn K (.ref a_NoSize_init) = some (.type "function"))
    (l2 : K.lookup a_NoSize_init = some ⟨oc2, od2, .func (PySem.W.fnOf "__init__" "NoSize.__init__" (defArgs s_NoSize_init) (defBody s_NoSize_init) (defScope s_NoSize_init) .none kV2 dc2 pm2 an2 cd2 ct2), sl2⟩)
    (c2 : PySem.W.codeIn K cd2 "NoSize.__init__" = true)
    (k2 : PySem.W.keepIn K (.ref a_NoSize_init) = true)
    (a3 : PySem.W.findIn K (.ref c_NoText) "__init__" = some (some (.ref a_NoText_init)))
    (i3 : PySem.W.typeIn K (.ref a_NoText_init) = some (.type "function"))
    (l3 : K.lookup a_NoText_init = some ⟨oc3, od3, .func (PySem.W.fnOf "__init__" "NoText.__init__" (defArgs s_NoText_init) (defBody s_NoText_init) (defScope s_NoText_init) .none kV3 dc3 pm3 an3 cd3 ct3), sl3⟩)
    (c3 : PySem.W.codeIn K cd3 "NoText.__init__" = true)
    (k3 : PySem.W.keepIn K (.ref a_NoText_init) = true)
    (a4 : PySem.W.findIn K (.ref c_NoGoing) "__init__" = some (some (.ref a_NoGoing_init)))
    (i4 : PySem.W.typeIn K (.ref a_NoGoing_init) = some (.type "function"))
    (l4 : K.lookup a_NoGoing_init = some ⟨oc4, od4, .func (PySem.W.fnOf "__init__" "NoGoing.__init__" (defArgs s_NoGoing_init) (defBody s_NoGoing_init) (defScope s_NoGoing_init) .none kV4 dc4 pm4 an4 cd4 ct4), sl4⟩)
    (c4 : PySem.W.codeIn K cd4 "NoGoing.__init__" = true)
    (k4 : PySem.W.keepIn K (.ref a_NoGoing_init) = true)
    (a5 : PySem.W.findIn K (.ref c_NoRoom) "__init__" = some (some (.ref a_NoRoom_init)))
    (i5 : PySem.W.typeIn K (.ref a_NoRoom_init) = some (.type "function"))
    (l5 : K.lookup a_NoRoom_init = some ⟨oc5, od5, .func (PySem.W.fnOf "__init__" "NoRoom.__init__" (defArgs s_NoRoom_init) (defBody s_NoRoom_init) (defScope s_NoRoom_init) .none kV5 dc5 pm5 an5 cd5 ct5), sl5⟩)
    (c5 : PySem.W.codeIn K cd5 "NoRoom.__init__" = true)
    (k5 : PySem.W.keepIn K (.ref a_NoRoom_init) = true)
    (a6 : PySem.W.findIn K (.ref c_NoSlot) "__init__" = some (some (.ref a_NoSlot_init)))
    (i6 : PySem.W.typeIn K (.ref a_NoSlot_init) = some (.type "function"))
    (l6 : K.lookup a_NoSlot_init = some ⟨oc6, od6, .func (PySem.W.fnOf "__init__" "NoSlot.__init__" (defArgs s_NoSlot_init) (defBody s_NoSlot_init) (defScope s_NoSlot_init) .none kV6 dc6 pm6 an6 cd6 ct6), sl6⟩)
    (c6 : PySem.W.codeIn K cd6 "NoSlot.__init__" = true)
    (k6 : PySem.W.keepIn K (.ref a_NoSlot_init) = true)
    (a7 : PySem.W.findIn K (.ref c_NoName) "__init__" = some (some (.ref a_NoName_init)))
    (i7 : PySem.W.typeIn K (.ref a_NoName_init) = some (.type "function"))
    (l7 : K.lookup a_NoName_init = some ⟨oc7, od7, .func (PySem.W.fnOf "__init__" "NoName.__init__" (defArgs s_NoName_init) (defBody s_NoName_init) (defScope s_NoName_init) .none kV7 dc7 pm7 an7 cd7 ct7), sl7⟩)
    (c7 : PySem.W.codeIn K cd7 "NoName.__init__" = true)
    (k7 : PySem.W.keepIn K (.ref a_NoName_init) = true)
    (a8 : PySem.W.findIn K (.ref c_Twice) "__init__" = some (some (.ref a_Twice_init)))
    (i8 : PySem.W.typeIn K (.ref a_Twice_init) = some (.type "function"))
    (l8 : K.lookup a_Twice_init = some ⟨oc8, od8, .func (PySem.W.fnOf "__init__" "Twice.__init__" (defArgs s_Twice_init) (defBody s_Twice_init) (defScope s_Twice_init) .none kV8 dc8 pm8 an8 cd8 ct8), sl8⟩)
    (c8 : PySem.W.codeIn K cd8 "Twice.__init__" = true)
    (k8 : PySem.W.keepIn K (.ref a_Twice_init) = true)
    (a9 : PySem.W.findIn K (.ref c_NotInside) "__init__" = some (some (.ref a_NotInside_init)))
    (i9 : PySem.W.typeIn K (.ref a_NotInside_init) = some (.type "function"))
    (l9 : K.lookup a_NotInside_init = some ⟨oc9, od9, .func (PySem.W.fnOf "__init__" "NotInside.__init__" (defArgs s_NotInside_init) (defBody s_NotInside_init) (defScope s_NotInside_init) .none kV9 dc9 pm9 an9 cd9 ct9), sl9⟩)
    (c9 : PySem.W.codeIn K cd9 "NotInside.__init__" = true)
    (k9 : PySem.W.keepIn K (.ref a_NotInside_init) = true)
    (a10 : PySem.W.findIn K (.ref c_NoKey) "__init__" = some (some (.ref a_NoKey_init)))
    (i10 : PySem.W.typeIn K (.ref a_NoKey_init) = some (.type "function"))
    (l10 : K.lookup a_NoKey_init = some ⟨oc10, od10, .func (PySem.W.fnOf "__init__" "NoKey.__init__" (defArgs s_NoKey_init) (defBody s_NoKey_init) (defScope s_NoKey_init) .none kV10 dc10 pm10 an10 cd10 ct10), sl10⟩)
    (c10 : PySem.W.codeIn K cd10 "NoKey.__init__" = true)
    (k10 : PySem.W.keepIn K (.ref a_NoKey_init) = true)
    (a11 : PySem.W.findIn K (.ref c_NoValue) "__init__" = some (some (.ref a_NoValue_init)))
    (i11 : PySem.W.typeIn K (.ref a_NoValue_init) = some (.type "function"))
    (l11 : K.lookup a_NoValue_init = some ⟨oc11, od11, .func (PySem.W.fnOf "__init__" "NoValue.__init__" (defArgs s_NoValue_init) (defBody s_NoValue_init) (defScope s_NoValue_init) .none kV11 dc11 pm11 an11 cd11 ct11), sl11⟩)
    (c11 : PySem.W.codeIn K cd11 "NoValue.__init__" = true)
    (k11 : PySem.W.keepIn K (.ref a_NoValue_init) = true)
    (a12 : PySem.W.findIn K (.ref c_NoWay) "__init__" = some (some (.ref a_NoWay_init)))
    (i12 : PySem.W.typeIn K (.ref a_NoWay_init) = some (.type "function"))
    (l12 : K.lookup a_NoWay_init = some ⟨oc12, od12, .func (PySem.W.fnOf "__init__" "NoWay.__init__" (defArgs s_NoWay_init) (defBody s_NoWay_init) (defScope s_NoWay_init) .none kV12 dc12 pm12 an12 cd12 ct12), sl12⟩)
    (c12 : PySem.W.codeIn K cd12 "NoWay.__init__" = true)
    (k12 : PySem.W.keepIn K (.ref a_NoWay_init) = true)
    (a13 : PySem.W.findIn K (.ref c_Idle) "__init__" = some (some (.ref a_Idle_init)))
    (i13 : PySem.W.typeIn K (.ref a_Idle_init) = some (.type "function"))
    (l13 : K.lookup a_Idle_init = some ⟨oc13, od13, .func (PySem.W.fnOf "__init__" "Idle.__init__" (defArgs s_Idle_init) (defBody s_Idle_init) (defScope s_Idle_init) .none kV13 dc13 pm13 an13 cd13 ct13), sl13⟩)
    (c13 : PySem.W.codeIn K cd13 "Idle.__init__" = true)
    (k13 : PySem.W.keepIn K (.ref a_Idle_init) = true)
    (a14 : PySem.W.findIn K (.ref c_Busy) "__init__" = some (some (.ref a_Busy_init)))
    (i14 : PySem.W.typeIn K (.ref a_Busy_init) = some (.type "function"))
    (l14 : K.lookup a_Busy_init = some ⟨oc14, od14, .func (PySem.W.fnOf "__init__" "Busy.__init__" (defArgs s_Busy_init) (defBody s_Busy_init) (defScope s_Busy_init) .none kV14 dc14 pm14 an14 cd14 ct14), sl14⟩)
    (c14 : PySem.W.codeIn K cd14 "Busy.__init__" = true)
    (k14 : PySem.W.keepIn K (.ref a_Busy_init) = true)
    (a15 : PySem.W.findIn K (.ref c_NotOpen) "__init__" = some (some (.ref a_NotOpen_init)))
    (i15 : PySem.W.typeIn K (.ref a_NotOpen_init) = some (.type "function"))
    (l15 : K.lookup a_NotOpen_init = some ⟨oc15, od15, .func (PySem.W.fnOf "__init__" "NotOpen.__init__" (defArgs s_NotOpen_init) (defBody s_NotOpen_init) (defScope s_NotOpen_init) .none kV15 dc15 pm15 an15 cd15 ct15), sl15⟩)
    (c15 : PySem.W.codeIn K cd15 "NotOpen.__init__" = true)
    (k15 : PySem.W.keepIn K (.ref a_NotOpen_init) = true)
    (a16 : PySem.W.findIn K (.ref c_Full) "__init__" = some (some (.ref a_Full_init)))
    (i16 : PySem.W.typeIn K (.ref a_Full_init) = some (.type "function"))
    (l16 : K.lookup a_Full_init = some ⟨oc16, od16, .func (PySem.W.fnOf "__init__" "Full.__init__" (defArgs s_Full_init) (defBody s_Full_init) (defScope s_Full_init) .none kV16 dc16 pm16 an16 cd16 ct16), sl16⟩)
    (c16 : PySem.W.codeIn K cd16 "Full.__init__" = true)
    (k16 : PySem.W.keepIn K (.ref a_Full_init) = true)
    (a17 : PySem.W.findIn K (.ref c_TooMany) "__init__" = some (some (.ref a_TooMany_init)))
    (i17 : PySem.W.typeIn K (.ref a_TooMany_init) = some (.type "function"))
    (l17 : K.lookup a_TooMany_init = some ⟨oc17, od17, .func (PySem.W.fnOf "__init__" "TooMany.__init__" (defArgs s_TooMany_init) (defBody s_TooMany_init) (defScope s_TooMany_init) .none kV17 dc17 pm17 an17 cd17 ct17), sl17⟩)
    (c17 : PySem.W.codeIn K cd17 "TooMany.__init__" = true)
    (k17 : PySem.W.keepIn K (.ref a_TooMany_init) = true)
    (a18 : PySem.W.nsIn K mainGlobals "_law_pool" = some (some (.ref a_pool)))
    (l18 : K.lookup a_pool = some ⟨oc18, od18, .func (PySem.W.fnOf "_law_pool" "_law_pool" (defArgs s_pool) (defBody s_pool) (defScope s_pool) .none kV18 dc18 pm18 an18 cd18 ct18), sl18⟩)
    (c18 : PySem.W.codeIn K cd18 "_law_pool" = true)
    (k18 : PySem.W.keepIn K (.ref a_pool) = true)
    (a19 : PySem.W.nsIn K mainGlobals "_law_take" = some (some (.ref a_take)))
    (l19 : K.lookup a_take = some ⟨oc19, od19, .func (PySem.W.fnOf "_law_take" "_law_take" (defArgs s_take) (defBody s_take) (defScope s_take) .none kV19 dc19 pm19 an19 cd19 ct19), sl19⟩)
    (c19 : PySem.W.codeIn K cd19 "_law_take" = true)
    (k19 : PySem.W.keepIn K (.ref a_take) = true)
    (a20 : PySem.W.nsIn K mainGlobals "_law_made" = some (some (.ref a_made)))
    (l20 : K.lookup a_made = some ⟨oc20, od20, .func (PySem.W.fnOf "_law_made" "_law_made" (defArgs s_made) (defBody s_made) (defScope s_made) .none kV20 dc20 pm20 an20 cd20 ct20), sl20⟩)
    (c20 : PySem.W.codeIn K cd20 "_law_made" = true)
    (k20 : PySem.W.keepIn K (.ref a_made) = true)
    (a21 : PySem.W.nsIn K mainGlobals "_law_sorts" = some (some (.ref a_sorts)))
    (l21 : K.lookup a_sorts = some ⟨oc21, od21, .func (PySem.W.fnOf "_law_sorts" "_law_sorts" (defArgs s_sorts) (defBody s_sorts) (defScope s_sorts) .none kV21 dc21 pm21 an21 cd21 ct21), sl21⟩)
    (c21 : PySem.W.codeIn K cd21 "_law_sorts" = true)
    (k21 : PySem.W.keepIn K (.ref a_sorts) = true)
    (a22 : PySem.W.nsIn K mainGlobals "_law_above" = some (some (.ref a_above)))
    (l22 : K.lookup a_above = some ⟨oc22, od22, .func (PySem.W.fnOf "_law_above" "_law_above" (defArgs s_above) (defBody s_above) (defScope s_above) .none kV22 dc22 pm22 an22 cd22 ct22), sl22⟩)
    (c22 : PySem.W.codeIn K cd22 "_law_above" = true)
    (k22 : PySem.W.keepIn K (.ref a_above) = true)
    (a23 : PySem.W.nsIn K mainGlobals "_law_kept" = some (some (.ref a_kept)))
    (l23 : K.lookup a_kept = some ⟨oc23, od23, .func (PySem.W.fnOf "_law_kept" "_law_kept" (defArgs s_kept) (defBody s_kept) (defScope s_kept) .none kV23 dc23 pm23 an23 cd23 ct23), sl23⟩)
    (c23 : PySem.W.codeIn K cd23 "_law_kept" = true)
    (k23 : PySem.W.keepIn K (.ref a_kept) = true)
    (a24 : PySem.W.nsIn K mainGlobals "law" = some (some (.ref a_law)))
    (l24 : K.lookup a_law = some ⟨oc24, od24, .func (PySem.W.fnOf "law" "law" (defArgs s_law) (defBody s_law) (defScope s_law) .none kV24 dc24 pm24 an24 cd24 ct24), sl24⟩)
    (c24 : PySem.W.codeIn K cd24 "law" = true)
    (k24 : PySem.W.keepIn K (.ref a_law) = true)
    (z_ValueError : PySem.W.nsIn K mainGlobals "ValueError" = some none)
    (z_IndexError : PySem.W.nsIn K mainGlobals "IndexError" = some none)
    (z_KeyError : PySem.W.nsIn K mainGlobals "KeyError" = some none)
    (z_LookupError : PySem.W.nsIn K mainGlobals "LookupError" = some none)
    (z_RuntimeError : PySem.W.nsIn K mainGlobals "RuntimeError" = some none)
    (z_OverflowError : PySem.W.nsIn K mainGlobals "OverflowError" = some none)
    (z_isinstance : PySem.W.nsIn K mainGlobals "isinstance" = some none)
    (z_range : PySem.W.nsIn K mainGlobals "range" = some none)
    (z_int : PySem.W.nsIn K mainGlobals "int" = some none)
    (z_bool : PySem.W.nsIn K mainGlobals "bool" = some none)
    (z_len : PySem.W.nsIn K mainGlobals "len" = some none) :
    ∃ fd : FuncData, (∀ (s : Shared) (v : Value), BindsTo s fd ⟨[v], []⟩ [("_law_script", v)]) ∧ ∀ base : Heap, K.In base → base.Ns mainGlobals mg → FnOk l.prog w K mg base CX0 8 fa fd ["_law_script"] (spLaw K) := by
  have e := hfa.symm.trans (PySem.W.mg_of X G a24)
  cases e
  have F0 := fun_mk (st := s_NoChain_init) l0 c0 k0
  have F1 := fun_mk (st := s_NoPairs_init) l1 c1 k1
  have F2 := fun_mk (st := s_NoSize_init) l2 c2 k2
  have F3 := fun_mk (st := s_NoText_init) l3 c3 k3
  have F4 := fun_mk (st := s_NoGoing_init) l4 c4 k4
  have F5 := fun_mk (st := s_NoRoom_init) l5 c5 k5
  have F6 := fun_mk (st := s_NoSlot_init) l6 c6 k6
  have F7 := fun_mk (st := s_NoName_init) l7 c7 k7
  have F8 := fun_mk (st := s_Twice_init) l8 c8 k8
  have F9 := fun_mk (st := s_NotInside_init) l9 c9 k9
  have F10 := fun_mk (st := s_NoKey_init) l10 c10 k10
  have F11 := fun_mk (st := s_NoValue_init) l11 c11 k11
  have F12 := fun_mk (st := s_NoWay_init) l12 c12 k12
  have F13 := fun_mk (st := s_Idle_init) l13 c13 k13
  have F14 := fun_mk (st := s_Busy_init) l14 c14 k14
  have F15 := fun_mk (st := s_NotOpen_init) l15 c15 k15
  have F16 := fun_mk (st := s_Full_init) l16 c16 k16
  have F17 := fun_mk (st := s_TooMany_init) l17 c17 k17
  have F18 := fun_mk (st := s_pool) l18 c18 k18
  have F19 := fun_mk (st := s_take) l19 c19 k19
  have F20 := fun_mk (st := s_made) l20 c20 k20
  have F21 := fun_mk (st := s_sorts) l21 c21 k21
  have F22 := fun_mk (st := s_above) l22 c22 k22
  have F23 := fun_mk (st := s_kept) l23 c23 k23
  have F24 := fun_mk (st := s_law) l24 c24 k24
  have b0 := F0.binds (ps := ["self", "room"]) fun _ _ _ _ _ _ us hl => match us, hl with | [_, _], _ => rfl
  have b1 := F1.binds (ps := ["self", "number"]) fun _ _ _ _ _ _ us hl => match us, hl with | [_, _], _ => rfl
  have b2 := F2.binds (ps := ["self", "word"]) fun _ _ _ _ _ _ us hl => match us, hl with | [_, _], _ => rfl
  have b3 := F3.binds (ps := ["self", "row"]) fun _ _ _ _ _ _ us hl => match us, hl with | [_, _], _ => rfl
  have b4 := F4.binds (ps := ["self", "number"]) fun _ _ _ _ _ _ us hl => match us, hl with | [_, _], _ => rfl
  have b5 := F5.binds (ps := ["self", "room"]) fun _ _ _ _ _ _ us hl => match us, hl with | [_, _], _ => rfl
  have b6 := F6.binds (ps := ["self", "slot"]) fun _ _ _ _ _ _ us hl => match us, hl with | [_, _], _ => rfl
  have b7 := F7.binds (ps := ["self", "name"]) fun _ _ _ _ _ _ us hl => match us, hl with | [_, _], _ => rfl
  have b8 := F8.binds (ps := ["self", "name"]) fun _ _ _ _ _ _ us hl => match us, hl with | [_, _], _ => rfl
  have b9 := F9.binds (ps := ["self", "name"]) fun _ _ _ _ _ _ us hl => match us, hl with | [_, _], _ => rfl
  have b10 := F10.binds (ps := ["self", "key"]) fun _ _ _ _ _ _ us hl => match us, hl with | [_, _], _ => rfl
  have b11 := F11.binds (ps := ["self", "value"]) fun _ _ _ _ _ _ us hl => match us, hl with | [_, _], _ => rfl
  have b12 := F12.binds (ps := ["self", "slot", "key"]) fun _ _ _ _ _ _ us hl => match us, hl with | [_, _, _], _ => rfl
  have b13 := F13.binds (ps := ["self", "name"]) fun _ _ _ _ _ _ us hl => match us, hl with | [_, _], _ => rfl
  have b14 := F14.binds (ps := ["self", "name"]) fun _ _ _ _ _ _ us hl => match us, hl with | [_, _], _ => rfl
  have b15 := F15.binds (ps := ["self", "state"]) fun _ _ _ _ _ _ us hl => match us, hl with | [_, _], _ => rfl
  have b16 := F16.binds (ps := ["self", "many"]) fun _ _ _ _ _ _ us hl => match us, hl with | [_, _], _ => rfl
  have b17 := F17.binds (ps := ["self", "many"]) fun _ _ _ _ _ _ us hl => match us, hl with | [_, _], _ => rfl
  have b18 := F18.binds (ps := ["_law_script", "_law_k"]) fun _ _ _ _ _ _ us hl => match us, hl with | [_, _], _ => rfl
  have b19 := F19.binds (ps := ["_law_pool_here", "_law_many"]) fun _ _ _ _ _ _ us hl => match us, hl with | [_, _], _ => rfl
  have b20 := F20.binds (ps := ["_law_way", "_law_value"]) fun _ _ _ _ _ _ us hl => match us, hl with | [_, _], _ => rfl
  have b21 := F21.binds (ps := ["_law_error"]) fun _ _ _ _ _ _ us hl => match us, hl with | [_], _ => rfl
  have b22 := F22.binds (ps := ["_law_error"]) fun _ _ _ _ _ _ us hl => match us, hl with | [_], _ => rfl
  have b23 := F23.binds (ps := ["_law_way", "_law_error"]) fun _ _ _ _ _ _ us hl => match us, hl with | [_, _], _ => rfl
  have b24 := F24.binds (ps := ["_law_script"]) fun _ _ _ _ _ _ us hl => match us, hl with | [_], _ => rfl
  let A : Adr := { a_NoChain_init := a_NoChain_init, a_NoPairs_init := a_NoPairs_init, a_NoSize_init := a_NoSize_init, a_NoText_init := a_NoText_init, a_NoGoing_init := a_NoGoing_init, a_NoRoom_init := a_NoRoom_init, a_NoSlot_init := a_NoSlot_init, a_NoName_init := a_NoName_init, a_Twice_init := a_Twice_init, a_NotInside_init := a_NotInside_init, a_NoKey_init := a_NoKey_init, a_NoValue_init := a_NoValue_init, a_NoWay_init := a_NoWay_init, a_Idle_init := a_Idle_init, a_Busy_init := a_Busy_init, a_NotOpen_init := a_NotOpen_init, a_Full_init := a_Full_init, a_TooMany_init := a_TooMany_init, a_pool := a_pool, a_take := a_take, a_made := a_made, a_sorts := a_sorts, a_above := a_above, a_kept := a_kept, a_law := fa, d_NoChain_init := PySem.W.fnOf "__init__" "NoChain.__init__" (defArgs s_NoChain_init) (defBody s_NoChain_init) (defScope s_NoChain_init) .none kV0 dc0 pm0 an0 cd0 ct0, d_NoPairs_init := PySem.W.fnOf "__init__" "NoPairs.__init__" (defArgs s_NoPairs_init) (defBody s_NoPairs_init) (defScope s_NoPairs_init) .none kV1 dc1 pm1 an1 cd1 ct1, d_NoSize_init := PySem.W.fnOf "__init__" "NoSize.__init__" (defArgs s_NoSize_init) (defBody s_NoSize_init) (defScope s_NoSize_init) .none kV2 dc2 pm2 an2 cd2 ct2, d_NoText_init := PySem.W.fnOf "__init__" "NoText.__init__" (defArgs s_NoText_init) (defBody s_NoText_init) (defScope s_NoText_init) .none kV3 dc3 pm3 an3 cd3 ct3, d_NoGoing_init := PySem.W.fnOf "__init__" "NoGoing.__init__" (defArgs s_NoGoing_init) (defBody s_NoGoing_init) (defScope s_NoGoing_init) .none kV4 dc4 pm4 an4 cd4 ct4, d_NoRoom_init := PySem.W.fnOf "__init__" "NoRoom.__init__" (defArgs s_NoRoom_init) (defBody s_NoRoom_init) (defScope s_NoRoom_init) .none kV5 dc5 pm5 an5 cd5 ct5, d_NoSlot_init := PySem.W.fnOf "__init__" "NoSlot.__init__" (defArgs s_NoSlot_init) (defBody s_NoSlot_init) (defScope s_NoSlot_init) .none kV6 dc6 pm6 an6 cd6 ct6, d_NoName_init := PySem.W.fnOf "__init__" "NoName.__init__" (defArgs s_NoName_init) (defBody s_NoName_init) (defScope s_NoName_init) .none kV7 dc7 pm7 an7 cd7 ct7, d_Twice_init := PySem.W.fnOf "__init__" "Twice.__init__" (defArgs s_Twice_init) (defBody s_Twice_init) (defScope s_Twice_init) .none kV8 dc8 pm8 an8 cd8 ct8, d_NotInside_init := PySem.W.fnOf "__init__" "NotInside.__init__" (defArgs s_NotInside_init) (defBody s_NotInside_init) (defScope s_NotInside_init) .none kV9 dc9 pm9 an9 cd9 ct9, d_NoKey_init := PySem.W.fnOf "__init__" "NoKey.__init__" (defArgs s_NoKey_init) (defBody s_NoKey_init) (defScope s_NoKey_init) .none kV10 dc10 pm10 an10 cd10 ct10, d_NoValue_init := PySem.W.fnOf "__init__" "NoValue.__init__" (defArgs s_NoValue_init) (defBody s_NoValue_init) (defScope s_NoValue_init) .none kV11 dc11 pm11 an11 cd11 ct11, d_NoWay_init := PySem.W.fnOf "__init__" "NoWay.__init__" (defArgs s_NoWay_init) (defBody s_NoWay_init) (defScope s_NoWay_init) .none kV12 dc12 pm12 an12 cd12 ct12, d_Idle_init := PySem.W.fnOf "__init__" "Idle.__init__" (defArgs s_Idle_init) (defBody s_Idle_init) (defScope s_Idle_init) .none kV13 dc13 pm13 an13 cd13 ct13, d_Busy_init := PySem.W.fnOf "__init__" "Busy.__init__" (defArgs s_Busy_init) (defBody s_Busy_init) (defScope s_Busy_init) .none kV14 dc14 pm14 an14 cd14 ct14, d_NotOpen_init := PySem.W.fnOf "__init__" "NotOpen.__init__" (defArgs s_NotOpen_init) (defBody s_NotOpen_init) (defScope s_NotOpen_init) .none kV15 dc15 pm15 an15 cd15 ct15, d_Full_init := PySem.W.fnOf "__init__" "Full.__init__" (defArgs s_Full_init) (defBody s_Full_init) (defScope s_Full_init) .none kV16 dc16 pm16 an16 cd16 ct16, d_TooMany_init := PySem.W.fnOf "__init__" "TooMany.__init__" (defArgs s_TooMany_init) (defBody s_TooMany_init) (defScope s_TooMany_init) .none kV17 dc17 pm17 an17 cd17 ct17, d_pool := PySem.W.fnOf "_law_pool" "_law_pool" (defArgs s_pool) (defBody s_pool) (defScope s_pool) .none kV18 dc18 pm18 an18 cd18 ct18, d_take := PySem.W.fnOf "_law_take" "_law_take" (defArgs s_take) (defBody s_take) (defScope s_take) .none kV19 dc19 pm19 an19 cd19 ct19, d_made := PySem.W.fnOf "_law_made" "_law_made" (defArgs s_made) (defBody s_made) (defScope s_made) .none kV20 dc20 pm20 an20 cd20 ct20, d_sorts := PySem.W.fnOf "_law_sorts" "_law_sorts" (defArgs s_sorts) (defBody s_sorts) (defScope s_sorts) .none kV21 dc21 pm21 an21 cd21 ct21, d_above := PySem.W.fnOf "_law_above" "_law_above" (defArgs s_above) (defBody s_above) (defScope s_above) .none kV22 dc22 pm22 an22 cd22 ct22, d_kept := PySem.W.fnOf "_law_kept" "_law_kept" (defArgs s_kept) (defBody s_kept) (defScope s_kept) .none kV23 dc23 pm23 an23 cd23 ct23, d_law := PySem.W.fnOf "law" "law" (defArgs s_law) (defBody s_law) (defScope s_law) .none kV24 dc24 pm24 an24 cd24 ct24, c_NoChain := c_NoChain, c_NoPairs := c_NoPairs, c_NoSize := c_NoSize, c_NoText := c_NoText, c_NoGoing := c_NoGoing, c_NoRoom := c_NoRoom, c_NoSlot := c_NoSlot, c_NoName := c_NoName, c_Twice := c_Twice, c_NotInside := c_NotInside, c_NoKey := c_NoKey, c_NoValue := c_NoValue, c_NoWay := c_NoWay, c_Idle := c_Idle, c_Busy := c_Busy, c_NotOpen := c_NotOpen, c_Full := c_Full, c_TooMany := c_TooMany, c_NoRecord := c_NoRecord, c_Unsound := c_Unsound, c_NoRow := c_NoRow }
  have T : Txt w K mg A := { F_NoChain_init := F0, b_NoChain_init := b0, ic_NoChain := a0, ti_NoChain := i0, F_NoPairs_init := F1, b_NoPairs_init := b1, ic_NoPairs := a1, ti_NoPairs := i1, F_NoSize_init := F2, b_NoSize_init := b2, ic_NoSize := a2, ti_NoSize := i2, F_NoText_init := F3, b_NoText_init := b3, ic_NoText := a3, ti_NoText := i3, F_NoGoing_init := F4, b_NoGoing_init := b4, ic_NoGoing := a4, ti_NoGoing := i4, F_NoRoom_init := F5, b_NoRoom_init := b5, ic_NoRoom := a5, ti_NoRoom := i5, F_NoSlot_init := F6, b_NoSlot_init := b6, ic_NoSlot := a6, ti_NoSlot := i6, F_NoName_init := F7, b_NoName_init := b7, ic_NoName := a7, ti_NoName := i7, F_Twice_init := F8, b_Twice_init := b8, ic_Twice := a8, ti_Twice := i8, F_NotInside_init := F9, b_NotInside_init := b9, ic_NotInside := a9, ti_NotInside := i9, F_NoKey_init := F10, b_NoKey_init := b10, ic_NoKey := a10, ti_NoKey := i10, F_NoValue_init := F11, b_NoValue_init := b11, ic_NoValue := a11, ti_NoValue := i11, F_NoWay_init := F12, b_NoWay_init := b12, ic_NoWay := a12, ti_NoWay := i12, F_Idle_init := F13, b_Idle_init := b13, ic_Idle := a13, ti_Idle := i13, F_Busy_init := F14, b_Busy_init := b14, ic_Busy := a14, ti_Busy := i14, F_NotOpen_init := F15, b_NotOpen_init := b15, ic_NotOpen := a15, ti_NotOpen := i15, F_Full_init := F16, b_Full_init := b16, ic_Full := a16, ti_Full := i16, F_TooMany_init := F17, b_TooMany_init := b17, ic_TooMany := a17, ti_TooMany := i17, F_pool := F18, b_pool := b18, m_pool := PySem.W.mg_of X G a18, F_take := F19, b_take := b19, m_take := PySem.W.mg_of X G a19, F_made := F20, b_made := b20, m_made := PySem.W.mg_of X G a20, F_sorts := F21, b_sorts := b21, m_sorts := PySem.W.mg_of X G a21, F_above := F22, b_above := b22, m_above := PySem.W.mg_of X G a22, F_kept := F23, b_kept := b23, m_kept := PySem.W.mg_of X G a23, F_law := F24, b_law := b24, m_law := PySem.W.mg_of X G a24, nd_errs := ndE, mg_NoChain := PySem.W.mg_of X G gE_NoChain, te_NoChain := exm_self bE_NoChain iE_NoChain yE_NoChain uE_NoChain, cc_NoChain := wE_NoChain, ow_NoChain := ⟨ER.bV, ⟨nm_NoChain, qq_NoChain, NN_NoChain, bs_NoChain, sn_NoChain, sub_NoChain, ab_NoChain, col_NoChain, dd_NoChain, m0_NoChain, m1_NoChain, m2_NoChain, m3_NoChain, m5_NoChain, xE_NoChain⟩, sE_NoChain, rE_NoChain, tE_NoChain, bE_NoChain, yE_NoChain, kE_NoChain, dE_NoChain⟩, no_NoChain_room := nE_NoChain_room, mg_NoPairs := PySem.W.mg_of X G gE_NoPairs, te_NoPairs := exm_self bE_NoPairs iE_NoPairs yE_NoPairs uE_NoPairs, cc_NoPairs := wE_NoPairs, ow_NoPairs := ⟨ER.bV, ⟨nm_NoPairs, qq_NoPairs, NN_NoPairs, bs_NoPairs, sn_NoPairs, sub_NoPairs, ab_NoPairs, col_NoPairs, dd_NoPairs, m0_NoPairs, m1_NoPairs, m2_NoPairs, m3_NoPairs, m5_NoPairs, xE_NoPairs⟩, sE_NoPairs, rE_NoPairs, tE_NoPairs, bE_NoPairs, yE_NoPairs, kE_NoPairs, dE_NoPairs⟩, no_NoPairs_number := nE_NoPairs_number, mg_NoSize := PySem.W.mg_of X G gE_NoSize, te_NoSize := exm_self bE_NoSize iE_NoSize yE_NoSize uE_NoSize, cc_NoSize := wE_NoSize, ow_NoSize := ⟨ER.bV, ⟨nm_NoSize, qq_NoSize, NN_NoSize, bs_NoSize, sn_NoSize, sub_NoSize, ab_NoSize, col_NoSize, dd_NoSize, m0_NoSize, m1_NoSize, m2_NoSize, m3_NoSize, m5_NoSize, xE_NoSize⟩, sE_NoSize, rE_NoSize, tE_NoSize, bE_NoSize, yE_NoSize, kE_NoSize, dE_NoSize⟩, no_NoSize_word := nE_NoSize_word, mg_NoText := PySem.W.mg_of X G gE_NoText, te_NoText := exm_self bE_NoText iE_NoText yE_NoText uE_NoText, cc_NoText := wE_NoText, ow_NoText := ⟨ER.bV, ⟨nm_NoText, qq_NoText, NN_NoText, bs_NoText, sn_NoText, sub_NoText, ab_NoText, col_NoText, dd_NoText, m0_NoText, m1_NoText, m2_NoText, m3_NoText, m5_NoText, xE_NoText⟩, sE_NoText, rE_NoText, tE_NoText, bE_NoText, yE_NoText, kE_NoText, dE_NoText⟩, no_NoText_row := nE_NoText_row, mg_NoGoing := PySem.W.mg_of X G gE_NoGoing, te_NoGoing := exm_self bE_NoGoing iE_NoGoing yE_NoGoing uE_NoGoing, cc_NoGoing := wE_NoGoing, ow_NoGoing := ⟨ER.bV, ⟨nm_NoGoing, qq_NoGoing, NN_NoGoing, bs_NoGoing, sn_NoGoing, sub_NoGoing, ab_NoGoing, col_NoGoing, dd_NoGoing, m0_NoGoing, m1_NoGoing, m2_NoGoing, m3_NoGoing, m5_NoGoing, xE_NoGoing⟩, sE_NoGoing, rE_NoGoing, tE_NoGoing, bE_NoGoing, yE_NoGoing, kE_NoGoing, dE_NoGoing⟩, no_NoGoing_number := nE_NoGoing_number, mg_NoRoom := PySem.W.mg_of X G gE_NoRoom, te_NoRoom := exm_self bE_NoRoom iE_NoRoom yE_NoRoom uE_NoRoom, cc_NoRoom := wE_NoRoom, ow_NoRoom := ⟨ER.bI, ⟨nm_NoRoom, qq_NoRoom, NN_NoRoom, bs_NoRoom, sn_NoRoom, sub_NoRoom, ab_NoRoom, col_NoRoom, dd_NoRoom, m0_NoRoom, m1_NoRoom, m2_NoRoom, m3_NoRoom, m5_NoRoom, xE_NoRoom⟩, sE_NoRoom, rE_NoRoom, tE_NoRoom, bE_NoRoom, yE_NoRoom, kE_NoRoom, dE_NoRoom⟩, no_NoRoom_room := nE_NoRoom_room, mg_NoSlot := PySem.W.mg_of X G gE_NoSlot, te_NoSlot := exm_self bE_NoSlot iE_NoSlot yE_NoSlot uE_NoSlot, cc_NoSlot := wE_NoSlot, ow_NoSlot := ⟨ER.bI, ⟨nm_NoSlot, qq_NoSlot, NN_NoSlot, bs_NoSlot, sn_NoSlot, sub_NoSlot, ab_NoSlot, col_NoSlot, dd_NoSlot, m0_NoSlot, m1_NoSlot, m2_NoSlot, m3_NoSlot, m5_NoSlot, xE_NoSlot⟩, sE_NoSlot, rE_NoSlot, tE_NoSlot, bE_NoSlot, yE_NoSlot, kE_NoSlot, dE_NoSlot⟩, no_NoSlot_slot := nE_NoSlot_slot, mg_NoName := PySem.W.mg_of X G gE_NoName, te_NoName := exm_self bE_NoName iE_NoName yE_NoName uE_NoName, cc_NoName := wE_NoName, ow_NoName := ⟨ER.bK, ⟨nm_NoName, qq_NoName, NN_NoName, bs_NoName, sn_NoName, sub_NoName, ab_NoName, col_NoName, dd_NoName, m0_NoName, m1_NoName, m2_NoName, m3_NoName, m5_NoName, xE_NoName⟩, sE_NoName, rE_NoName, tE_NoName, bE_NoName, yE_NoName, kE_NoName, dE_NoName⟩, no_NoName_name := nE_NoName_name, mg_Twice := PySem.W.mg_of X G gE_Twice, te_Twice := exm_self bE_Twice iE_Twice yE_Twice uE_Twice, cc_Twice := wE_Twice, ow_Twice := ⟨ER.bK, ⟨nm_Twice, qq_Twice, NN_Twice, bs_Twice, sn_Twice, sub_Twice, ab_Twice, col_Twice, dd_Twice, m0_Twice, m1_Twice, m2_Twice, m3_Twice, m5_Twice, xE_Twice⟩, sE_Twice, rE_Twice, tE_Twice, bE_Twice, yE_Twice, kE_Twice, dE_Twice⟩, no_Twice_name := nE_Twice_name, mg_NotInside := PySem.W.mg_of X G gE_NotInside, te_NotInside := exm_self bE_NotInside iE_NotInside yE_NotInside uE_NotInside, cc_NotInside := wE_NotInside, ow_NotInside := ⟨ER.bK, ⟨nm_NotInside, qq_NotInside, NN_NotInside, bs_NotInside, sn_NotInside, sub_NotInside, ab_NotInside, col_NotInside, dd_NotInside, m0_NotInside, m1_NotInside, m2_NotInside, m3_NotInside, m5_NotInside, xE_NotInside⟩, sE_NotInside, rE_NotInside, tE_NotInside, bE_NotInside, yE_NotInside, kE_NotInside, dE_NotInside⟩, no_NotInside_name := nE_NotInside_name, mg_NoKey := PySem.W.mg_of X G gE_NoKey, te_NoKey := exm_self bE_NoKey iE_NoKey yE_NoKey uE_NoKey, cc_NoKey := wE_NoKey, ow_NoKey := ⟨ER.bK, ⟨nm_NoKey, qq_NoKey, NN_NoKey, bs_NoKey, sn_NoKey, sub_NoKey, ab_NoKey, col_NoKey, dd_NoKey, m0_NoKey, m1_NoKey, m2_NoKey, m3_NoKey, m5_NoKey, xE_NoKey⟩, sE_NoKey, rE_NoKey, tE_NoKey, bE_NoKey, yE_NoKey, kE_NoKey, dE_NoKey⟩, no_NoKey_key := nE_NoKey_key, mg_NoValue := PySem.W.mg_of X G gE_NoValue, te_NoValue := exm_self bE_NoValue iE_NoValue yE_NoValue uE_NoValue, cc_NoValue := wE_NoValue, ow_NoValue := ⟨ER.bK, ⟨nm_NoValue, qq_NoValue, NN_NoValue, bs_NoValue, sn_NoValue, sub_NoValue, ab_NoValue, col_NoValue, dd_NoValue, m0_NoValue, m1_NoValue, m2_NoValue, m3_NoValue, m5_NoValue, xE_NoValue⟩, sE_NoValue, rE_NoValue, tE_NoValue, bE_NoValue, yE_NoValue, kE_NoValue, dE_NoValue⟩, no_NoValue_value := nE_NoValue_value, mg_NoWay := PySem.W.mg_of X G gE_NoWay, te_NoWay := exm_self bE_NoWay iE_NoWay yE_NoWay uE_NoWay, cc_NoWay := wE_NoWay, ow_NoWay := ⟨ER.bL, ⟨nm_NoWay, qq_NoWay, NN_NoWay, bs_NoWay, sn_NoWay, sub_NoWay, ab_NoWay, col_NoWay, dd_NoWay, m0_NoWay, m1_NoWay, m2_NoWay, m3_NoWay, m5_NoWay, xE_NoWay⟩, sE_NoWay, rE_NoWay, tE_NoWay, bE_NoWay, yE_NoWay, kE_NoWay, dE_NoWay⟩, no_NoWay_slot := nE_NoWay_slot, no_NoWay_key := nE_NoWay_key, mg_Idle := PySem.W.mg_of X G gE_Idle, te_Idle := exm_self bE_Idle iE_Idle yE_Idle uE_Idle, cc_Idle := wE_Idle, ow_Idle := ⟨ER.bR, ⟨nm_Idle, qq_Idle, NN_Idle, bs_Idle, sn_Idle, sub_Idle, ab_Idle, col_Idle, dd_Idle, m0_Idle, m1_Idle, m2_Idle, m3_Idle, m5_Idle, xE_Idle⟩, sE_Idle, rE_Idle, tE_Idle, bE_Idle, yE_Idle, kE_Idle, dE_Idle⟩, no_Idle_name := nE_Idle_name, mg_Busy := PySem.W.mg_of X G gE_Busy, te_Busy := exm_self bE_Busy iE_Busy yE_Busy uE_Busy, cc_Busy := wE_Busy, ow_Busy := ⟨ER.bR, ⟨nm_Busy, qq_Busy, NN_Busy, bs_Busy, sn_Busy, sub_Busy, ab_Busy, col_Busy, dd_Busy, m0_Busy, m1_Busy, m2_Busy, m3_Busy, m5_Busy, xE_Busy⟩, sE_Busy, rE_Busy, tE_Busy, bE_Busy, yE_Busy, kE_Busy, dE_Busy⟩, no_Busy_name := nE_Busy_name, mg_NotOpen := PySem.W.mg_of X G gE_NotOpen, te_NotOpen := exm_self bE_NotOpen iE_NotOpen yE_NotOpen uE_NotOpen, cc_NotOpen := wE_NotOpen, ow_NotOpen := ⟨ER.bR, ⟨nm_NotOpen, qq_NotOpen, NN_NotOpen, bs_NotOpen, sn_NotOpen, sub_NotOpen, ab_NotOpen, col_NotOpen, dd_NotOpen, m0_NotOpen, m1_NotOpen, m2_NotOpen, m3_NotOpen, m5_NotOpen, xE_NotOpen⟩, sE_NotOpen, rE_NotOpen, tE_NotOpen, bE_NotOpen, yE_NotOpen, kE_NotOpen, dE_NotOpen⟩, no_NotOpen_state := nE_NotOpen_state, mg_Full := PySem.W.mg_of X G gE_Full, te_Full := exm_self bE_Full iE_Full yE_Full uE_Full, cc_Full := wE_Full, ow_Full := ⟨ER.bO, ⟨nm_Full, qq_Full, NN_Full, bs_Full, sn_Full, sub_Full, ab_Full, col_Full, dd_Full, m0_Full, m1_Full, m2_Full, m3_Full, m5_Full, xE_Full⟩, sE_Full, rE_Full, tE_Full, bE_Full, yE_Full, kE_Full, dE_Full⟩, no_Full_many := nE_Full_many, mg_TooMany := PySem.W.mg_of X G gE_TooMany, te_TooMany := exm_self bE_TooMany iE_TooMany yE_TooMany uE_TooMany, cc_TooMany := wE_TooMany, ow_TooMany := ⟨ER.bO, ⟨nm_TooMany, qq_TooMany, NN_TooMany, bs_TooMany, sn_TooMany, sub_TooMany, ab_TooMany, col_TooMany, dd_TooMany, m0_TooMany, m1_TooMany, m2_TooMany, m3_TooMany, m5_TooMany, xE_TooMany⟩, sE_TooMany, rE_TooMany, tE_TooMany, bE_TooMany, yE_TooMany, kE_TooMany, dE_TooMany⟩, no_TooMany_many := nE_TooMany_many, mg_NoRecord := PySem.W.mg_of X G gE_NoRecord, te_NoRecord := exm_self bE_NoRecord iE_NoRecord yE_NoRecord uE_NoRecord, cc_NoRecord := wE_NoRecord, ow_NoRecord := ⟨ER.bV, ⟨nm_NoRecord, qq_NoRecord, NN_NoRecord, bs_NoRecord, sn_NoRecord, sub_NoRecord, ab_NoRecord, col_NoRecord, dd_NoRecord, m0_NoRecord, m1_NoRecord, m2_NoRecord, m3_NoRecord, m5_NoRecord, xE_NoRecord⟩, sE_NoRecord, rE_NoRecord, tE_NoRecord, bE_NoRecord, yE_NoRecord, kE_NoRecord, dE_NoRecord⟩, ex_NoRecord := qE_NoRecord, kc_NoRecord := kE_NoRecord, sb_NoRecord := bE_NoRecord, ty_NoRecord := yE_NoRecord, mg_Unsound := PySem.W.mg_of X G gE_Unsound, te_Unsound := exm_self bE_Unsound iE_Unsound yE_Unsound uE_Unsound, cc_Unsound := wE_Unsound, ow_Unsound := ⟨ER.bV, ⟨nm_Unsound, qq_Unsound, NN_Unsound, bs_Unsound, sn_Unsound, sub_Unsound, ab_Unsound, col_Unsound, dd_Unsound, m0_Unsound, m1_Unsound, m2_Unsound, m3_Unsound, m5_Unsound, xE_Unsound⟩, sE_Unsound, rE_Unsound, tE_Unsound, bE_Unsound, yE_Unsound, kE_Unsound, dE_Unsound⟩, ex_Unsound := qE_Unsound, kc_Unsound := kE_Unsound, sb_Unsound := bE_Unsound, ty_Unsound := yE_Unsound, mg_NoRow := PySem.W.mg_of X G gE_NoRow, te_NoRow := exm_self bE_NoRow iE_NoRow yE_NoRow uE_NoRow, cc_NoRow := wE_NoRow, ow_NoRow := ⟨ER.bV, ⟨nm_NoRow, qq_NoRow, NN_NoRow, bs_NoRow, sn_NoRow, sub_NoRow, ab_NoRow, col_NoRow, dd_NoRow, m0_NoRow, m1_NoRow, m2_NoRow, m3_NoRow, m5_NoRow, xE_NoRow⟩, sE_NoRow, rE_NoRow, tE_NoRow, bE_NoRow, yE_NoRow, kE_NoRow, dE_NoRow⟩, ex_NoRow := qE_NoRow, kc_NoRow := kE_NoRow, sb_NoRow := bE_NoRow, ty_NoRow := yE_NoRow, n_ValueError := PySem.W.mg_none_of X G z_ValueError, n_IndexError := PySem.W.mg_none_of X G z_IndexError, n_KeyError := PySem.W.mg_none_of X G z_KeyError, n_LookupError := PySem.W.mg_none_of X G z_LookupError, n_RuntimeError := PySem.W.mg_none_of X G z_RuntimeError, n_OverflowError := PySem.W.mg_none_of X G z_OverflowError, n_isinstance := PySem.W.mg_none_of X G z_isinstance, n_range := PySem.W.mg_none_of X G z_range, n_int := PySem.W.mg_none_of X G z_int, n_bool := PySem.W.mg_none_of X G z_bool, n_len := PySem.W.mg_none_of X G z_len }
  exact ⟨A.d_law, fun s v => .of_eq rfl, fun base _ _ => ok_law T⟩
theorem walk {l : PySem.W.OpenLaw} {q : Program} {loose : List Str} {XP : (Str → Option Value) → Heap → Prop} {YP : World → Heap → Prop} {d : DefRec} {K : Params → PySem.W.Frag} (hn : l.most = some 63) (hdf : d.params.defaults = [])
    (hY : ∀ (w : World) (h : Heap), YP w h → (K w.params).In h)
    (F : ∀ (w : World) (mg : Str → Option Value) (fa : Addr) (h : Heap), (K w.params).In h → h.Ns mainGlobals mg → mg d.name = some (.ref fa) →
      ∃ fd : FuncData, (∀ (s : Shared) (u : Value), BindsTo s fd ⟨[u], []⟩ [("_law_script", u)]) ∧ ∀ base : Heap, (K w.params).In base → base.Ns mainGlobals mg → FnOk l.prog w (K w.params) mg base CX0 8 fa fd ["_law_script"] (spLaw (K w.params))) :
    PySem.W.WalkO q loose XP YP l.row.toRowW d [] (fun f vs => PySem.call f vs) :=
  L2.walk_of (n := 63) (k := 8) (x := "_law_script") (CX := fun _ => CX0) (sp := fun w => spLaw (K w.params)) hn (by decide) hdf ⟨rfl, by decide, by decide⟩ hY F (fun _ _ a ns hl _ hS => ⟨a, ns, rfl, hS, hl, fun _ => rfl⟩) fun _ _ _ _ _ z => z
end LawK02
open PySem PySem.W PyProof.Rows in
set_option maxRecDepth 100000 in
set_option maxHeartbeats 0 in
theorem PySem.Challenge.cw_deltaboughs_k02_refusals_made_holds : PySem.Challenge.rw_deltaboughs_k02_refusals_made.Holds := by
  w_on; o_law; k_head; (case hw => w_witness2)
  k_fill
  refine LawK02.walk (l := PySem.Challenge.rw_deltaboughs_k02_refusals_made) rfl rfl (fun w h Y => PySem.W.kIn_of Y) ?F
  case F =>
    intro w mg fa h KX G hmg
    refine' LawK02.all_mk KX G hmg ?gE_NoChain ?xE_NoChain ?sE_NoChain ?rE_NoChain ?tE_NoChain ?dE_NoChain ?nE_NoChain_room ?bE_NoChain ?yE_NoChain ?kE_NoChain ?wE_NoChain ?iE_NoChain ?uE_NoChain ?gE_NoPairs ?xE_NoPairs ?sE_NoPairs ?rE_NoPairs ?tE_NoPairs ?dE_NoPairs ?nE_NoPairs_number ?bE_NoPairs ?yE_NoPairs ?kE_NoPairs ?wE_NoPairs ?iE_NoPairs ?uE_NoPairs ?gE_NoSize ?xE_NoSize ?sE_NoSize ?rE_NoSize ?tE_NoSize ?dE_NoSize ?nE_NoSize_word ?bE_NoSize ?yE_NoSize ?kE_NoSize ?wE_NoSize ?iE_NoSize ?uE_NoSize ?gE_NoText ?xE_NoText ?sE_NoText ?rE_NoText ?tE_NoText ?dE_NoText ?nE_NoText_row ?bE_NoText ?yE_NoText ?kE_NoText ?wE_NoText ?iE_NoText ?uE_NoText ?gE_NoGoing ?xE_NoGoing ?sE_NoGoing ?rE_NoGoing ?tE_NoGoing ?dE_NoGoing ?nE_NoGoing_number ?bE_NoGoing ?yE_NoGoing ?kE_NoGoing ?wE_NoGoing ?iE_NoGoing ?uE_NoGoing ?gE_NoRoom ?xE_NoRoom ?sE_NoRoom ?rE_NoRoom ?tE_NoRoom ?dE_NoRoom ?nE_NoRoom_room ?bE_NoRoom ?yE_NoRoom ?kE_NoRoom ?wE_NoRoom ?iE_NoRoom ?uE_NoRoom ?gE_NoSlot ?xE_NoSlot ?sE_NoSlot ?rE_NoSlot ?tE_NoSlot ?dE_NoSlot ?nE_NoSlot_slot ?bE_NoSlot ?yE_NoSlot ?kE_NoSlot ?wE_NoSlot ?iE_NoSlot ?uE_NoSlot ?gE_NoName ?xE_NoName ?sE_NoName ?rE_NoName ?tE_NoName ?dE_NoName ?nE_NoName_name ?bE_NoName ?yE_NoName ?kE_NoName ?wE_NoName ?iE_NoName ?uE_NoName ?gE_Twice ?xE_Twice ?sE_Twice ?rE_Twice ?tE_Twice ?dE_Twice ?nE_Twice_name ?bE_Twice ?yE_Twice ?kE_Twice ?wE_Twice ?iE_Twice ?uE_Twice ?gE_NotInside ?xE_NotInside ?sE_NotInside ?rE_NotInside ?tE_NotInside ?dE_NotInside ?nE_NotInside_name ?bE_NotInside ?yE_NotInside ?kE_NotInside ?wE_NotInside ?iE_NotInside ?uE_NotInside ?gE_NoKey ?xE_NoKey ?sE_NoKey ?rE_NoKey ?tE_NoKey ?dE_NoKey ?nE_NoKey_key ?bE_NoKey ?yE_NoKey ?kE_NoKey ?wE_NoKey ?iE_NoKey ?uE_NoKey ?gE_NoValue ?xE_NoValue ?sE_NoValue ?rE_NoValue ?tE_NoValue ?dE_NoValue ?nE_NoValue_value ?bE_NoValue ?yE_NoValue ?kE_NoValue ?wE_NoValue ?iE_NoValue ?uE_NoValue ?gE_NoWay ?xE_NoWay ?sE_NoWay ?rE_NoWay ?tE_NoWay ?dE_NoWay ?nE_NoWay_slot ?nE_NoWay_key ?bE_NoWay ?yE_NoWay ?kE_NoWay ?wE_NoWay ?iE_NoWay ?uE_NoWay ?gE_Idle ?xE_Idle ?sE_Idle ?rE_Idle ?tE_Idle ?dE_Idle ?nE_Idle_name ?bE_Idle ?yE_Idle ?kE_Idle ?wE_Idle ?iE_Idle ?uE_Idle ?gE_Busy ?xE_Busy ?sE_Busy ?rE_Busy ?tE_Busy ?dE_Busy ?nE_Busy_name ?bE_Busy ?yE_Busy ?kE_Busy ?wE_Busy ?iE_Busy ?uE_Busy ?gE_NotOpen ?xE_NotOpen ?sE_NotOpen ?rE_NotOpen ?tE_NotOpen ?dE_NotOpen ?nE_NotOpen_state ?bE_NotOpen ?yE_NotOpen ?kE_NotOpen ?wE_NotOpen ?iE_NotOpen ?uE_NotOpen ?gE_Full ?xE_Full ?sE_Full ?rE_Full ?tE_Full ?dE_Full ?nE_Full_many ?bE_Full ?yE_Full ?kE_Full ?wE_Full ?iE_Full ?uE_Full ?gE_TooMany ?xE_TooMany ?sE_TooMany ?rE_TooMany ?tE_TooMany ?dE_TooMany ?nE_TooMany_many ?bE_TooMany ?yE_TooMany ?kE_TooMany ?wE_TooMany ?iE_TooMany ?uE_TooMany ?gE_NoRecord ?xE_NoRecord ?sE_NoRecord ?rE_NoRecord ?tE_NoRecord ?dE_NoRecord ?qE_NoRecord ?bE_NoRecord ?yE_NoRecord ?kE_NoRecord ?wE_NoRecord ?iE_NoRecord ?uE_NoRecord ?gE_Unsound ?xE_Unsound ?sE_Unsound ?rE_Unsound ?tE_Unsound ?dE_Unsound ?qE_Unsound ?bE_Unsound ?yE_Unsound ?kE_Unsound ?wE_Unsound ?iE_Unsound ?uE_Unsound ?gE_NoRow ?xE_NoRow ?sE_NoRow ?rE_NoRow ?tE_NoRow ?dE_NoRow ?qE_NoRow ?bE_NoRow ?yE_NoRow ?kE_NoRow ?wE_NoRow ?iE_NoRow ?uE_NoRow ?ndE ?a0 ?i0 ?l0 ?c0 ?k0 ?a1 ?i1 ?l1 ?c1 ?k1 ?a2 ?i2 ?l2 ?c2 ?k2 ?a3 ?i3 ?l3 ?c3 ?k3 ?a4 ?i4 ?l4 ?c4 ?k4 ?a5 ?i5 ?l5 ?c5 ?k5 ?a6 ?i6 ?l6 ?c6 ?k6 ?a7 ?i7 ?l7 ?c7 ?k7 ?a8 ?i8 ?l8 ?c8 ?k8 ?a9 ?i9 ?l9 ?c9 ?k9 ?a10 ?i10 ?l10 ?c10 ?k10 ?a11 ?i11 ?l11 ?c11 ?k11 ?a12 ?i12 ?l12 ?c12 ?k12 ?a13 ?i13 ?l13 ?c13 ?k13 ?a14 ?i14 ?l14 ?c14 ?k14 ?a15 ?i15 ?l15 ?c15 ?k15 ?a16 ?i16 ?l16 ?c16 ?k16 ?a17 ?i17 ?l17 ?c17 ?k17 ?a18 ?l18 ?c18 ?k18 ?a19 ?l19 ?c19 ?k19 ?a20 ?l20 ?c20 ?k20 ?a21 ?l21 ?c21 ?k21 ?a22 ?l22 ?c22 ?k22 ?a23 ?l23 ?c23 ?k23 ?a24 ?l24 ?c24 ?k24 ?z_ValueError ?z_IndexError ?z_KeyError ?z_LookupError ?z_RuntimeError ?z_OverflowError ?z_isinstance ?z_range ?z_int ?z_bool ?z_len
    (case gE_NoChain => k_is)
    (case xE_NoChain => k_is)
    (case sE_NoChain => k_is)
    (case rE_NoChain => k_is)
    (case tE_NoChain => k_is)
    (case dE_NoChain => k_is)
    (case nE_NoChain_room => k_is)
    (case bE_NoChain => k_is)
    (case yE_NoChain => k_is)
    (case kE_NoChain => k_is)
    (case wE_NoChain => k_is)
    (case iE_NoChain => k_is)
    (case uE_NoChain => first | rfl | k_is)
    (case gE_NoPairs => k_is)
    (case xE_NoPairs => k_is)
    (case sE_NoPairs => k_is)
    (case rE_NoPairs => k_is)
    (case tE_NoPairs => k_is)
    (case dE_NoPairs => k_is)
    (case nE_NoPairs_number => k_is)
    (case bE_NoPairs => k_is)
    (case yE_NoPairs => k_is)
    (case kE_NoPairs => k_is)
    (case wE_NoPairs => k_is)
    (case iE_NoPairs => k_is)
    (case uE_NoPairs => first | rfl | k_is)
    (case gE_NoSize => k_is)
    (case xE_NoSize => k_is)
    (case sE_NoSize => k_is)
    (case rE_NoSize => k_is)
    (case tE_NoSize => k_is)
    (case dE_NoSize => k_is)
    (case nE_NoSize_word => k_is)
    (case bE_NoSize => k_is)
    (case yE_NoSize => k_is)
    (case kE_NoSize => k_is)
    (case wE_NoSize => k_is)
    (case iE_NoSize => k_is)
    (case uE_NoSize => first | rfl | k_is)
    (case gE_NoText => k_is)
    (case xE_NoText => k_is)
    (case sE_NoText => k_is)
    (case rE_NoText => k_is)
    (case tE_NoText => k_is)
    (case dE_NoText => k_is)
    (case nE_NoText_row => k_is)
    (case bE_NoText => k_is)
    (case yE_NoText => k_is)
    (case kE_NoText => k_is)
    (case wE_NoText => k_is)
    (case iE_NoText => k_is)
    (case uE_NoText => first | rfl | k_is)
    (case gE_NoGoing => k_is)
    (case xE_NoGoing => k_is)
    (case sE_NoGoing => k_is)
    (case rE_NoGoing => k_is)
    (case tE_NoGoing => k_is)
    (case dE_NoGoing => k_is)
    (case nE_NoGoing_number => k_is)
    (case bE_NoGoing => k_is)
    (case yE_NoGoing => k_is)
    (case kE_NoGoing => k_is)
    (case wE_NoGoing => k_is)
    (case iE_NoGoing => k_is)
    (case uE_NoGoing => first | rfl | k_is)
    (case gE_NoRoom => k_is)
    (case xE_NoRoom => k_is)
    (case sE_NoRoom => k_is)
    (case rE_NoRoom => k_is)
    (case tE_NoRoom => k_is)
    (case dE_NoRoom => k_is)
    (case nE_NoRoom_room => k_is)
    (case bE_NoRoom => k_is)
    (case yE_NoRoom => k_is)
    (case kE_NoRoom => k_is)
    (case wE_NoRoom => k_is)
    (case iE_NoRoom => k_is)
    (case uE_NoRoom => first | rfl | k_is)
    (case gE_NoSlot => k_is)
    (case xE_NoSlot => k_is)
    (case sE_NoSlot => k_is)
    (case rE_NoSlot => k_is)
    (case tE_NoSlot => k_is)
    (case dE_NoSlot => k_is)
    (case nE_NoSlot_slot => k_is)
    (case bE_NoSlot => k_is)
    (case yE_NoSlot => k_is)
    (case kE_NoSlot => k_is)
    (case wE_NoSlot => k_is)
    (case iE_NoSlot => k_is)
    (case uE_NoSlot => first | rfl | k_is)
    (case gE_NoName => k_is)
    (case xE_NoName => k_is)
    (case sE_NoName => k_is)
    (case rE_NoName => k_is)
    (case tE_NoName => k_is)
    (case dE_NoName => k_is)
    (case nE_NoName_name => k_is)
    (case bE_NoName => k_is)
    (case yE_NoName => k_is)
    (case kE_NoName => k_is)
    (case wE_NoName => k_is)
    (case iE_NoName => k_is)
    (case uE_NoName => first | rfl | k_is)
    (case gE_Twice => k_is)
    (case xE_Twice => k_is)
    (case sE_Twice => k_is)
    (case rE_Twice => k_is)
    (case tE_Twice => k_is)
    (case dE_Twice => k_is)
    (case nE_Twice_name => k_is)
    (case bE_Twice => k_is)
    (case yE_Twice => k_is)
    (case kE_Twice => k_is)
    (case wE_Twice => k_is)
    (case iE_Twice => k_is)
    (case uE_Twice => first | rfl | k_is)
    (case gE_NotInside => k_is)
    (case xE_NotInside => k_is)
    (case sE_NotInside => k_is)
    (case rE_NotInside => k_is)
    (case tE_NotInside => k_is)
    (case dE_NotInside => k_is)
    (case nE_NotInside_name => k_is)
    (case bE_NotInside => k_is)
    (case yE_NotInside => k_is)
    (case kE_NotInside => k_is)
    (case wE_NotInside => k_is)
    (case iE_NotInside => k_is)
    (case uE_NotInside => first | rfl | k_is)
    (case gE_NoKey => k_is)
    (case xE_NoKey => k_is)
    (case sE_NoKey => k_is)
    (case rE_NoKey => k_is)
    (case tE_NoKey => k_is)
    (case dE_NoKey => k_is)
    (case nE_NoKey_key => k_is)
    (case bE_NoKey => k_is)
    (case yE_NoKey => k_is)
    (case kE_NoKey => k_is)
    (case wE_NoKey => k_is)
    (case iE_NoKey => k_is)
    (case uE_NoKey => first | rfl | k_is)
    (case gE_NoValue => k_is)
    (case xE_NoValue => k_is)
    (case sE_NoValue => k_is)
    (case rE_NoValue => k_is)
    (case tE_NoValue => k_is)
    (case dE_NoValue => k_is)
    (case nE_NoValue_value => k_is)
    (case bE_NoValue => k_is)
    (case yE_NoValue => k_is)
    (case kE_NoValue => k_is)
    (case wE_NoValue => k_is)
    (case iE_NoValue => k_is)
    (case uE_NoValue => first | rfl | k_is)
    (case gE_NoWay => k_is)
    (case xE_NoWay => k_is)
    (case sE_NoWay => k_is)
    (case rE_NoWay => k_is)
    (case tE_NoWay => k_is)
    (case dE_NoWay => k_is)
    (case nE_NoWay_slot => k_is)
    (case nE_NoWay_key => k_is)
    (case bE_NoWay => k_is)
    (case yE_NoWay => k_is)
    (case kE_NoWay => k_is)
    (case wE_NoWay => k_is)
    (case iE_NoWay => k_is)
    (case uE_NoWay => first | rfl | k_is)
    (case gE_Idle => k_is)
    (case xE_Idle => k_is)
    (case sE_Idle => k_is)
    (case rE_Idle => k_is)
    (case tE_Idle => k_is)
    (case dE_Idle => k_is)
    (case nE_Idle_name => k_is)
    (case bE_Idle => k_is)
    (case yE_Idle => k_is)
    (case kE_Idle => k_is)
    (case wE_Idle => k_is)
    (case iE_Idle => k_is)
    (case uE_Idle => first | rfl | k_is)
    (case gE_Busy => k_is)
    (case xE_Busy => k_is)
    (case sE_Busy => k_is)
    (case rE_Busy => k_is)
    (case tE_Busy => k_is)
    (case dE_Busy => k_is)
    (case nE_Busy_name => k_is)
    (case bE_Busy => k_is)
    (case yE_Busy => k_is)
    (case kE_Busy => k_is)
    (case wE_Busy => k_is)
    (case iE_Busy => k_is)
    (case uE_Busy => first | rfl | k_is)
    (case gE_NotOpen => k_is)
    (case xE_NotOpen => k_is)
    (case sE_NotOpen => k_is)
    (case rE_NotOpen => k_is)
    (case tE_NotOpen => k_is)
    (case dE_NotOpen => k_is)
    (case nE_NotOpen_state => k_is)
    (case bE_NotOpen => k_is)
    (case yE_NotOpen => k_is)
    (case kE_NotOpen => k_is)
    (case wE_NotOpen => k_is)
    (case iE_NotOpen => k_is)
    (case uE_NotOpen => first | rfl | k_is)
    (case gE_Full => k_is)
    (case xE_Full => k_is)
    (case sE_Full => k_is)
    (case rE_Full => k_is)
    (case tE_Full => k_is)
    (case dE_Full => k_is)
    (case nE_Full_many => k_is)
    (case bE_Full => k_is)
    (case yE_Full => k_is)
    (case kE_Full => k_is)
    (case wE_Full => k_is)
    (case iE_Full => k_is)
    (case uE_Full => first | rfl | k_is)
    (case gE_TooMany => k_is)
    (case xE_TooMany => k_is)
    (case sE_TooMany => k_is)
    (case rE_TooMany => k_is)
    (case tE_TooMany => k_is)
    (case dE_TooMany => k_is)
    (case nE_TooMany_many => k_is)
    (case bE_TooMany => k_is)
    (case yE_TooMany => k_is)
    (case kE_TooMany => k_is)
    (case wE_TooMany => k_is)
    (case iE_TooMany => k_is)
    (case uE_TooMany => first | rfl | k_is)
    (case gE_NoRecord => k_is)
    (case xE_NoRecord => k_is)
    (case sE_NoRecord => k_is)
    (case rE_NoRecord => k_is)
    (case tE_NoRecord => k_is)
    (case dE_NoRecord => k_is)
    (case qE_NoRecord => k_exc)
    (case bE_NoRecord => k_is)
    (case yE_NoRecord => k_is)
    (case kE_NoRecord => k_is)
    (case wE_NoRecord => k_is)
    (case iE_NoRecord => k_is)
    (case uE_NoRecord => first | rfl | k_is)
    (case gE_Unsound => k_is)
    (case xE_Unsound => k_is)
    (case sE_Unsound => k_is)
    (case rE_Unsound => k_is)
    (case tE_Unsound => k_is)
    (case dE_Unsound => k_is)
    (case qE_Unsound => k_exc)
    (case bE_Unsound => k_is)
    (case yE_Unsound => k_is)
    (case kE_Unsound => k_is)
    (case wE_Unsound => k_is)
    (case iE_Unsound => k_is)
    (case uE_Unsound => first | rfl | k_is)
    (case gE_NoRow => k_is)
    (case xE_NoRow => k_is)
    (case sE_NoRow => k_is)
    (case rE_NoRow => k_is)
    (case tE_NoRow => k_is)
    (case dE_NoRow => k_is)
    (case qE_NoRow => k_exc)
    (case bE_NoRow => k_is)
    (case yE_NoRow => k_is)
    (case kE_NoRow => k_is)
    (case wE_NoRow => k_is)
    (case iE_NoRow => k_is)
    (case uE_NoRow => first | rfl | k_is)
    (case ndE => decide +kernel)
    (case a0 => k_is)
    (case i0 => k_is)
    (case l0 => k_is)
    (case c0 => k_is)
    (case k0 => k_is)
    (case a1 => k_is)
    (case i1 => k_is)
    (case l1 => k_is)
    (case c1 => k_is)
    (case k1 => k_is)
    (case a2 => k_is)
    (case i2 => k_is)
    (case l2 => k_is)
    (case c2 => k_is)
    (case k2 => k_is)
    (case a3 => k_is)
    (case i3 => k_is)
    (case l3 => k_is)
    (case c3 => k_is)
    (case k3 => k_is)
    (case a4 => k_is)
    (case i4 => k_is)
    (case l4 => k_is)
    (case c4 => k_is)
    (case k4 => k_is)
    (case a5 => k_is)
    (case i5 => k_is)
    (case l5 => k_is)
    (case c5 => k_is)
    (case k5 => k_is)
    (case a6 => k_is)
    (case i6 => k_is)
    (case l6 => k_is)
    (case c6 => k_is)
    (case k6 => k_is)
    (case a7 => k_is)
    (case i7 => k_is)
    (case l7 => k_is)
    (case c7 => k_is)
    (case k7 => k_is)
    (case a8 => k_is)
    (case i8 => k_is)
    (case l8 => k_is)
    (case c8 => k_is)
    (case k8 => k_is)
    (case a9 => k_is)
    (case i9 => k_is)
    (case l9 => k_is)
    (case c9 => k_is)
    (case k9 => k_is)
    (case a10 => k_is)
    (case i10 => k_is)
    (case l10 => k_is)
    (case c10 => k_is)
    (case k10 => k_is)
    (case a11 => k_is)
    (case i11 => k_is)
    (case l11 => k_is)
    (case c11 => k_is)
    (case k11 => k_is)
    (case a12 => k_is)
    (case i12 => k_is)
    (case l12 => k_is)
    (case c12 => k_is)
    (case k12 => k_is)
    (case a13 => k_is)
    (case i13 => k_is)
    (case l13 => k_is)
    (case c13 => k_is)
    (case k13 => k_is)
    (case a14 => k_is)
    (case i14 => k_is)
    (case l14 => k_is)
    (case c14 => k_is)
    (case k14 => k_is)
    (case a15 => k_is)
    (case i15 => k_is)
    (case l15 => k_is)
    (case c15 => k_is)
    (case k15 => k_is)
    (case a16 => k_is)
    (case i16 => k_is)
    (case l16 => k_is)
    (case c16 => k_is)
    (case k16 => k_is)
    (case a17 => k_is)
    (case i17 => k_is)
    (case l17 => k_is)
    (case c17 => k_is)
    (case k17 => k_is)
    (case a18 => k_is)
    (case l18 => k_is)
    (case c18 => k_is)
    (case k18 => k_is)
    (case a19 => k_is)
    (case l19 => k_is)
    (case c19 => k_is)
    (case k19 => k_is)
    (case a20 => k_is)
    (case l20 => k_is)
    (case c20 => k_is)
    (case k20 => k_is)
    (case a21 => k_is)
    (case l21 => k_is)
    (case c21 => k_is)
    (case k21 => k_is)
    (case a22 => k_is)
    (case l22 => k_is)
    (case c22 => k_is)
    (case k22 => k_is)
    (case a23 => k_is)
    (case l23 => k_is)
    (case c23 => k_is)
    (case k23 => k_is)
    (case a24 => k_is)
    (case l24 => k_is)
    (case c24 => k_is)
    (case k24 => k_is)
    (case z_ValueError => k_is)
    (case z_IndexError => k_is)
    (case z_KeyError => k_is)
    (case z_LookupError => k_is)
    (case z_RuntimeError => k_is)
    (case z_OverflowError => k_is)
    (case z_isinstance => k_is)
    (case z_range => k_is)
    (case z_int => k_is)
    (case z_bool => k_is)
    (case z_len => k_is)
