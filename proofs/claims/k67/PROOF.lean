import PyProof.Rows.All
import Wide.All
import OpenK.AllK
import Wide.FinOn
import HandS.ForMost
import HandS.More
import HandS.Conv
import HandS.Codes
import HandS.Flow
import HandS.Finally
import HandS.Walk
import HandS.IsInst
import HandS.Defaults
import HandS.MakeKwOnly
import HandS.DeepEq
import HandS.CallLocal
import HandS.Zip
import HandS.Deep
import KE.KEqNest
import KE.GoesZip
import KE.GoesMore
import PyProof.ReprRoads
import HandS.DictComp
import HandS.TupAny
import HandS.CallSlots
import HandS.ExcInit
import HandS.RaiseFrom
import HandS.ExcIs
import HandS.ExcField
import HandS.WordsExc
import HandS.TryMany
import HandS.SortInts
import HandS.SortRule
import KE.DataEq
import HandS.ListItems
import KE.KDictZip
import KE.KDictPairs
import PyProof.EnumMake
import HandS.SuiteRaise
import HandS.ExcInitHot
import HandS.TupSets
import HandS.TryOnly
import HandS.SortKw
import PySem.Challenge.RW_deltaboughs_k67_asks_that_stand_alike
set_option Elab.async false
set_option maxRecDepth 100000
set_option maxHeartbeats 4000000
set_option synthInstance.maxHeartbeats 0
set_option synthInstance.maxSize 100000
set_option linter.all false
/-! ### own classes of errors, each right under a built-in one -/
namespace ER
open PySem PySem.W PySem.Calls PySem.HandSPX Builtin Builtin.ObjectAttr
/-- B: the built-in class above; nw: what makes its instances, the one of nB; ini: what starts them; tl: B's line -/
structure Base (B nB nw nI ini : String) (tB tl : List Value) : Prop where
  N : ExcBaseFacts nB nw nI tB
  hasN : tl.contains (.type nB) = true
  noA : tl.contains (.type "AttributeError") = false
  noE : tl.contains (.type "NameError") = false
  hasB : tl.contains (.type B) = true
  slot : Slot B "__init__" ini
  entry : entryFor table ini = some Builtin.«BaseException.__init__»
  kind : builtinKind ini = some .slot
  split : splitId ini = some (B, "__init__")
  row : Manifest.signature? ini = some ⟨.positional, "*", B, .self, [⟨"args", .varPos, false⟩]⟩
  star : (B != "*") = true
  obj : tl.contains (.type "object") = true
  pass : ∀ v, refuseLoop v "__setattr__" tl = pure ()
  ty : typeOf (.type B) = pure (.type "type")
abbrev tlV : List Value := [.type "ValueError", .type "Exception", .type "BaseException", .type "object"]
abbrev tlI : List Value := [.type "IndexError", .type "LookupError", .type "Exception", .type "BaseException", .type "object"]
abbrev tlK : List Value := [.type "KeyError", .type "LookupError", .type "Exception", .type "BaseException", .type "object"]
abbrev tlL : List Value := [.type "LookupError", .type "Exception", .type "BaseException", .type "object"]
abbrev tlR : List Value := [.type "RuntimeError", .type "Exception", .type "BaseException", .type "object"]
abbrev tlO : List Value := [.type "OverflowError", .type "ArithmeticError", .type "Exception", .type "BaseException", .type "object"]
theorem Base.of {B nw ini : String} {tl : List Value} (F : ExcBaseFacts B nw ini tl) (o : tl.contains (.type "object") = true) (p : ∀ v, refuseLoop v "__setattr__" tl = pure ()) (y : typeOf (.type B) = pure (.type "type")) : Base B B nw ini ini tl tl :=
  ⟨F, F.hasB, F.noAttr, F.noName, F.hasB, F.init, F.initEntry, F.initKind, F.initSplit, F.initRow, F.noStar, o, p, y⟩
theorem bV : Base "ValueError" "ValueError" "ValueError.__new__" "ValueError.__init__" "ValueError.__init__" tlV tlV := .of F.excBase_ValueError (by decide +kernel) (fun _ => by kernel_rfl) (by kernel_rfl)
theorem bI : Base "IndexError" "IndexError" "IndexError.__new__" "IndexError.__init__" "IndexError.__init__" tlI tlI := .of F.excBase_IndexError (by decide +kernel) (fun _ => by kernel_rfl) (by kernel_rfl)
theorem bL : Base "LookupError" "LookupError" "LookupError.__new__" "LookupError.__init__" "LookupError.__init__" tlL tlL := .of F.excBase_LookupError (by decide +kernel) (fun _ => by kernel_rfl) (by kernel_rfl)
theorem bR : Base "RuntimeError" "RuntimeError" "RuntimeError.__new__" "RuntimeError.__init__" "RuntimeError.__init__" tlR tlR := .of F.excBase_RuntimeError (by decide +kernel) (fun _ => by kernel_rfl) (by kernel_rfl)
theorem bO : Base "OverflowError" "OverflowError" "OverflowError.__new__" "OverflowError.__init__" "OverflowError.__init__" tlO tlO := .of F.excBase_OverflowError (by decide +kernel) (fun _ => by kernel_rfl) (by kernel_rfl)
theorem bK : Base "KeyError" "LookupError" "LookupError.__new__" "LookupError.__init__" "KeyError.__init__" tlL tlK :=
  ⟨F.excBase_LookupError, by decide +kernel, by decide +kernel, by decide +kernel, by decide +kernel, PyProof.Rows.excClass_KeyError.init, PyProof.Rows.excClass_KeyError.initEntry, PyProof.Rows.excClass_KeyError.initKind, PyProof.Rows.excClass_KeyError.initSplit, PyProof.Rows.excClass_KeyError.initSig, PyProof.Rows.excClass_KeyError.notStar,
    by decide +kernel, fun _ => by kernel_rfl, by kernel_rfl⟩
theorem ahead {C : Addr} {tl : List Value} {X : String} {b : Bool} (h : tl.contains (.type X) = b) : (Value.ref C :: tl).contains (.type X) = b := by
  rw [List.contains_cons, h]
  cases b <;> rfl
section
variable {prog : Program} {w : World} {M : Model} {A : Around} {E : Value → Shared → Prop} {R : Result → Shared → Prop}
variable {h : Heap} {g : Array GenState} {d : Drawn} {t : Nat} {os : OsState}
variable {nm q : Str} {C N : Addr} {bs tB tl : List Value} {hd : Bool} {sn : List Str} {sub : List Value} {ab : Bool} {col : Option Bool}
variable {dd : Option Addr} {k0 k1 k2 k3 k5 : Option Value} {B nB nw nI ini : String}
/-- the maker takes the class -/
theorem maker_takes (Z : Base B nB nw nI ini tB tl) {rest : List Value} {Q : Unit → Shared → Prop}
    (hC : h.get? C = some (excClassObj nm q C N bs tl hd sn sub ab col dd k0 k1 k2 k3 k5 nw)) (fin : Q () ⟨h, g, d, t, os⟩) :
    wpAny M A (checkBuiltinCall nw ⟨.ref C :: rest, []⟩) Q E ⟨h, g, d, t, os⟩ := by
  have c1 := ahead (C := C) Z.hasN
  have c2 := Z.N.noStar
  simp only [checkBuiltinCall, Z.N.newKind, Z.N.newSplit, Z.N.newRow]
  repeat (first
    | refine wpAny_loadPart_at hC ?_
    | (refine wpAny_isSubtype_exc hC ?_; rw [c1])
    | refine wpAny_staticBase_exc hC ?_
    | refine wpAny_madeBy_exc hC ?_
    | simp only [bne_self_eq_false, Bool.false_eq_true, if_false]
    | wp_step)
  exact fin
/-- the starter takes an instance -/
theorem starter_takes (Z : Base B nB nw nI ini tB tl) {e : Addr} {oe : Obj} {rest : List Value} {Q : Unit → Shared → Prop}
    (hC : h.get? C = some (excClassObj nm q C N bs tl hd sn sub ab col dd k0 k1 k2 k3 k5 nw)) (he : h.get? e = some oe) (hc : oe.cls = .ref C)
    (fin : Q () ⟨h, g, d, t, os⟩) : wpAny M A (checkBuiltinCall ini ⟨.ref e :: rest, []⟩) Q E ⟨h, g, d, t, os⟩ := by
  have c1 := ahead (C := C) Z.hasB
  have c2 := Z.star
  simp only [checkBuiltinCall, Z.kind, Z.split, Z.row]
  repeat (first
    | (with_reducible refine wpAny_loadPart_at he ?_; rw [hc])
    | with_reducible refine wpAny_loadPart_at hC ?_
    | (with_reducible refine wpAny_isSubtype_exc hC ?_; rw [c1])
    | wp_step)
  refine wpAny_onRaise ?_
  have ck : ∀ (x y : String) (n : Nat), Bind.check ⟨.positional, "*", B, .self, [⟨"args", .varPos, false⟩]⟩ x y n (({ pos := Value.ref e :: rest } : Args).kw.map fun z => z.1) = pure () := fun x y n => check_star_args ..
  rw [ck]
  exact wpAny_pure fin
/-- a bare instance -/
theorem makes (Z : Base B nB nw nI ini tB tl) {rest : List Value} (hC : h.get? C = some (excClassObj nm q C N bs tl hd sn sub ab col dd k0 k1 k2 k3 k5 nw)) (sz : rest.length ≤ sizeLine)
    (fin : R (.ok (.ret (.ref (h.objs.size + 1)))) ⟨(h.push (W.kdv_tup rest)).push (excO C h.objs.size), g, d, t, os⟩) : codeAny (model prog w) A (.builtin nw ⟨.ref C :: rest, []⟩) R ⟨h, g, d, t, os⟩ := by
  have c0 := Z.N.ends
  have c1 := ahead (C := C) Z.hasN
  have c2 := ahead (C := C) Z.noA
  have c3 := ahead (C := C) Z.noE
  refine codeAny_builtinAt Z.N.entry ?_
  unfold Builtin.«BaseException.__new__»
  refine wpAt_bind ?_
  show wpAt _ _ _ (stack >>= _) _ _ _
  refine wpAt_bind (wpAt_stack fun _ _ => wpAt_of_wpAny ?_)
  wp_walk
  refine wpAt_of_wpAny ?_
  rw [Z.N.owner]
  repeat (first
    | with_reducible refine wpAny_madeHere_exc Z.N.canon hC ?_
    | with_reducible refine wpAny_loadPart_at hC ?_
    | (with_reducible refine wpAny_isSubtype_exc hC ?_; first | rw [c1] | rw [c2] | rw [c3])
    | wp_step)
  show R _ _
  rw [Heap.size_push]
  exact fin
/-- the class is called: an instance is made, then its own starter is called -/
theorem meta_call (Z : Base B nB nw nI ini tB tl) {rest : List Value} {fI : Addr} {Q : Fin → Shared → Prop} (hC : h.get? C = some (excClassObj nm q C N bs tl hd sn sub ab col dd k0 k1 k2 k3 k5 nw)) (sz : rest.length ≤ sizeLine)
    (hi : W.Looks (model prog w) h (typeLookup (.ref C) "__init__") (some (.ref fI))) (hb : ∀ v, W.Looks (model prog w) h (bindSpecial (.ref fI) v) (.ref fI, [v]))
    (run : codeAny (model prog w) A (.call (.ref fI) ⟨.ref (h.objs.size + 1) :: rest, []⟩) (fun r s' => match r with
      | .ok (.ret v) => v = .none ∧ Q (.done (.ret (.ref (h.objs.size + 1)))) s'
      | .ok _ => False
      | .error e => E e s') ⟨(h.push (W.kdv_tup rest)).push (excO C h.objs.size), g, d, t, os⟩) :
    wpAny (model prog w) A (Builtin.«type.__call__» ⟨.ref C :: rest, []⟩) Q E ⟨h, g, d, t, os⟩ := by
  repeat (first
    | with_reducible refine wpAny_loadPart_at hC ?_
    | with_reducible refine wpAny_madeBy_exc hC ?_
    | wp_step)
  refine codeAny_call_builtin_code (Code.quiet_builtin _ Z.N.quiet) (maker_takes Z hC (makes Z hC sz ?_))
  show wpAny _ _ _ _ _ _
  have kp : ∀ b o, h.get? b = some o → ((h.push (W.kdv_tup rest)).push (excO C h.objs.size)).get? b = some o := fun _ _ e => Heap.get?_push_of_some _ (Heap.get?_push_of_some _ e)
  have hC2 := kp _ _ hC
  have he : ((h.push (W.kdv_tup rest)).push (excO C h.objs.size)).get? (h.objs.size + 1) = some (excO C h.objs.size) := by heap_get
  have cC : (Value.ref C :: tl).contains (.ref C) = true := by simp
  have i2 := hi.keeps kp
  have b2 := (hb (.ref (h.objs.size + 1))).keeps kp
  unfold isInstance
  repeat (first
    | with_reducible refine wpAny_loadPart_at he ?_
    | (with_reducible refine wpAny_isSubtype_exc hC2 ?_; rw [cC])
    | wp_step)
  show wpAny _ _ (typeLookup (.ref C) _) _ _ _
  refine i2.at ?_
  refine wpAny_holding (wpAny_bind (b2.at ?_))
  refine wpAny_bind (wpAny_call (codeAny_mono run fun r s' z => ?_))
  rcases r with e | (v | _ | _ | _)
  · exact z
  · first
      | exact z.elim
      | (obtain ⟨rfl, z⟩ := z; first | exact wpAny_pure (wpAny_pure z) | (wp_walk; exact z))
  all_goals first
    | exact z.elim
    | (obtain ⟨rfl, z⟩ := z; first | exact wpAny_pure (wpAny_pure z) | (wp_walk; exact z))
theorem class_call (Z : Base B nB nw nI ini tB tl) {rest : List Value} {fI : Addr} (hC : h.get? C = some (excClassObj nm q C N bs tl hd sn sub ab col dd k0 k1 k2 k3 k5 nw)) (sz : rest.length ≤ sizeLine)
    (hi : W.Looks (model prog w) h (typeLookup (.ref C) "__init__") (some (.ref fI))) (hb : ∀ v, W.Looks (model prog w) h (bindSpecial (.ref fI) v) (.ref fI, [v]))
    (run : codeAny (model prog w) (A.under (.builtin "type.__call__" ⟨.ref C :: rest, []⟩)) (.call (.ref fI) ⟨.ref (h.objs.size + 1) :: rest, []⟩) (W.InitBack (h.objs.size + 1) R) ⟨(h.push (W.kdv_tup rest)).push (excO C h.objs.size), g, d, t, os⟩) :
    codeAny (model prog w) A (.call (.ref C) ⟨rest, []⟩) R ⟨h, g, d, t, os⟩ := by
  have t1 := tc_lookup
  have t2 := tc_bind (.ref C)
  have tC : (⟨h, g, d, t, os⟩ : Shared).TypeIs (.ref C) "type" := ⟨_, hC, rfl⟩
  refine codeAny_of_tree ?_
  show wpAny _ _ (callAny (.ref C) _) _ _ _
  repeat (any_goals (first
    | assumption
    | with_reducible refine wpAny_loadPart_at hC ?_
    | wp_step))
  refine ⟨rfl, codeAny_call_builtin_at (Code.quiet_builtin _ (by decide +kernel)) entry_typeCall (wpAny_check_type_call_sub hC (meta_call Z hC sz hi hb ?_))⟩
  refine codeAny_mono run fun r s' z => ?_
  rcases r with e | (v | _ | _ | _) <;> exact z
/-- B.__init__(e, ..): the args are laid anew -/
theorem starts (Z : Base B nB nw nI ini tB tl) {e t0 : Addr} {rest : List Value} (hC : h.get? C = some (excClassObj nm q C N bs tl hd sn sub ab col dd k0 k1 k2 k3 k5 nw)) (he : h.get? e = some (excO C t0)) (sz : rest.length ≤ sizeLine)
    (fin : ∀ h' t1, (∀ b o, b ≠ e → h.get? b = some o → h'.get? b = some o) → h'.get? e = some (excO C t1) → R (.ok (.ret .none)) ⟨h', g, d, t, os⟩) : codeAny (model prog w) A (.call (.builtin ini) ⟨.ref e :: rest, []⟩) R ⟨h, g, d, t, os⟩ := by
  refine codeAny_call_builtin Z.slot.plain Z.entry (starter_takes Z hC he rfl ?_)
  wp_walk
  have kp : ∀ b o, h.get? b = some o → (h.push (W.kdv_tup rest)).get? b = some o := fun _ _ e => Heap.get?_push_of_some _ e
  refine fin _ h.objs.size (fun b o n ho => (Heap.get?_update_other _ _ (Ne.symm n)).trans (kp b o ho)) ?_
  rw [Heap.get?_update_self _ (kp e _ he) rfl]
  rfl
end
/-! ### a class of ours -/
structure BI where
  B : String
  nB : String
  nw : String
  nI : String
  ini : String
  tB : List Value
  tl : List Value
def BI.ok (b : BI) : Prop := Base b.B b.nB b.nw b.nI b.ini b.tB b.tl
def iV : BI := ⟨"ValueError", "ValueError", "ValueError.__new__", "ValueError.__init__", "ValueError.__init__", tlV, tlV⟩
def iI : BI := ⟨"IndexError", "IndexError", "IndexError.__new__", "IndexError.__init__", "IndexError.__init__", tlI, tlI⟩
def iL : BI := ⟨"LookupError", "LookupError", "LookupError.__new__", "LookupError.__init__", "LookupError.__init__", tlL, tlL⟩
def iR : BI := ⟨"RuntimeError", "RuntimeError", "RuntimeError.__new__", "RuntimeError.__init__", "RuntimeError.__init__", tlR, tlR⟩
def iO : BI := ⟨"OverflowError", "OverflowError", "OverflowError.__new__", "OverflowError.__init__", "OverflowError.__init__", tlO, tlO⟩
def iK : BI := ⟨"KeyError", "LookupError", "LookupError.__new__", "LookupError.__init__", "KeyError.__init__", tlL, tlK⟩
/-- what the written part says of the class at C, right under b's -/
structure Own (K : Frag) (C : Addr) (b : BI) : Prop where
  Z : b.ok
  cls : ∃ nm q N bs sn sub ab col dd k0 k1 k2 k3 k5, K.lookup C = some (excClassObj nm q C N bs b.tl true sn sub ab col dd k0 k1 k2 k3 k5 b.nw)
  sa : findIn K (.ref C) "__setattr__" = some (some (.builtin "object.__setattr__"))
  ga : findIn K (.ref C) "__getattribute__" = some (some (.builtin "BaseException.__getattribute__"))
  gg : findIn K (.ref C) "__getattr__" = some none
  exC : subIn K (.ref C) (.type "BaseException") = some true
  tyC : typeIn K (.ref C) = some (.type "type")
  kC : keepIn K (.ref C) = true
  hdC : hasDictIn K C = true
theorem Own.cd {K : Frag} {C : Addr} {b : BI} (T : Own K C b) : ∃ cd, clsIn K C = some cd ∧ cd.mro = .ref C :: b.tl ∧ cd.hasDict = true := by
  obtain ⟨nm, q, N, bs, sn, sub, ab, col, dd, k0, k1, k2, k3, k5, e⟩ := T.cls
  unfold clsIn
  rw [e]
  exact ⟨_, rfl, rfl, rfl⟩
theorem Own.xf {K : Frag} {C : Addr} {b : BI} (T : Own K C b) : L2.XfC K C := ⟨T.ga, T.gg, T.exC, T.hdC⟩
section
variable {prog : Program} {w : World} {A : Around} {E : Value → Shared → Prop} {R : Result → Shared → Prop} {K : Frag} {C x : Addr} {b : BI} {name : Str} {v : Value}
variable {hp : Heap} {g : Array GenState} {d : Drawn} {t : Nat} {os : OsState} {tk : Tok}
/-- x.name = v comes down to the own dict -/
theorem Own.stores (T : Own K C b) {ox : Obj} {od : Option Obj} (X : K.In hp) (I : InstAt hp x ox C od) (no : findIn K (.ref C) name = some none)
    (run : wpAny (model prog w) A.in1 (storeInOwnDict (.ref x) (.ref C) (.str name tk) name v false) (fun fin s' => match fin with
      | .done f => R (.ok f) s'
      | .again c => c.quiet = true ∧ codeAny (model prog w) A c R s') (fun e s' => R (.error e) s') ⟨hp, g, d, t, os⟩) :
    codeAny (model prog w) A (.call (.builtin "object.__setattr__") ⟨[.ref x, .str name tk, v], []⟩) R ⟨hp, g, d, t, os⟩ := by
  obtain ⟨cd, hcd, hm, _⟩ := T.cd
  have Z : Base b.B b.nB b.nw b.nI b.ini b.tB b.tl := T.Z
  have isO : W.Looks (model prog w) hp (isInstance (.ref x) (.type "object")) true := by
    refine I.type.andThen (W.looks_mroIn X ?_)
    unfold W.mroIn
    rw [hcd, Option.bind_some, hm]
    rw [if_neg (by show ¬ ((Value.ref C :: b.tl).isEmpty = true); exact Bool.false_ne_true), ahead Z.obj]
  have line : W.Looks (model prog w) hp (mroOf (.ref C)) cd.mro := (W.looks_clsIn X hcd).andThen .now
  have noT : W.Looks (model prog w) hp (storeTaker? none) none := .now
  have SO := F.store_object
  refine codeAny_call_builtin SO.slot.plain SO.entry ?_
  refine @W.check_slot (model prog w) _ _ ⟨hp, g, d, t, os⟩ "object.__setattr__" "object" "__setattr__" (.ref x) [.str name tk, v] [] _ SO.kind SO.split isO (SO.args (.ref x) (.str name tk) v) ?_
  rw [W.osa_eq, refuse_eq]
  refine wpAny_bind (wpAny_bind (I.type.at (wpAny_bind (line.at ?_))))
  rw [show refuseLoop (.ref x) "__setattr__" cd.mro = pure () by rw [hm, refuseLoop_ref]; exact Z.pass _]
  exact wpAny_pure (wpAny_bind (I.type.at (wpAny_bind ((W.looks_findIn X no).at (wpAny_bind (noT.at run))))))
/-- the first field: a dict is made -/
theorem Own.first (T : Own K C b) {fv : Array Value} (X : K.In hp) (hx : hp.get? x = some { cls := .ref C, data := .fields fv }) (no : findIn K (.ref C) name = some none)
    (fin : ∀ h' tk' dx, (∀ c o, c ≠ x → hp.get? c = some o → h'.get? c = some o) → hp.objs.size ≤ dx → dx ≠ x → h'.get? x = some { cls := .ref C, dict := some dx, data := .fields fv } → h'.Ns1 dx (fun y => if y = name then some v else none) → R (.ok (.ret .none)) ⟨h', g, d, tk', os⟩) :
    codeAny (model prog w) A (.call (.builtin "object.__setattr__") ⟨[.ref x, .str name tk, v], []⟩) R ⟨hp, g, d, t, os⟩ := by
  have I : W.InstAt hp x { cls := .ref C, data := .fields fv } C none := ⟨hx, rfl, rfl, trivial⟩
  have ns : x ≠ hp.objs.size := Nat.ne_of_lt (Heap.lt_size hx)
  refine T.stores X I no ?_
  obtain ⟨cd, hcd, _, hh⟩ := T.cd
  have lk : W.Looks (model prog w) hp (classData C) cd := W.looks_clsIn X hcd
  obtain ⟨_, _, _, _, _, hd, _, _, _, _, _⟩ := cd
  dsimp only at hh
  subst hh
  unfold storeInOwnDict ownDictForStores
  repeat (first
    | with_reducible refine HandSPX.store_in_new ?_ ?_
    | with_reducible refine wpAny_loadPart_at hx ?_
    | with_reducible refine lk.at ?_
    | wp_step)
  · exact ⟨_, #[], _, (Heap.get?_update_ne _ _ _ _ ns.symm).trans (Heap.get?_push_at rfl rfl), rfl, fun e he => (by simp at he), fun _ => rfl⟩
  · intro h' tk' hn sb
    have hx2 : (hp.push { cls := .type "dict", data := .dict #[] }).get? x = some { cls := .ref C, data := .fields fv } := Heap.get?_push_of_some _ hx
    refine fin h' tk' hp.objs.size (fun c o n ho => ?_) (Nat.le_refl _) ns.symm ((sb.2 x ns).trans (Heap.get?_update_self _ hx2 rfl)) hn
    exact (sb.2 c (Nat.ne_of_lt (Heap.lt_size ho))).trans ((Heap.get?_update_ne _ _ _ _ n).trans (Heap.get?_push_of_some _ ho))
/-- a further one -/
theorem Own.next (T : Own K C b) {fv : Array Value} {dx : Addr} {m : Str → Option Value} {nl : List Str} (X : K.In hp) (hx : hp.get? x = some { cls := .ref C, dict := some dx, data := .fields fv }) (hn : hp.Ns1 dx m) (hw : Within m nl) (hz : nl.length ≤ 1000) (no : findIn K (.ref C) name = some none)
    (fin : ∀ h' tk', (∀ c o, c ≠ dx → hp.get? c = some o → h'.get? c = some o) → h'.Ns1 dx (fun y => if y = name then some v else m y) → R (.ok (.ret .none)) ⟨h', g, d, tk', os⟩) :
    codeAny (model prog w) A (.call (.builtin "object.__setattr__") ⟨[.ref x, .str name tk, v], []⟩) R ⟨hp, g, d, t, os⟩ := by
  obtain ⟨oD, _, _, hoD, _, _⟩ := hn.count hw
  refine T.stores X (ox := { cls := .ref C, dict := some dx, data := .fields fv }) (od := some oD) ⟨hx, rfl, rfl, hoD⟩ no ?_
  obtain ⟨cd, hcd, _, hh⟩ := T.cd
  have lk : W.Looks (model prog w) hp (classData C) cd := W.looks_clsIn X hcd
  obtain ⟨_, _, _, _, _, hd, _, _, _, _, _⟩ := cd
  dsimp only at hh
  subst hh
  unfold storeInOwnDict ownDictForStores
  repeat (first
    | with_reducible refine OEX.store_in_old hn hw hz ?_
    | with_reducible refine wpAny_loadPart_at hx ?_
    | with_reducible refine lk.at ?_
    | wp_step)
  exact fun h' tk' h1 sb => fin h' tk' (fun c o n ho => (sb.2 c n).trans ho) h1
end
/-! ### over the abstract heap -/
section
open L2
variable {X : Cx} {pins : List (Addr × Obj)} {σ : St} {H : Hp} {s : Shared} {a C dx : Addr} {f : Str} {y : V} {u : Value} {fs : List (Str × V)} {b : BI} {A : Around} {E : Value → Shared → Prop}
theorem set_first {Q : Unit → Shared → Prop} (T : Own X.K C b) (I : Inv X pins σ H s) (e : H a = some (exo a C none)) (no : findIn X.K (.ref C) f = some none) (ry : RelV y u)
    (fin : ∀ dx s', H dx = none → dx ≠ a → Inv X pins σ (upd (upd H dx (exd dx [(f, y)])) a (exo a C (some dx))) s' → Q () s') : wpAny (model X.prog X.w) A (setAttr (.ref a) f u) Q E s := by
  obtain ⟨t1, ho⟩ := exo_at I.hok e
  obtain ⟨hp, g, d, t, os⟩ := s
  refine set_plain I.kIn (od := none) ⟨ho, rfl, rfl, trivial⟩ T.sa (T.first I.kIn ho no fun h' tk' dx kp big apart hx hn => ?_)
  have fr : H dx = none := I.hok.fresh big
  have old : ∀ {c : Addr} {o : Obj}, hp.get? c = some o → c ≠ dx := fun q => Nat.ne_of_lt (Nat.lt_of_lt_of_le (Heap.lt_size q) big)
  have oth : ∀ {c : Addr}, H c = none → c ≠ a := fun n z => by rw [z, e] at n; cases n
  have stay : ∀ {c : Addr} {z : HO}, H c = some z → exo a C none ≠ z → upd (upd H dx (exd dx [(f, y)])) a (exo a C (some dx)) c = some z := fun q n => by
    rw [upd_ne (at_ne e q n), upd_ne (ne_of_none q fr)]; exact q
  have U : Un X.fs [] H (upd (upd H dx (exd dx [(f, y)])) a (exo a C (some dx))) hp h' :=
    ⟨fun c o q n _ _ => kp c o (oth n) q, fun c o q n _ _ => ⟨o.slots, kp c o (oth n) q⟩, fun c o q n _ => by rw [upd_ne (oth n), upd_ne (old q)]; exact n,
      fun c o q _ => by
        by_cases z : c = a
        · subst z; exact ⟨_, hx⟩
        · exact ⟨o, kp c o z q⟩,
      fun c _ q => stay q exo_tup, fun c _ _ q => stay q exo_frz, fun c ps q => ⟨#[], by rw [stay q exo_tbl]; simp⟩⟩
  refine fin dx _ fr apart (I.un (t' := tk') U fun c z q => ?_)
  by_cases h1 : c = a
  · subst h1; rw [upd_same] at q; cases q; exact exo_ok hx
  rw [upd_ne h1] at q
  by_cases h2 : c = dx
  · subst h2; rw [upd_same] at q; cases q; exact exd_ok hn (relO_put (fs := []) ry fun _ => True.intro)
  rw [upd_ne h2] at q
  refine (I.hok c z q).stay (fun i v hi q2 => kp i v ?_ q2) (fun i hi => stay hi exo_own) fun i xs hi => stay hi exo_tup
  rcases hi with hi | hi
  · rw [hi]; exact h1
  · exact at_ne e hi exo_own
theorem set_next {Q : Unit → Shared → Prop} (T : Own X.K C b) (I : Inv X pins σ H s) (e : H a = some (exo a C (some dx))) (ed : H dx = some (exd dx fs)) (hl : fs.length ≤ 900) (no : findIn X.K (.ref C) f = some none) (ry : RelV y u)
    (fin : ∀ s', Inv X pins σ (upd H dx (exd dx ((f, y) :: fs))) s' → Q () s') : wpAny (model X.prog X.w) A (setAttr (.ref a) f u) Q E s := by
  obtain ⟨t1, ho⟩ := exo_at I.hok e
  obtain ⟨m, hn, rel⟩ := exd_at I.hok ed
  have hw := within_of rel
  obtain ⟨hp, g, d, t, os⟩ := s
  obtain ⟨oD, _, _, hoD, _, _⟩ := hn.count hw
  refine set_plain I.kIn (od := some oD) ⟨ho, rfl, rfl, hoD⟩ T.sa (T.next I.kIn ho hn hw (by rw [List.length_map]; omega) no fun h' tk' kp h1 => ?_)
  have there : ∃ o, h'.get? dx = some o := by obtain ⟨o, _, _, q, _⟩ := h1; exact ⟨o, q⟩
  exact fin _ (I.write (t' := tk') (x := dx) (e := dx) (o := exd dx ((f, y) :: fs)) (by rw [ed]; exact True.intro) (.inl rfl) kp there (exd_ok h1 (relO_put ry rel)))
theorem start_ok {Q : Value → Shared → Prop} {us : List Value} (T : Own X.K C b) (I : Inv X pins σ H s) (e : H a = some (exo a C none)) (sz : us.length ≤ sizeLine) (fin : ∀ s', Inv X pins σ H s' → Q .none s') :
    wpAny (model X.prog X.w) A (call (.builtin b.ini) (.ref a :: us)) Q E s := by
  obtain ⟨nm, q, N, bs, sn, sub, ab, col, dd, k0, k1, k2, k3, k5, hC⟩ := T.cls
  have Z : Base b.B b.nB b.nw b.nI b.ini b.tB b.tl := T.Z
  obtain ⟨t1, ho⟩ := exo_at I.hok e
  obtain ⟨hp, g, d, t, os⟩ := s
  refine wpAny_call (starts Z (I.kIn _ _ hC) ho sz fun h' t2 kp hx => ?_)
  have J := I.write (t' := t) (x := a) (e := a) (o := exo a C none) (by rw [e]; exact True.intro) (.inl rfl) kp ⟨_, hx⟩ (exo_ok hx)
  have same : upd H a (exo a C none) = H := funext fun c => if z : c = a then by rw [z, upd_same, e] else by rw [upd_ne z]
  rw [same] at J
  exact fin _ J
/-! ### readings, rules -/
/-- B.__init__(self, ..) -/
def tIni (K : Frag) (b : BI) (ta : TA) : TE := fun σ H Q => ta σ H fun vs H1 => ∃ (a C : Addr) (ws : List V), vs = .ref a :: ws ∧ ws.length ≤ 1000 ∧ Own K C b ∧ H1 a = some (exo a C none) ∧ Q .non H1
/-- self.f = e, the first one -/
def tOs1 (K : Frag) (b : BI) (f : Str) (to te : TE) : TS := fun D σ H => te σ H fun y H1 => to σ H1 fun x H2 => ∃ a C : Addr, x = .ref a ∧ Own K C b ∧ findIn K (.ref C) f = some none ∧
  H2 a = some (exo a C none) ∧ ∀ dx, H2 dx = none → dx ≠ a → D.nx σ (upd (upd H2 dx (exd dx [(f, y)])) a (exo a C (some dx)))
/-- self.f = e, a further one -/
def tOs2 (K : Frag) (b : BI) (f : Str) (to te : TE) : TS := fun D σ H => te σ H fun y H1 => to σ H1 fun x H2 => ∃ (a C dx : Addr) (fs : List (Str × V)), x = .ref a ∧ Own K C b ∧ findIn K (.ref C) f = some none ∧
  H2 a = some (exo a C (some dx)) ∧ H2 dx = some (exd dx fs) ∧ fs.length ≤ 900 ∧ D.nx σ (upd H2 dx (exd dx ((f, y) :: fs)))
/-- C(e, ..) as a value: the error stands in the heap -/
def tMkV (C : Addr) (sp : Sp) (dvs : List V) (ta : TA) : TE := fun σ H Q => ta σ H fun vs H1 => vs.length ≤ 1000 ∧ ∀ a, H1 a = none → sp (.ref a :: (vs ++ dvs)) (upd H1 a (exo a C none)) (fun v H2 => v = .non ∧ Q (.ref a) H2) (fun _ _ _ => False)
end
/-- the starter's name is found -/
def BI.named (K : Frag) (b : BI) : Prop := findCls K (.type b.B) (.type "type") "__init__" = some (.val (.builtin b.ini)) ∧ Manifest.isStub b.B = false ∧ handedIn (.builtin b.ini) = true ∧ bootBuiltins b.B = some (.type b.B)
theorem nV {K : Frag} : BI.named K iV := ⟨by kernel_rfl, by decide +kernel, by decide +kernel, by decide +kernel⟩
theorem nI {K : Frag} : BI.named K iI := ⟨by kernel_rfl, by decide +kernel, by decide +kernel, by decide +kernel⟩
theorem nL {K : Frag} : BI.named K iL := ⟨by kernel_rfl, by decide +kernel, by decide +kernel, by decide +kernel⟩
theorem nR {K : Frag} : BI.named K iR := ⟨by kernel_rfl, by decide +kernel, by decide +kernel, by decide +kernel⟩
theorem nO {K : Frag} : BI.named K iO := ⟨by kernel_rfl, by decide +kernel, by decide +kernel, by decide +kernel⟩
theorem nK {K : Frag} : BI.named K iK := ⟨by kernel_rfl, by decide +kernel, by decide +kernel, by decide +kernel⟩
section
open L2
variable {X : Cx} {b : BI} {o e : Expr} {es : List Expr} {to te : TE} {ta : TA} {f x : Str} {p p' p1 p2 pos : Pos}
theorem pe_ini {pl : Sem Bool} (nb : b.named X.K) (Z : b.ok) (hg : Gl X x) (hm : X.mg x = none) (hx : x = Str.ofString b.B) (ha : PA X (e :: es) ta) (h1 : x ≠ "__name__" := by decide) (h2 : (x == ("__debug__" : Str)) = false := by decide)
    (hc : eval (.Call (.Attribute (.Name x p1) "__init__" p2) (e :: es) [] pos) X.env = (do
      let v ← eval (.Name x p1) X.env
      standAt p2.atName
      let (m, first) ← holding [v] (getMethod v "__init__" pl)
      callWith pos m first (backTo pos (starEach (e :: es) X.env)) (backToKw pos (keywordEach [] X.env))) := by rfl)
    (he : starEach (e :: es) X.env = (false, eval e X.env) :: starEach es X.env := by rfl) (hp : (backTo pos (starEach es X.env)).any (·.1) = false := by rfl) :
    PE X (.Call (.Attribute (.Name x p1) "__init__" p2) (e :: es) [] pos) (tIni X.K b ta) := by
  refine ⟨fun pins s σ H Q I h => ?_⟩
  obtain ⟨n1, n2, n3, n4⟩ := nb
  have Z' : Base b.B b.nB b.nw b.nI b.ini b.tB b.tl := Z
  refine PySem.W.methodCall_KW (ld_blt I hg hm (by rw [hx]; exact n4) ?_ h1 h2) hc
  obtain ⟨m, fr⟩ := I.fr
  refine PySem.W.method_type fr I.ok.mod.kin Z'.ty n2 n1 n3 ?_
  show wpAny _ _ (callWith pos (Value.builtin b.ini) [] (backTo pos (starEach (e :: es) X.env)) []) _ _ _
  refine PyProof.Rows.callWith_method1 (thn (ha.run pos pins _ σ H _ (I.tok _) h) fun us s1 ⟨vs, H1, I1, r1, a, C, ws, ev, hl, T, ea, q⟩ => ?_) he hp
  subst ev
  cases r1 with
  | @cons _ u0 _ ur ra rw' =>
    obtain rfl : u0 = Value.ref a := ra
    exact start_ok T I1 ea (by rw [← Paired.length rw', sizeLine_eq]; omega) fun s' J => ⟨.non, H1, J, rfl, q⟩
theorem ps_os1 (ho : PE X o to) (he : PE X e te) (hs : swapsWith e (some (.Attribute o f p')) pos.line X.env = pure false := by rfl) : PS X (.Assign [.Attribute o f p'] e pos) (tOs1 X.K b f to te) := by
  refine ⟨fun pins s σ H D I h => plainObj_wpAny_Assign_Attribute ?_ hs⟩
  refine thn (he.run pins s σ H _ I h) fun v s1 ⟨y, H1, I1, r1, q1⟩ => thn (ho.run pins s1 σ H1 _ I1 q1) fun u s2 ⟨z, H2, I2, r2, a, C, ex, T, no, ea, q⟩ => ?_
  subst ex
  obtain rfl : u = Value.ref a := r2
  exact set_first T I2 ea no r1 fun dx s' n ne J => ⟨σ, _, J, q dx n ne⟩
theorem ps_os2 (ho : PE X o to) (he : PE X e te) (hs : swapsWith e (some (.Attribute o f p')) pos.line X.env = pure false := by rfl) : PS X (.Assign [.Attribute o f p'] e pos) (tOs2 X.K b f to te) := by
  refine ⟨fun pins s σ H D I h => plainObj_wpAny_Assign_Attribute ?_ hs⟩
  refine thn (he.run pins s σ H _ I h) fun v s1 ⟨y, H1, I1, r1, q1⟩ => thn (ho.run pins s1 σ H1 _ I1 q1) fun u s2 ⟨z, H2, I2, r2, a, C, dx, fs, ex, T, no, ea, ed, hl, q⟩ => ?_
  subst ex
  obtain rfl : u = Value.ref a := r2
  exact set_next T I2 ea ed hl no r1 fun s' J => ⟨σ, _, J, q⟩
section
variable {CX : CXT} {C fI : Addr} {k : Nat} {fd : FuncData} {ps : List Str} {sp : Sp} {ds : List Value} {dvs : List V}
/-- the class is called, its own starter keeping sp: what is left -/
theorem make_run {P : Value → Shared → Prop} (T : Own X.K C b) (iC : findIn X.K (.ref C) "__init__" = some (some (.ref fI))) (tI : typeIn X.K (.ref fI) = some (.type "function")) (FI : FnOk X.prog X.w X.K X.mg X.base CX k fI fd ps sp) (hr : Room (k + 1) X.A) (hb : Binds X.K fd ps ds) (hd : Vals dvs ds)
    (hx : Passes CX X (fun _ _ _ => False)) {pins : List (Addr × Obj)} {σ : St} {H1 : Hp} {hp : Heap} {g : Array GenState} {dr : Drawn} {tk : Nat} {os : OsState} {us : List Value} {vs : List V} {G : V → Hp → Prop} (I1 : Inv X pins σ H1 ⟨hp, g, dr, tk, os⟩) (r1 : Vals vs us) (sz : vs.length ≤ 1000)
    (hq : sp (.ref (hp.objs.size + 1) :: (vs ++ dvs)) (upd H1 (hp.objs.size + 1) (exo (hp.objs.size + 1) C none)) G (fun _ _ _ => False))
    (fin : ∀ (v : V) (u : Value) (H2 : Hp) (s2 : Shared), RelV v u → G v H2 → s2.os = os → PyProof.Rows.AllBare s2.gens → Un (frs X.stack) [] (upd H1 (hp.objs.size + 1) (exo (hp.objs.size + 1) C none)) H2 ((hp.push (W.kdv_tup us)).push (excO C hp.objs.size)) s2.heap → HOk X.prog X.w H2 s2.heap → u = .none ∧ P (.ref (hp.objs.size + 1)) s2) :
    wpAny (model X.prog X.w) X.A (call (.ref C) us) P X.xe ⟨hp, g, dr, tk, os⟩ := by
  obtain ⟨nm, q, N, bs, sn, sub, ab, col, dd, k0, k1, k2, k3, k5, hC⟩ := T.cls
  have Z : Base b.B b.nB b.nw b.nI b.ini b.tB b.tl := T.Z
  have kp : ∀ c o, hp.get? c = some o → ((hp.push (W.kdv_tup us)).push (excO C hp.objs.size)).get? c = some o := fun _ _ z => Heap.get?_push_of_some _ (Heap.get?_push_of_some _ z)
  have he : ((hp.push (W.kdv_tup us)).push (excO C hp.objs.size)).get? (hp.objs.size + 1) = some (excO C hp.objs.size) := by heap_get
  have I2 : Inv X pins σ (upd H1 (hp.objs.size + 1) (exo (hp.objs.size + 1) C none)) ⟨(hp.push (W.kdv_tup us)).push (excO C hp.objs.size), g, dr, tk, os⟩ := I1.laid (t' := tk) kp (Nat.le_succ _) (exo_ok he)
  have r2 : Vals (V.ref (hp.objs.size + 1) :: (vs ++ dvs)) (Value.ref (hp.objs.size + 1) :: (us ++ ds)) := .cons rfl (r1.append hd)
  have hl : (Value.ref (hp.objs.size + 1) :: us ++ ds).length = ps.length := by
    have z := r2.length
    rw [FI.len _ _ _ _ hq] at z
    exact z.symm
  have su : us.length ≤ sizeLine := by rw [← Paired.length r1, sizeLine_eq]; omega
  refine wpAny_call (class_call Z (I1.kIn _ _ hC) su (looks_findIn I1.kIn iC) (fun v => bind_fn I1.kIn v tI) (codeAny_mono (FI.run _ X.stack _ _ ⟨Value.ref (hp.objs.size + 1) :: us, []⟩ (Value.ref (hp.objs.size + 1) :: (us ++ ds)) _ _ (fun _ _ _ => False)
    (hr.make C us []) (I2.env0.make C us []) (hb _ (Value.ref (hp.objs.size + 1) :: us) I2.kIn hl) r2 hq) fun r s' z => ?_))
  cases r with
  | error er => exact hx pins σ _ _ er s' I2 z
  | ok fl =>
    cases fl with
    | ret u =>
      obtain ⟨v, H2, os2, bare2, un2, hok2, rv, qv⟩ := z
      exact fin v u H2 s' rv qv os2 bare2 un2 hok2
    | next => exact z.elim
    | brk => exact z.elim
    | cont => exact z.elim
/-- X(e, ..), made to be raised -/
theorem pmk_own (T : Own X.K C b) (iC : findIn X.K (.ref C) "__init__" = some (some (.ref fI))) (tI : typeIn X.K (.ref fI) = some (.type "function")) (FI : FnOk X.prog X.w X.K X.mg X.base CX k fI fd ps sp) (hr : Room (k + 1) X.A) (hb : Binds X.K fd ps ds) (hd : Vals dvs ds)
    (hx : Passes CX X (fun _ _ _ => False)) (hg : Gl X x) (hm : X.mg x = some (.ref C)) (ha : PA X (e :: es) ta) (h2 : (x == ("__debug__" : Str)) = false := by decide)
    (he : starEach (e :: es) X.env = (false, eval e X.env) :: starEach es X.env := by rfl) (hp : (backTo pos (starEach es X.env)).any (·.1) = false := by rfl) : PMk X (.Call (.Name x p) (e :: es) [] pos) (tMkO C sp dvs ta) := by
  intro pins s σ H Q I h
  refine wpAny_Call_Name_kw (ld_glob I hg hm ?_ h2)
  refine PySem.W.callWith_K (h₀ := X.base) I.ok.mod.kin T.kC (thn (ha.run pos pins s σ H _ I h) fun us s1 ⟨vs, H1, I1, r1, sz, q1⟩ => ⟨I1.kIn, ?_⟩) he hp
  show wpAny _ _ (call (.ref C) us) _ _ _
  obtain ⟨hp, g, dr, tk, os⟩ := s1
  refine make_run T iC tI FI hr hb hd hx I1 r1 sz (q1 _ (I1.hok.fresh (Nat.le_succ _))) fun v u H2 s2 rv qv os2 bare2 un2 hok2 => ?_
  obtain ⟨ev, d, fs, ea, ed, hd1, q2⟩ := qv
  subst ev
  obtain ⟨h2, g2, d2, t2, os'⟩ := s2
  exact ⟨rv, mk_end (raises_own T.exC T.tyC) I1 (Nat.le_succ _) (fun _ _ z => Heap.get?_push_of_some _ (Heap.get?_push_of_some _ z)) un2 hok2 os2 bare2 ea ed hd1 q2⟩
/-- X(e, ..), a value -/
theorem pe_own (T : Own X.K C b) (iC : findIn X.K (.ref C) "__init__" = some (some (.ref fI))) (tI : typeIn X.K (.ref fI) = some (.type "function")) (FI : FnOk X.prog X.w X.K X.mg X.base CX k fI fd ps sp) (hr : Room (k + 1) X.A) (hb : Binds X.K fd ps ds) (hd : Vals dvs ds)
    (hx : Passes CX X (fun _ _ _ => False)) (hg : Gl X x) (hm : X.mg x = some (.ref C)) (ha : PA X (e :: es) ta) (h2 : (x == ("__debug__" : Str)) = false := by decide)
    (he : starEach (e :: es) X.env = (false, eval e X.env) :: starEach es X.env := by rfl) (hp : (backTo pos (starEach es X.env)).any (·.1) = false := by rfl) : PE X (.Call (.Name x p) (e :: es) [] pos) (tMkV C sp dvs ta) := by
  refine ⟨fun pins s σ H Q I h => ?_⟩
  refine wpAny_Call_Name_kw (ld_glob I hg hm ?_ h2)
  refine PySem.W.callWith_K (h₀ := X.base) I.ok.mod.kin T.kC (thn (ha.run pos pins s σ H _ I h) fun us s1 ⟨vs, H1, I1, r1, sz, q1⟩ => ⟨I1.kIn, ?_⟩) he hp
  show wpAny _ _ (call (.ref C) us) _ _ _
  obtain ⟨hp, g, dr, tk, os⟩ := s1
  refine make_run T iC tI FI hr hb hd hx I1 r1 sz (q1 _ (I1.hok.fresh (Nat.le_succ _))) fun v u H2 s2 rv qv os2 bare2 un2 hok2 => ?_
  obtain ⟨ev, q2⟩ := qv
  subst ev
  obtain ⟨h2, g2, d2, t2, os'⟩ := s2
  have he : ((hp.push (W.kdv_tup us)).push (excO C hp.objs.size)).get? (hp.objs.size + 1) = some (excO C hp.objs.size) := by heap_get
  have I2 : Inv X pins σ (upd H1 (hp.objs.size + 1) (exo (hp.objs.size + 1) C none)) ⟨(hp.push (W.kdv_tup us)).push (excO C hp.objs.size), g, dr, tk, os⟩ := I1.laid (t' := tk) (fun _ _ z => Heap.get?_push_of_some _ (Heap.get?_push_of_some _ z)) (Nat.le_succ _) (exo_ok he)
  exact ⟨rv, .ref (hp.objs.size + 1), H2, I2.call' (ch := []) os2 un2 hok2 bare2 (fun _ z => absurd z (by simp)), rfl, q2⟩
end
end
end ER

/-! ### a, *b, c = a tuple -/
namespace ST
open PySem PyProof.Rows
section
variable {prog : Program} {w : World} {A : Around} {E : Value → Shared → Prop} {s : Shared}
/-- what is left of a tuple's walk -/
theorem left_walk (hh : A.handled = none) {it t : Addr} (ne : t ≠ it) (items : Array Value) (k n : Nat) (hn : k + n = items.size) :
    WalksS prog w A it [it, t] [it] (fun a b => a = b) n (fun i v => items[k + i]? = some v) (fun i s => s.heap.IsTupleIter it t (k + i) ∧ s.heap.IsTuple t items) := by
  have W := Walks.tuple (prog := prog) (w := w) hh it t ne items
  have mv : ∀ {s : Shared} {h' : Heap}, (∀ b o, b ≠ it → s.heap.get? b = some o → h'.get? b = some o) → Moved [it] (fun a b => a = b) s { s with heap := h' } := fun kp =>
    ⟨fun b o n e => kp b o (fun z => n (by simp [z])) e, rfl, rfl, rfl, Nat.le_refl _⟩
  refine ⟨W.sub, fun _ => rfl, fun _ _ _ h1 h2 => h1.trans h2, fun i s h' tk st _ kp => W.frame _ _ _ st kp, fun i s Q E hi st q => ?_, fun s Q E st q => ?_, fun i s Q E st q => W.self _ s Q E st q⟩
  · have hx : items[k + i]? = some items[k + i] := Array.getElem?_eq_getElem (by omega)
    exact wpAny_pyNext_tuple_item st.1 st.2 hx fun h' h1 h2 => q _ _ hx ⟨h1, st.2.extBut h2.extBut ne⟩ (mv fun b o n e => h2.extBut b o n e)
  · exact wpAny_pyNext_tuple_end hh st.1 st.2 (by simp; omega) fun h' h2 => q _ (mv fun b o n e => h2 b o n e)
/-- n targets, the k-th with the star -/
theorem unpack_star {t : Addr} {items : Array Value} {n k : Nat} {Q : List Value → Shared → Prop} (hh : A.handled = none) (ht : IsTup s.heap t items) (hk : k < n) (hn : n ≤ items.size + 1) (sz : items.size ≤ sizeLine)
    (fin : ∀ (h' : Heap) (tk : Nat), (∀ b o, s.heap.get? b = some o → h'.get? b = some o) → s.toks ≤ tk →
      Q (items.toList.take k ++ [.ref h'.objs.size] ++ items.toList.drop (items.size - (n - 1 - k))) { s with heap := h'.push { cls := .type "list", data := .seq ((items.toList.drop k).take (items.size - (n - 1))).toArray }, toks := tk }) :
    wpAny (model prog w) A (unpackItems (.ref t) n (some k)) Q E s := by
  have ne : t ≠ s.heap.objs.size := by obtain ⟨o, ho, _⟩ := ht; exact Nat.ne_of_lt (Heap.lt_size ho)
  unfold unpackItems notIterableAtAll
  refine wpAny_bind (wpAny_bind (wpAny_specialOf ht.typeIs slot_tuple_iter.lookup (wpAny_pure ?_)))
  simp only [Bool.false_eq_true, if_false]
  refine wpAny_bind (wpAny_holding (iter_tuple ht ?_))
  refine wpAny_bind (wpAny_holding (draw_tuple ne k 0 _ _ ⟨_, Heap.get?_push_size _ rfl, rfl, rfl⟩ (ht.push _) (by omega) fun h1 hi1 hs1 => ?_))
  have ht1 : IsTup h1 t items := (ht.push _).extBut hs1.extBut ne
  have lk : (List.take k (List.drop 0 items.toList)).length = k := by rw [List.drop_zero, List.length_take]; simp; omega
  rw [if_neg (by rw [lk]; omega)]
  have W := left_walk (prog := prog) (w := w) (A := A.in1) hh ne items k (items.size - k) (by omega)
  have hs1' : s.heap.objs.size < h1.objs.size := by obtain ⟨o, ho, _⟩ := hi1; exact Heap.lt_size ho
  have fp : ∀ b ∈ [s.heap.objs.size, t], b < h1.objs.size := fun b hb => by
    rcases List.mem_cons.mp hb with rfl | hb
    · exact hs1'
    · rw [List.mem_singleton.mp hb]; exact ht1.lt
  rw [Nat.zero_add] at hi1
  refine wpAny_bind (wpAny_holding (wpAny_collect_iter (s := { s with heap := h1 }) (.inr (.inr (.inr rfl))) W (fun i s' st => st.1.typeIs) ⟨hi1, ht1⟩ fp (by simp) (fun s2 acc mv ac => ?_) (by omega)))
  have ea : acc.toList = items.toList.drop k := by
    apply List.ext_getElem?
    intro j
    rw [List.getElem?_drop, Array.getElem?_toList, Array.getElem?_toList]
    cases e : acc[j]? with
    | some v => exact (ac.2 j v e).symm
    | none =>
      have : acc.size ≤ j := by simpa using e
      rw [ac.1] at this
      exact (Array.getElem?_eq_none (by omega)).symm
  rw [ea]
  have ld : (items.toList.drop k).length = items.size - k := by rw [List.length_drop]; simp
  rw [if_neg (by rw [ld]; omega)]
  obtain ⟨hp2, g2, d2, t2, os2⟩ := s2
  obtain ⟨m1, m2, m3, m4, m5⟩ := mv
  have e1 : s.gens = g2 := m2
  have e2 : d2 = s.drawn := m3
  have e3 : os2 = s.os := m4
  subst e1 e2 e3
  have kp : ∀ b o, s.heap.get? b = some o → hp2.get? b = some o := fun b o e => by
    have nb : b ≠ s.heap.objs.size := Nat.ne_of_lt (Heap.lt_size e)
    exact m1 b o (by simpa using nb) (hs1.extBut b o nb (Heap.get?_push_of_some _ e))
  refine wpAny_bind (wpAny_newList (wpAny_pure ?_) ?_)
  · have q := fin hp2 t2 kp m5
    have a1 : items.size - k - (n - 1 - k) = items.size - (n - 1) := by omega
    have a2 : items.toList.drop (items.size - (n - 1 - k)) = (items.toList.drop k).drop (items.size - (n - 1)) := by rw [List.drop_drop]; congr 1; omega
    rw [a2] at q
    rw [ld, a1, List.drop_zero]
    exact q
  · rw [List.length_take, ld]; omega
end
section
open L2
variable {X : Cx} {e : Expr} {es : List Expr} {t : TG} {u : TGs} {pos p : Pos}
theorem pgs_star (h1 : PG X e t) (h2 : PGs X es u) (hs : (assignEach (.Starred e p :: es) X.env).map (·.2) = assign e X.env :: (assignEach es X.env).map (·.2) := by rfl) : PGs X (.Starred e p :: es) (gCons t u) := by
  refine ⟨fun pins s σ H vs us Q I r h => ?_⟩
  obtain ⟨v, vr, rfl, h⟩ := h
  cases r with
  | cons r rr =>
    rw [hs]
    refine assignInOrder_cons (thn (h1.run pins s σ H _ _ _ I r h) fun _ s1 ⟨σ1, H1, I1, q1⟩ => h2.run pins s1 σ1 H1 _ _ Q I1 rr q1)
/-- n targets, the k-th takes what is left -/
def gStar (K : PySem.W.Frag) (n k : Nat) (u : TGs) : TG := fun v σ H Q => ∃ a xs, v = .ref a ∧ SqT K H a xs ∧ n ≤ xs.length + 1 ∧
  ∀ l, H l = none → u (xs.take k ++ [.ref l] ++ xs.drop (xs.length - (n - 1 - k))) σ (upd H l (.lst ((xs.drop k).take (xs.length - (n - 1))))) Q
theorem vals_cut : ∀ {xs : List V} {us : List Value} (k : Nat), Vals xs us → Vals (xs.take k) (us.take k) ∧ Vals (xs.drop k) (us.drop k)
  | _, _, 0, r => ⟨by rw [List.take_zero, List.take_zero]; exact .nil, by rw [List.drop_zero, List.drop_zero]; exact r⟩
  | _, _, k + 1, .nil => ⟨by rw [List.take_nil, List.take_nil]; exact .nil, by rw [List.drop_nil, List.drop_nil]; exact .nil⟩
  | _, _, k + 1, .cons a r => by
    obtain ⟨h1, h2⟩ := vals_cut k r
    exact ⟨.cons a h1, h2⟩
theorem pg_star {n k kk : Nat} (hc : X.calm = true) (h : PGs X es u) (hn : (assignEach es X.env).length = n := by rfl) (hk : (assignEach es X.env).findIdx? (·.1) = some k := by rfl) (hkn : k < n := by decide) : PG X (.Tuple es kk pos) (gStar X.K n k u) := by
  refine ⟨fun pins s σ H v x Q I r hw => ?_⟩
  obtain ⟨a, xs, rfl, hq, hl, hw⟩ := hw
  cases r
  obtain ⟨its, rv, ht, hz⟩ := I.tuple hq
  have el : xs.length = its.length := rv.length
  rw [assign_Tuple]
  unfold unpack
  refine wpAny_bind (wpAny_standAt (wpAny_bind (wpAny_holding ?_)))
  rw [hn, hk]
  refine unpack_star (I.ok.hd hc) ht hkn (by simp; omega) (by simp; omega) fun h' tk kp _ => ?_
  have I1 : Inv X pins σ H { s with heap := h', toks := tk } := I.kept (t' := tk) kp
  have ez : its.toArray.size = its.length := by simp
  have rm : Vals ((xs.drop k).take (xs.length - (n - 1))) ((its.drop k).take (its.length - (n - 1))) := by rw [el]; exact (vals_cut _ (vals_cut k rv).2).1
  have I2 : Inv X pins σ (upd H h'.objs.size (.lst ((xs.drop k).take (xs.length - (n - 1))))) { s with heap := h'.push { cls := .type "list", data := .seq ((its.drop k).take (its.length - (n - 1))).toArray }, toks := tk } :=
    I1.lnew (t' := tk) rm (by rw [List.length_take, List.length_drop]; omega)
  have rr : Vals (xs.take k ++ [.ref h'.objs.size] ++ xs.drop (xs.length - (n - 1 - k))) (its.take k ++ [.ref h'.objs.size] ++ its.drop (its.length - (n - 1 - k))) := by
    rw [el]
    have r1 : Vals [V.ref h'.objs.size] [Value.ref h'.objs.size] := .cons (show RelV (V.ref h'.objs.size) (Value.ref h'.objs.size) from rfl) .nil
    exact ((vals_cut k rv).1.append r1).append (vals_cut _ rv).2
  have q := h.run pins _ σ _ _ _ Q I2 rr (hw _ I1.fresh)
  simpa using q
end
end ST

/-! ### zip of a tuple and a list -/
namespace ZM
open PySem PyProof.Rows L2
/-- the tuple at a and the list at b as they stand at each turn, their items in new pairs -/
def ItzM (K : PySem.W.Frag) (a b : Addr) : It :=
  ⟨fun i H => ∃ (xs ys : List V) (x y : V), SqT K H a xs ∧ SqL K H b ys ∧ xs[i]? = some x ∧ ys[i]? = some y,
    fun i H v H' => ∃ p x y, v = .ref p ∧ H p = none ∧ H' = upd H p (.tup [x, y]) ∧ (∀ xs, SqT K H a xs → xs[i]? = some x) ∧ ∀ ys, SqL K H b ys → ys[i]? = some y,
    fun i H => ∃ xs ys : List V, SqT K H a xs ∧ SqL K H b ys ∧ i = min xs.length ys.length⟩
theorem sep_of {z TI TO i1 i2 a b : Addr} (D : ZipApart z TI TO i1 i2 a b) : ZipSep2 z TI TO i1 i2 [i1, a] [i2, b] :=
  ⟨D.TIz, D.TOz, D.TITO, D.TIi1, by simp, by simp [D.i1z.symm, D.l1z.symm], by simp [D.TOi1, D.l1TO.symm], D.TIi2, by simp, by simp [D.i2z.symm, D.l2z.symm], by simp [D.TOi2, D.l2TO.symm], by simp [D.i12, D.l2i1.symm], by simp [D.i12.symm, D.l1i2.symm]⟩
theorem turn_m {P : Program} {w : World} {K : PySem.W.Frag} {elts : List Expr} {kk : Nat} {tpos : Pos} {a b z TI TO i1 i2 : Addr} (D : ZipApart z TI TO i1 i2 a b) :
    Turn P w K (.Tuple elts kk tpos) (ItzM K a b) [z, TI, TO, i1, i2] z (fun i h => IsZip h z TI TO .none ∧ IsPair h TI (.ref i1) (.ref i2) ∧ (∃ x y, IsPair h TO x y) ∧ h.IsTupleIter i1 a i ∧ h.IsListIter i2 b i) where
  mem := by simp
  obj := fun i h st c hc => by
    obtain ⟨hz, h1, ⟨x, y, h2⟩, ⟨o1, e1, _, d1⟩, h3⟩ := st
    obtain ⟨o2, e2, _, d2⟩ := h3
    simp only [List.mem_cons, List.not_mem_nil, or_false] at hc
    rcases hc with rfl | rfl | rfl | rfl | rfl
    · exact ⟨_, hz, fun v q => nomatch q⟩
    · exact ⟨_, h1, fun v q => nomatch q⟩
    · exact ⟨_, h2, fun v q => nomatch q⟩
    · exact ⟨o1, e1, fun v q => by rw [d1] at q; cases q⟩
    · exact ⟨o2, e2, fun v q => by rw [d2] at q; cases q⟩
  keep := fun i h h' st k => by
    obtain ⟨hz, h1, ⟨x, y, h2⟩, h3, h4⟩ := st
    exact ⟨k z (by simp) _ hz, k TI (by simp) _ h1, ⟨x, y, k TO (by simp) _ h2⟩, h3.at fun o q => k i1 (by simp) o q, h4.at fun o q => k i2 (by simp) o q⟩
  item := by
    intro X hP hw hK hc i pins s σ H E I hf st hg
    subst hP hw hK
    obtain ⟨hz, hTI, ⟨x0, y0, hTO⟩, h1, h2⟩ := st
    obtain ⟨xs, ys, x, y, hqx, hqy, hx, hy⟩ := hg
    obtain ⟨its, rv, p, _⟩ := I.tuple hqx
    obtain ⟨its2, rv2, p2, _⟩ := I.list hqy
    obtain ⟨u, hu, ru⟩ := rv.get hx
    obtain ⟨u2, hu2, ru2⟩ := rv2.get hy
    have hzl : z < s.heap.objs.size := Heap.lt_size hz
    have b1 : i < its.toArray.size := by simpa using (List.getElem?_eq_some_iff.mp hu).1
    have b2 : i < its2.toArray.size := by simpa using (List.getElem?_eq_some_iff.mp hu2).1
    have hh : X.A.in1.handled = none := I.ok.hd hc
    refine wpAny_pyNext_zipD2_item (sep_of D) (Draws.tuple (A := X.A.in1) hh i1 a D.l1i1 its.toArray) (Draws.list (A := X.A.in1) hh i2 b D.l2i2 its2.toArray) hz hTI hTO ⟨h1, p⟩ ⟨h2, p2.isList⟩ b1 b2 fun v1 v2 h' tk q1 q2 z' TO' g1 g2 hT hsz hk => ?_
    obtain rfl : v1 = u := by
      have q1 : its.toArray[i]? = some v1 := q1
      have e : its.toArray[i]? = some u := by simpa using hu
      exact Option.some.inj (q1.symm.trans e)
    obtain rfl : v2 = u2 := by
      have q2 : its2.toArray[i]? = some v2 := q2
      have e : its2.toArray[i]? = some u2 := by simpa using hu2
      exact Option.some.inj (q2.symm.trans e)
    refine ⟨_, rfl, wpAny_letOwnedTupleGo_zip (s := { s with heap := h', toks := tk }) z' fun h'' z'' sb => ?_⟩
    have hT2 : h''.get? s.heap.objs.size = some { cls := .type "tuple", data := .seq #[v1, v2] } := (sb.2 _ (Nat.ne_of_gt hzl)).trans hT
    have new : ObjOk X.prog X.w (upd H s.heap.objs.size (.tup [x, y])) h'' s.heap.objs.size (.tup [x, y]) := ⟨by show 2 ≤ sizeLine; decide, [v1, v2], .cons ru (.cons ru2 .nil), ⟨_, hT2, rfl, _, rfl⟩⟩
    have I1 : Inv X pins σ (upd H s.heap.objs.size (.tup [x, y])) { s with heap := h'', toks := tk } := by
      refine I.turnedNew (t' := tk) (ch := [z, TI, TO, i1, i2]) (fun c o hb q => ?_) hf (Nat.le_refl _) new
      have nn : ∀ d, d ∈ [z, TI, TO, i1, i2] → c ≠ d := fun d hd e => hb (e ▸ hd)
      exact (sb.2 c (nn z (by simp))).trans (hk c o (nn z (by simp)) (nn TO (by simp)) (nn i1 (by simp)) (nn i2 (by simp)) q)
    refine ⟨.ref s.heap.objs.size, _, I1, rfl, ⟨_, x, y, rfl, I.fresh, rfl, fun l hl => by rw [I.tuple_inj hl hqx]; exact hx, fun l hl => by rw [I.list_inj hl hqy]; exact hy⟩, ⟨z'', ?_, ⟨v1, v2, ?_⟩, ?_, ?_⟩, fun c hm => ?_⟩
    · exact (sb.2 _ D.TIz).trans (hk _ _ D.TIz D.TITO D.TIi1 D.TIi2 hTI)
    · exact (sb.2 _ D.TOz).trans TO'
    · exact g1.1.at fun o q => (sb.2 _ D.i1z).trans q
    · exact g2.1.at fun o q => (sb.2 _ D.i2z).trans q
    · have lt : c < s.heap.objs.size := by
        simp only [List.mem_cons, List.not_mem_nil, or_false] at hm
        obtain ⟨_, e1, _⟩ := h1
        obtain ⟨_, e2, _⟩ := h2
        rcases hm with rfl | rfl | rfl | rfl | rfl
        · exact hzl
        · exact Heap.lt_size hTI
        · exact Heap.lt_size hTO
        · exact Heap.lt_size e1
        · exact Heap.lt_size e2
      rw [upd_ne (Nat.ne_of_lt lt)]
      exact (hf c hm).1
  done := by
    intro X hP hw hK hc i pins s σ H E I hf st hg
    subst hP hw hK
    obtain ⟨hz, hTI, ⟨x0, y0, hTO⟩, h1, h2⟩ := st
    obtain ⟨xs, ys, hqx, hqy, hend⟩ := hg
    obtain ⟨its, rv, p, _⟩ := I.tuple hqx
    obtain ⟨its2, rv2, p2, _⟩ := I.list hqy
    have l1 : its.toArray.size = xs.length := by simpa using rv.length.symm
    have l2 : its2.toArray.size = ys.length := by simpa using rv2.length.symm
    have hh : X.A.in1.handled = none := I.ok.hd hc
    refine wpAny_pyNext_zipD2_end (sep_of D) (Draws.tuple (A := X.A.in1) hh i1 a D.l1i1 its.toArray) (Draws.list (A := X.A.in1) hh i2 b D.l2i2 its2.toArray) hz hTI hTO ⟨h1, p⟩ ⟨h2, p2.isList⟩ (by omega) (by omega) (by omega) fun h' tk hk => ⟨rfl, ?_⟩
    refine I.turnedL (t' := tk) (ch := [z, TI, TO, i1, i2]) (fun c o hb q => ?_) hf
    have nn : ∀ d, d ∈ [z, TI, TO, i1, i2] → c ≠ d := fun d hd e => hb (e ▸ hd)
    exact hk c o (nn z (by simp)) (nn TO (by simp)) (nn i1 (by simp)) (nn i2 (by simp)) q
  self := fun A i s Q E st h => wpAny_pyIter_zip st.1 h
def iZipM (K : PySem.W.Frag) (ta : TA) : TI := fun σ H R => ta σ H fun vs H1 => ∃ a b xs ys, vs = [.ref a, .ref b] ∧ SqT K H1 a xs ∧ SqL K H1 b ys ∧ R (ItzM K a b) H1
theorem pi_zipM {X : Cx} {e e2 : Expr} {ta : TA} {p pos tpos : Pos} {elts : List Expr} {kk : Nat} (hg : Gl X "zip") (hm : X.mg "zip" = none) (ha : PA X [e, e2] ta) (hs : starEach [e, e2] X.env = (false, eval e X.env) :: starEach [e2] X.env := by rfl) (hpl : (backTo pos (starEach [e2] X.env)).any (·.1) = false := by rfl) :
    PI X (.Tuple elts kk tpos) (.Call (.Name "zip" p) [e, e2] [] pos) (iZipM X.K ta) := by
  refine ⟨fun pins s σ H R I h => ?_⟩
  refine Call_ (ld_blt I hg hm boot_zip (callWith_type1 (thn (ha.run pos pins s σ H _ I h) fun us s1 ⟨vs, H1, I1, r1, a, b, xs, ys, ex, hqx, hqy, q⟩ => ?_) hs hpl))
  subst ex
  obtain ⟨u, v, rfl, rfl, rfl⟩ : ∃ u v, us = [u, v] ∧ u = Value.ref a ∧ v = Value.ref b := by
    cases r1 with
    | cons r rr =>
      cases rr with
      | cons r' rr => cases rr; exact ⟨_, _, rfl, r, r'⟩
  obtain ⟨its, rv, p1, _⟩ := I1.tuple hqx
  obtain ⟨its2, rv2, p2, _⟩ := I1.list hqy
  have la : a < s1.heap.objs.size := by obtain ⟨o, e, _⟩ := id p1; exact Heap.lt_size e
  refine zip_begins2 (begins_tuple a its.toArray) (begins_list b its2.toArray) p1 p2.isList fun h' hz hTI hTO h1 h2 hsz hk => wpAny_pyIter_zip hz ?_
  have I2 : Inv X pins σ H1 { s1 with heap := h' } := I1.kept (t' := s1.toks) hk
  have D := PySem.W.ktu_apart s1.heap.objs.size a b la p2.lt
  refine ⟨s1.heap.objs.size + 4, [s1.heap.objs.size + 4, s1.heap.objs.size + 2, s1.heap.objs.size + 3, s1.heap.objs.size, s1.heap.objs.size + 1], _, _, H1, rfl, I2, turn_m D, ⟨hz, hTI, ⟨_, _, hTO⟩, ⟨_, h1, rfl, rfl⟩, ⟨_, h2, rfl, rfl⟩⟩, fun c hm => ?_, q⟩
  have le : s1.heap.objs.size ≤ c := by
    simp only [List.mem_cons, List.not_mem_nil, or_false] at hm
    rcases hm with rfl | rfl | rfl | rfl | rfl
    · exact Nat.le_add_right _ _
    · exact Nat.le_add_right _ _
    · exact Nat.le_add_right _ _
    · exact Nat.le_refl _
    · exact Nat.le_add_right _ _
  exact I1.fpOk le (I1.hok.fresh le)
theorem walk_m {K : PySem.W.Frag} {a b : Addr} {xs ys : List V} {n : Nat} (hn : n = min xs.length ys.length) : Walk (ItzM K a b) n (fun H => SqT K H a xs ∧ SqL K H b ys) (YPair (fun i => xs[i]?) (fun i => ys[i]?)) := by
  subst hn
  refine ⟨fun i H hi q => ?_, fun H q => ⟨xs, ys, q.1, q.2, rfl⟩, fun i H v H' hi q y => ?_⟩
  · exact ⟨xs, ys, _, _, q.1, q.2, List.getElem?_eq_getElem (by omega), List.getElem?_eq_getElem (by omega)⟩
  · obtain ⟨p, x, y, e1, e2, e3, e4, e5⟩ := y
    exact ⟨p, x, y, e1, e2, e3, e4 xs q.1, e5 ys q.2⟩
end ZM

/-! ### len of an object whose class has its own __len__; try with several clauses, named and not -/
namespace L2.MX
open PySem PySem.Spec PyProof.Rows
section
variable {X : Cx} {k : Nat} {C f : Addr} {fd : FuncData} {sp : Sp}
def rLenO (C : Addr) (sp : Sp) : List V → Hp → VK → Prop := fun xs H Q => ∃ (a dx : Addr) (fs : List (Str × V)), xs = [.ref a] ∧ H a = some (.ins C dx fs) ∧ sp [.ref a] H (fun v H2 => ∃ n : Int, v = .int n ∧ (0 ≤ n ∧ n < 2 ^ 63) ∧ Q (.int n) H2) (fun _ _ _ => False)
theorem call_lenO (F : FnOk X.prog X.w X.K X.mg X.base (fun _ _ _ _ _ _ => False) k f fd ["self"] sp) (hr : Room (k + 1) X.A) (hb : Binds X.K fd ["self"] []) (m : Meth X.K C "__len__" f) : CallR X (.builtin "len") (rLenO C sp) := by
  intro pins s σ H xs us Q I r h
  obtain ⟨a, dx, fs, rfl, ea, h⟩ := h
  have r' := r
  rw [Vals.ref1 r]
  obtain ⟨mA, O, _⟩ := ins_get I.hok ea
  obtain ⟨od, J, _⟩ := O.look
  obtain ⟨m', fr⟩ := I.fr
  refine PySem.W.len_K fr I.ok.mod.kin J m.at_ m.fn ?_
  have e0 : Env0 X.prog X.w X.K X.mg X.base X.A.in1 X.stack s H := ⟨I.env0.frames, I.env0.mod, I.env0.bs, I.env0.bsz, I.env0.funs, I.env0.frf, I.env0.hok, I.env0.bare⟩
  have rr : Vals [V.ref a] [Value.ref a] := .cons rfl .nil
  refine wpAny_call (codeAny_mono (F.run X.A.in1 X.stack s H ⟨[.ref a], []⟩ [.ref a] [.ref a] _ _ hr.in1 e0 (by have b := hb s [.ref a] I.kIn rfl; exact b) rr h) fun rs s' hq => ?_)
  cases rs with
  | error e => exact False.elim hq
  | ok fl =>
    cases fl with
    | ret u =>
      obtain ⟨v, H', I', rv, n, rfl, hn, q⟩ := I.after hq
      obtain ⟨t, rfl⟩ := rv
      exact ⟨hn, .int n, H', I'.tok _, ⟨_, rfl⟩, q⟩
    | next => exact False.elim hq
    | brk => exact False.elim hq
    | cont => exact False.elim hq
end
/-- what the suite may end with, its name unbound -/
def wEnds : Option Nat → Ends → Ends
  | none, D => D
  | some i, D => { nx := fun σ H => D.nx (σ.set i none) H, rt := D.rt, bk := fun σ H => D.bk (σ.set i none) H, ct := fun σ H => D.ct (σ.set i none) H }
def wSt : Option Nat → St → Addr → St
  | none, σ, _ => σ
  | some i, σ, a => σ.set i (some (.ref a))
abbrev Cl : Type := Value × Option Nat × (Addr → Value → Option Addr → TS)
def wMix (K : PySem.W.Frag) (Wout : WX) (D : Ends) : List Cl → WX
  | [] => Wout
  | (c, oi, ts) :: r => fun cls d σ H => ∃ b, PySem.W.exmOne K cls c = some b ∧ (b = true → ∀ a, H a = none → ts a cls d (wEnds oi D) (wSt oi σ a) H) ∧ (b = false → wMix K Wout D r cls d σ H)
inductive HdsM (X : Cx) : List ExceptHandler → List Cl → Prop
  | nil : HdsM X [] []
  | plain {x : Str} {c : Value} {ts : Addr → Value → Option Addr → TS} {b₀ : Stmt} {suite : List Stmt} {np pos' : Pos} {hds : List ExceptHandler} {l : List Cl} (hc : Names X x c)
      (hsu : ∀ (a : Addr) (oe : Obj) (cls : Value) (d : Option Addr) (pn : List (Addr × Obj)), Zc cls d oe → (∃ vs, oe.data = .fields vs) → PSs (X.suite a ((a, oe) :: pn)) (b₀ :: suite) (ts a cls d)) (r : HdsM X hds l) :
      HdsM X (.ExceptHandler (some (.Name x np)) none (b₀ :: suite) pos' :: hds) ((c, none, ts) :: l)
  | named {x n : Str} {c : Value} {i : Nat} {ts : Addr → Value → Option Addr → TS} {b₀ : Stmt} {suite : List Stmt} {np pos' : Pos} {hds : List ExceptHandler} {l : List Cl} (hN : X.N.Nodup) (hi : X.N[i]? = some n) (hln : X.env.kindOf n = some .local) (hc : Names X x c)
      (hsu : ∀ (a : Addr) (oe : Obj) (cls : Value) (d : Option Addr) (pn : List (Addr × Obj)), Zc cls d oe → (∃ vs, oe.data = .fields vs) → PSs (X.suite a ((a, oe) :: pn)) (b₀ :: suite) (ts a cls d)) (r : HdsM X hds l) :
      HdsM X (.ExceptHandler (some (.Name x np)) (some n) (b₀ :: suite) pos' :: hds) ((c, some i, ts) :: l)
section
variable {X : Cx} {body : List Stmt} {h₀ : ExceptHandler} {hds : List ExceptHandler} {l : List Cl} {pos : Pos} {tb : WX → TS} {Wout : WX}
theorem ps_try_mix (hs : X.stack = X.env :: X.outer) (hf : X.env.frame = some X.env.locals) (tk : Takes X Wout)
    (hb : ∀ (W : WX) (pn : List (Addr × Obj)) (xe : Value → Shared → Prop), Takes (X.tr pn xe) W → PassesOwn (model X.prog X.w) X.A X.env xe → PSs (X.tr pn xe) body (tb W))
    (hh : HdsM X (h₀ :: hds) l) : PS X (.Try body (h₀ :: hds) [] [] pos) (fun D σ H => tb (wMix X.K Wout D l) D σ H) := by
  refine ⟨fun pins s σ H D I h => ?_⟩
  have ok := I.ok
  have hfr : X.A.frames = some (X.env :: X.outer) := by rw [ok.frames, hs]
  refine wpAny_Try_except ?_
  refine wpAny_mono ((hb (wMix X.K Wout D l) (X.pn ++ pins) (fun e s₁ => wpAny (model X.prog X.w) X.A (noteFrame e X.env) (fun _ s₂ => wpAny (model X.prog X.w) X.A (setFlight e none) (fun _ s₃ =>
    wpAny (model X.prog X.w) X.A (handleBy e X.env (h₀ :: hds)) (SP X pins D) X.xe s₃) X.xe s₂) X.xe s₁) (fun u s' xx => ?_) PassesOwn.looking).run [] s σ H D (I.toTry _) h) (fun f s1 hsp => ?_) (fun e s1 he => he)
  · obtain ⟨a, B, sI, pins', σ', H', cls, d, rfl, J', nb, up, sky, na, os, ag, wi⟩ := xx
    have J : Inv X pins σ' H' sI := J'.ofTry ok
    have sky' : Sky B (X.env :: X.outer) a (Zc cls d) X.env.locals s'.heap := by rw [← hs]; exact sky
    show wpAny (model X.prog X.w) X.A (noteFrame (.ref a) X.env) _ _ _
    refine Sky.land Zc.steady hfr hf sky' fun h3 fl3 up3 => ?_
    have J3 : Inv X pins σ' H' { s' with heap := h3 } := J.landed nb fl3.1 (up.trans up3) os ag
    obtain ⟨oe3, vs3, he3, hz3, hd3⟩ := fl3.there
    have notFr : ∀ {h : Heap} {o : Obj} {vs : Array Value}, h.FunFrames B (X.env :: X.outer) → h.get? a = some o → o.data = .fields vs → a ∉ frs (X.env :: X.outer) := fun {h o vs} ff e dd hm => by
      obtain ⟨_, o', e', hnf⟩ := ff.mem hm
      rw [e] at e'; cases e'
      exact hnf _ dd
    have nfr := notFr fl3.2.2.1 he3 hd3
    have nL : a ≠ X.env.locals := fun z => nfr (List.mem_filterMap.mpr ⟨X.env, List.mem_cons_self, by rw [hf, z]⟩)
    have nF : a ∉ X.fs := fun hm => by
      obtain ⟨e, he, q⟩ := List.mem_filterMap.mp hm
      exact nfr (List.mem_filterMap.mpr ⟨e, List.mem_cons_of_mem _ he, q⟩)
    have S3 := J3.suite he3 hd3 na nL nF
    have LT : PySem.W.Looks (model X.prog X.w) h3 (typeOf (.ref a)) cls := fun A Q E s k q => wpAny_typeOf_ref (k _ _ he3) (by rw [hz3.1]; exact q)
    have test : ∀ {x : Str} {c : Value} {np : Pos} {Q : Value → Shared → Prop} {E : Value → Shared → Prop}, Names X x c → Q c { s' with heap := h3 } → wpAny (model X.prog X.w) (X.A.mark (some (.ref a))) (eval (.Name x np) X.env) Q E { s' with heap := h3 } := fun {x c np Q E} hc q => by
      obtain ⟨hg, hdbg, hm | ⟨hm, hv, hnn⟩⟩ := hc
      · exact ld_glob (X := X.suite a ((a, oe3) :: (X.pn ++ pins))) S3 hg hm q hdbg
      · exact ld_blt (X := X.suite a ((a, oe3) :: (X.pn ++ pins))) S3 hg hm hv q hnn hdbg
    have go : ∀ {hds' : List ExceptHandler} {l' : List Cl}, HdsM X hds' l' → wMix X.K Wout D l' cls d σ' H' →
        wpAny (model X.prog X.w) X.A (handleBy (.ref a) X.env hds') (SP X pins D) X.xe { s' with heap := h3 } := by
      intro hds' l' hk
      induction hk with
      | nil =>
        intro wi
        refine wpAny_handleBy_nil ?_
        obtain ⟨k1, k2, k3, oe, vs, T, oT, ts', he, hz, hd, h1, hr⟩ := id fl3
        unfold PySem.passOn
        refine wpAny_bind (wpAny_field he hd h1 ?_)
        rw [if_neg (show ¬ ((Value.ref T == Value.none) = true) from by simp)]
        have fin : wpAny (model X.prog X.w) X.A (setFlight (.ref a) X.env.frame) (fun _ s4 => wpAny (model X.prog X.w) X.A (throw (.ref a) : Sem Flow) (SP X pins D) X.xe s4) X.xe { s' with heap := h3 } := by
          rw [hf]
          refine HandSPX.setFlight_upZ fl3 fun h4 hh4 up4 => wpAny_throw (tk _ _ ?_)
          exact ⟨a, B, sI, pins, σ', H', cls, d, rfl, J, nb, (up.trans up3).trans up4, .inr (.inr (by rw [hs]; exact hh4)), na, os, ag, wi⟩
        first
          | exact wpAny_bind (wpAny_pure (wpAny_bind fin))
          | exact wpAny_bind fin
      | @plain x c ts b₀ suite np pos' hds2 l2 hc hsu r ih =>
        intro wi
        obtain ⟨b, hb1, hyes, hno⟩ := wi
        refine wpAny_handleBy_cons (codeAny_handlers_test ?_) (by intro q; cases q)
        refine test hc ((PySem.W.exm_one (M := model X.prog X.w) (J3.kIn) LT hb1).here ?_)
        cases b with
        | true =>
          refine codeAny_handlers_suite ?_
          refine HandSPX.lands_againZ fl3 fun h4 fl4 up4 => ?_
          have J4 : Inv X pins σ' H' { s' with heap := h4 } := J.landed nb fl4.1 ((up.trans up3).trans up4) os ag
          obtain ⟨oe4, vs4, he4, hz4, hd4⟩ := fl4.there
          have S4 := J4.suite he4 hd4 na nL nF
          refine wpAny_mono ((hsu a oe4 cls d (X.pn ++ pins) hz4 ⟨_, hd4⟩).run [] _ _ H' _ S4 (hyes rfl a na)) (fun f s6 hsp => ?_) (fun _ _ z => False.elim z)
          cases f with
          | next =>
            obtain ⟨σ6, H6, S6, q6⟩ := hsp
            exact ⟨_, _, S6.unsuite ok, q6⟩
          | brk =>
            obtain ⟨σ6, H6, S6, q6⟩ := hsp
            exact ⟨_, _, S6.unsuite ok, q6⟩
          | cont =>
            obtain ⟨σ6, H6, S6, q6⟩ := hsp
            exact ⟨_, _, S6.unsuite ok, q6⟩
          | ret u =>
            obtain ⟨v6, σ6, H6, S6, r6, q6⟩ := hsp
            exact ⟨_, _, _, S6.unsuite ok, r6, q6⟩
        | false =>
          show wpAny _ X.A (handleBy (.ref a) X.env hds2) _ _ _
          exact ih (hno rfl)
      | @named x n c i ts b₀ suite np pos' hds2 l2 hN hi hln hc hsu r ih =>
        intro wi
        obtain ⟨b, hb1, hyes, hno⟩ := wi
        refine wpAny_handleBy_cons (codeAny_handlers_test ?_) (by intro q; cases q)
        refine test hc ((PySem.W.exm_one (M := model X.prog X.w) (J3.kIn) LT hb1).here ?_)
        cases b with
        | true =>
          refine codeAny_handlers_suite_as ?_
          refine HandSPX.lands_againZ fl3 fun h4 fl4 up4 => ?_
          have J4 : Inv X pins σ' H' { s' with heap := h4 } := J.landed nb fl4.1 ((up.trans up3).trans up4) os ag
          obtain ⟨oe4, vs4, he4, hz4, hd4⟩ := fl4.there
          have S4 := J4.suite he4 hd4 na nL nF
          refine store_ok (X := X.suite a ((a, oe4) :: (X.pn ++ pins))) (v := .ref a) S4 hN hi (.inl hln) rfl (fun s5 S5 => ?_) (.inr hln)
          refine wpAny_mono ((hsu a oe4 cls d (X.pn ++ pins) hz4 ⟨_, hd4⟩).run [] s5 _ H' _ S5 (hyes rfl a na)) (fun f s6 hsp => ?_) (fun _ _ z => False.elim z)
          have end_ : ∀ {σ6 : St} {H6 : Hp} {Q : Shared → Prop}, Inv (X.suite a ((a, oe4) :: (X.pn ++ pins))) [] σ6 H6 s6 → (∀ s7, Inv X pins (σ6.set i none) H6 s7 → Q s7) →
              wpAny (model X.prog X.w) X.A (do bindName X.env n .none; unbindBehindTheSuite X.env n pos') (fun _ s7 => Q s7) X.xe s6 := fun {σ6 H6 Q} S6 hq => gone_ok (S6.unsuite ok) hN hi hln hq
          cases f with
          | next =>
            obtain ⟨σ6, H6, S6, q6⟩ := hsp
            exact end_ S6 fun s7 J7 => ⟨_, _, J7, q6⟩
          | brk =>
            obtain ⟨σ6, H6, S6, q6⟩ := hsp
            exact end_ S6 fun s7 J7 => ⟨_, _, J7, q6⟩
          | cont =>
            obtain ⟨σ6, H6, S6, q6⟩ := hsp
            exact end_ S6 fun s7 J7 => ⟨_, _, J7, q6⟩
          | ret u =>
            obtain ⟨v6, σ6, H6, S6, r6, q6⟩ := hsp
            exact end_ S6 fun s7 J7 => ⟨_, _, _, J7, r6, q6⟩
        | false =>
          show wpAny _ X.A (handleBy (.ref a) X.env hds2) _ _ _
          exact ih (hno rfl)
    exact go hh wi
  · cases f with
    | next =>
      obtain ⟨σ', H', J', q⟩ := hsp
      exact wpAny_execs_nil ⟨σ', H', J'.ofTry ok, q⟩
    | brk =>
      obtain ⟨σ', H', J', q⟩ := hsp
      exact ⟨σ', H', J'.ofTry ok, q⟩
    | cont =>
      obtain ⟨σ', H', J', q⟩ := hsp
      exact ⟨σ', H', J'.ofTry ok, q⟩
    | ret u =>
      obtain ⟨v, σ', H', J', r, q⟩ := hsp
      exact ⟨v, σ', H', J'.ofTry ok, r, q⟩
end
/-! ### a method, a class called in a try's body: what is let out is told with the slots -/
def tMethE (C : Addr) (m : Str) (sp : Sp) (dvs : List V) (E : St → XK) (ta : TE) (t : TA) : TE := fun σ H Q => ta σ H fun x H1 => ∃ a dx fs, x = .ref a ∧ H1 a = some (.ins C dx fs) ∧ fs.lookup m = none ∧ t σ H1 fun vs H2 => sp (.ref a :: (vs ++ dvs)) H2 Q (E σ)
section
variable {X : Cx} {CX : CXT} {k : Nat} {f C : Addr} {fd : FuncData} {ps : List Str} {sp : Sp} {dvs : List V} {ds : List Value} {E : St → XK} {x m : Str} {p pos apos : Pos} {e o : Expr} {es : List Expr} {ta : TE} {t : TA}
theorem pe_methE {pl : Sem Bool} (he : PE X o ta) (c : Cls X.K C) (hm : Meth X.K C m f) (F : FnOk X.prog X.w X.K X.mg X.base CX k f fd ps sp) (hr : Room k X.A) (hb : Binds X.K fd ps ds) (hd : Vals dvs ds) (hx : ∀ σ, PassesAt CX X σ (E σ)) (ha : PA X (e :: es) t)
    (hst : starEach (e :: es) X.env = (false, eval e X.env) :: starEach es X.env := by rfl) (hpl : (backTo pos (starEach es X.env)).any (·.1) = false := by rfl)
    (ht : eval (.Call (.Attribute o m apos) (e :: es) [] pos) X.env = (do
      let ov ← eval o X.env
      standAt apos.atName
      let (f, first) ← holding [ov] (getMethod ov m pl)
      callWith pos f first (backTo pos (starEach (e :: es) X.env)) (backToKw pos (keywordEach [] X.env))) := by rfl) :
    PE X (.Call (.Attribute o m apos) (e :: es) [] pos) (tMethE C m sp dvs E ta t) := by
  refine ⟨fun pins s σ H Q I h => ?_⟩
  refine PySem.W.methodCall_KW (pl := pl) (thn (he.run pins s σ H _ I h) fun u s1 ⟨x, H1, I1, rx, a, dx, fs, ex, ea, l, q⟩ => ?_) ht
  subst ex
  obtain rfl : u = Value.ref a := rx
  refine getmeth_ok I1 ea c hm l ?_
  refine PySem.W.callWith_K (first := [.ref a]) (h₀ := X.base) I.ok.mod.kin hm.kp (thn (ha.run pos pins s1 σ H1 _ I1 q) fun us s2 ⟨vs, H2, I2, r, q2⟩ => ⟨I2.kIn, ?_⟩) hst hpl
  exact run_fnSD (us := .ref a :: us) (vs := .ref a :: vs) F hr hb hd (hx σ) I2 (.cons rfl r) q2
/-- C(k = v, ..) -/
def tMakeE (C : Addr) (n m : Nat) (sp : Sp) (gV : List V → List V → List V) (E : St → XK) (t tk : TA) : TE := fun σ H Q => t σ H fun vs H1 => tk σ H1 fun zs H2 => vs.length = n ∧ zs.length = m ∧ ∀ x dx, H2 x = none → H2 dx = none → dx ≠ x →
  sp (gV (.ref x :: vs) zs) (upd (upd H2 dx (.own x)) x (.ins C dx [])) (fun v H3 => v = .non ∧ Q (.ref x) H3) (E σ)
variable {n : Nat} {ks : List Str} {kws : List Keyword} {tk : TA} {g : List Value → List Value → List Value} {gV : List V → List V → List V}
theorem pe_makeE0 (M : Mk X.K C f) (F : FnOk X.prog X.w X.K X.mg X.base CX k f fd ps sp) (hr : Room (k + 1) X.A) (hg : Gl X x) (hm : X.mg x = some (.ref C)) (hb : KBn X.K fd ps 1 ks g gV) (hx : ∀ σ, PassesAt CX X σ (E σ)) (hkw : PK X kws tk)
    (hall : (backToKw pos (keywordEach kws X.env)).all (·.1.isSome) = true := by rfl) (hks : (backToKw pos (keywordEach kws X.env)).filterMap (·.1) = ks := by rfl) (hdb : (x == ("__debug__" : Str)) = false := by decide)
    (hpl : ((backTo pos (starEach [] X.env)).any (·.1) || (backToKw pos (keywordEach kws X.env)).any (·.1.isNone)) = false := by rfl) :
    PE X (.Call (.Name x p) [] kws pos) (tMakeE C 0 ks.length sp gV E tNil tk) := by
  refine ⟨fun pins s σ H Q I h => ?_⟩
  refine wpAny_Call_Name_kw (ld_glob I hg hm ?_ hdb)
  refine PySem.W.callWith_KW0 (h₀ := X.base) I.ok.mod.kin M.kp hall ?_ hpl
  refine thn (hkw.run pos pins s σ H _ I h) fun ws s2 ⟨zs, H2, I2, rz, l1, l2, q2⟩ => ⟨I2.kIn, ?_⟩
  rw [hks]
  have hq := q2 (s2.heap.objs.size + 1) s2.heap.objs.size (I2.hok.fresh (Nat.le_succ _)) (I2.hok.fresh (Nat.le_refl _)) (Nat.ne_of_lt (Nat.lt_succ_self _))
  have I3 := Inv.made (C := C) I2
  have r1 : Vals [V.ref (s2.heap.objs.size + 1)] [Value.ref (s2.heap.objs.size + 1)] := .cons rfl .nil
  have r2 := hb.rel r1 rz
  refine wpAny_call (make_map (f := f) I2.kIn M.makes M.init (beq_iff_eq.mp M.fn) (codeAny_mono (F.run _ X.stack _ _ ⟨[Value.ref (s2.heap.objs.size + 1)], ks.zip ws⟩ (g [Value.ref (s2.heap.objs.size + 1)] ws) _ _ (E σ) (hr.make C [] (ks.zip ws))
    (I3.env0.make C [] (ks.zip ws)) (hb.to _ [Value.ref (s2.heap.objs.size + 1)] ws I3.kIn rfl (rz.length.symm.trans l2)) r2 hq) fun r s' hq' => ?_))
  cases r with
  | error e => exact hx σ pins _ _ e s' I3 hq'
  | ok fl =>
    cases fl with
    | ret u =>
      obtain ⟨v, H', I4, rv, ev, q3⟩ := I3.after hq'
      subst ev
      exact ⟨rv, ⟨V.ref (s2.heap.objs.size + 1), H', I4, rfl, q3⟩⟩
    | next => exact False.elim hq'
    | brk => exact False.elim hq'
    | cont => exact False.elim hq'
end
end L2.MX

/-! ### promises that know that no repr is under way; repr of data within them -/
namespace L2.GD
open PySem PySem.Spec PyProof.Rows
abbrev C0 : CXT := fun _ _ _ _ _ _ => False
structure FnOkG (P : Program) (w : World) (K : PySem.W.Frag) (mg : Str → Option Value) (base : Heap) (k : Nat) (f : Addr) (fd : FuncData) (ps : List Str) (sp : Sp) : Prop where
  len : ∀ vs H Q E, sp vs H Q E → vs.length = ps.length
  run : ∀ (A : Around) (outer : List Env) (s : Shared) (H : Hp) (args : Args) (us : List Value) (vs : List V) (Q : VK) (E : XK), A.guards = some [] → Room k A → Env0 P w K mg base A outer s H → BindsTo s fd args (ps.zip us) → Vals vs us → sp vs H Q E →
    codeAny (model P w) A (.call (.ref f) args) (CR C0 outer P w H s Q E) s
section
variable {P : Program} {w : World} {K : PySem.W.Frag} {mg : Str → Option Value} {base : Heap}
/-- the body is walked in a room free of reprs -/
theorem okG {x qual : Str} {st : Stmt} {f : Addr} {fd : FuncData} {N ps : List Str} {k : Nat} {sp : Sp} (F : Fun K x qual st f fd) (S : FnScope N ps (defScope st)) (len : ∀ vs H Q E, sp vs H Q E → vs.length = ps.length)
    (hbody : ∀ (cdv : Value) (A : Around) (outer : List Env) (s : Shared) (H : Hp) (vs : List V) (Q : VK) (E : XK), A.guards = some [] → Room k (A.deeper (envOfC qual (defScope st) s.heap.objs.size f cdv)) → sp vs H Q E →
      ∃ t, PSs (cxOf C0 P w K mg base N qual (defScope st) f cdv A outer s H E).nox (defBody st) t ∧ t { nx := fun _ H' => Q .non H', rt := Q } (start N vs) H) : FnOkG P w K mg base (k + 1) f fd ps sp := by
  obtain ⟨oc, od, kV, doc, pm, an, cdv, ct, osl, rfl, lk, hcd⟩ := F.ex
  refine ⟨len, fun A outer s H args us vs Q E hg hr e0 hb r hsp => ?_⟩
  have hl := len _ _ _ _ hsp
  have KX : K.In s.heap := e0.mod.kin.keeps fun b o e => (e0.bs b o e).1
  have lim : s.heap.NoLimit := e0.mod.nolimit.keeps fun b o e => (e0.bs b o e).1
  have hkind : ∀ y ∈ ps.zip us, (defScope st).names.lookup y.1 = some .local ∨ ((defScope st).names.lookup y.1 = some .cell ∧ ((cellsFrom (s.heap.objs.size + 1) (defScope st).names []).lookup y.1).isSome = true) := fun y hy => by
    rcases S.par y.1 (List.of_mem_zip (a := y.1) (b := y.2) hy).1 with q | q
    · exact .inl q
    · exact .inr ⟨q, PySem.W.cellsFrom_some _ _ _ (.inl q)⟩
  refine codeAny_call_function hr.depth (KX _ _ lk) rfl S.co S.gen rfl (PySem.W.codeRec_of KX hcd) (hb _ _ _ _ ?_)
  refine wpAny_newFunctionEnv_cells S.kind hkind fun env he s1 x => ?_
  subst he
  refine ⟨lim.keeps x.toInCall.keep, codeAny_func ?_⟩
  obtain ⟨t, ht, hq⟩ := hbody cdv A outer s H vs Q E hg (hr.deeper _) hsp
  have I := inv_start (CX := C0) (P := P) (w := w) (mg := mg) (qual := qual) (f := f) (cd := cdv) (A := A) (E := E) S hr.hd e0 hl r x
  refine wpAny_mono (ht.nox.run [] s1 (start N vs) H _ I hq) (fun fl s' hs => ?_) fun e s' hs => hs
  have fin : ∀ {σ' : St} {H' : Hp} {v : V} {u : Value}, Inv (cxOf C0 P w K mg base N qual (defScope st) f cdv A outer s H E) [] σ' H' s' → RelV v u → Q v H' → CE outer P w H s Q u s' :=
    fun {σ' H' v u} J rv q => ⟨v, H', J.os, J.bare, J.base, J.hok, rv, q⟩
  cases fl with
  | ret u =>
    obtain ⟨v, σ', H', J, rv, q⟩ := hs
    exact fin J rv q
  | next =>
    obtain ⟨σ', H', J, q⟩ := hs
    exact fin (v := V.non) (u := Value.none) J rfl q
  | brk =>
    obtain ⟨_, _, _, q⟩ := hs
    exact False.elim q
  | cont =>
    obtain ⟨_, _, _, q⟩ := hs
    exact False.elim q
end
section
variable {X : Cx} {k : Nat} {f : Addr} {fd : FuncData} {ps : List Str} {sp : Sp} {dvs : List V} {ds : List Value} {x : Str} {p pos : Pos} {e : Expr} {es : List Expr} {t : TA}
/-- such a def is called where no repr is under way -/
theorem pe_callG (hgd : X.A.guards = some []) (F : FnOkG X.prog X.w X.K X.mg X.base k f fd ps sp) (hr : Room k X.A) (hg : Gl X x) (hm : X.mg x = some (.ref f)) (hk : PySem.W.keepIn X.K (.ref f) = true) (hb : Binds X.K fd ps ds) (hd : Vals dvs ds)
    (ha : PA X (e :: es) t) (hdb : (x == ("__debug__" : Str)) = false := by decide) (he : starEach (e :: es) X.env = (false, eval e X.env) :: starEach es X.env := by rfl) (hpl : (backTo pos (starEach es X.env)).any (·.1) = false := by rfl) :
    PE X (.Call (.Name x p) (e :: es) [] pos) (tCall sp dvs (fun _ _ _ => False) t) := by
  refine ⟨fun pins s σ H Q I h => ?_⟩
  refine wpAny_Call_Name_kw (ld_glob I hg hm ?_ hdb)
  refine PySem.W.callWith_K (h₀ := X.base) I.ok.mod.kin hk (thn (ha.run pos pins s σ H _ I h) fun us s2 ⟨vs, H2, I2, r, q⟩ => ⟨I2.kIn, ?_⟩) he hpl
  have r2 : Vals (vs ++ dvs) (us ++ ds) := r.append hd
  have hl : (us ++ ds).length = ps.length := by rw [← r2.length]; exact F.len _ _ _ _ q
  refine wpAny_call (codeAny_mono (F.run X.A X.stack s2 H2 ⟨us, []⟩ (us ++ ds) (vs ++ dvs) Q _ hgd hr I2.env0 (hb s2 us I2.kIn hl) r2 q) fun rs s' hq => ?_)
  cases rs with
  | error e => exact False.elim hq
  | ok fl =>
    cases fl with
    | ret u => exact I2.after hq
    | next => exact False.elim hq
    | brk => exact False.elim hq
    | cont => exact False.elim hq
/-- repr of data -/
def rReprD (K : PySem.W.Frag) : List V → Hp → VK → Prop := fun xs H Q => ∃ (x : V) (d : PyData), xs = [x] ∧ Dp K H x d ∧ d.showable = true ∧ d.hasDict = false ∧ d.depth ≤ 60 ∧ d.shown.length ≤ 1000000 ∧ Q (.str d.shown) H
theorem call_reprD (hgd : X.A.guards = some []) (hu : X.A.units + 64 < cLine) : CallR X (.builtin "repr") (rReprD X.K) := by
  intro pins s σ H xs us Q I r h
  obtain ⟨x, d, rfl, hd, hs, hn, hdp, hz, q⟩ := h
  obtain ⟨u, rfl, rx⟩ := vals1 r
  have hsz : d.shown.length ≤ sizeLine := Nat.le_trans hz (by rw [sizeLine_eq]; decide)
  cases hd with
  | non =>
    obtain rfl : u = Value.none := rx
    exact PySem.P.repr_of_none ⟨.str _, H, I.tok _, ⟨_, rfl⟩, q⟩
  | bl b =>
    obtain rfl : u = Value.bool b := rx
    exact PySem.P.repr_of_bool ⟨.str _, H, I.tok _, ⟨_, rfl⟩, q⟩
  | int i =>
    obtain ⟨t, rfl⟩ := rx
    exact PySem.P.repr_of_int (by simpa [PyData.showable] using hs) ⟨.str _, H, I.tok _, ⟨_, rfl⟩, q⟩
  | str z =>
    obtain ⟨t, rfl⟩ := rx
    exact PySem.P.repr_of_str (hsz := hsz) ⟨.str _, H, I.tok _, ⟨_, rfl⟩, q⟩
  | lst h1 h2 =>
    rename_i a ys es
    obtain rfl : u = Value.ref a := rx
    obtain ⟨as, rd⟩ := Dp.reads I _ _ _ (Dp.lst h1 h2) (show RelV (V.ref a) (Value.ref a) from rfl)
    refine repr_of_reads' rd hs (fun e => by rw [hn] at e; cases e) hgd (by omega) (fun _ _ e => e) (fun h' u' tk hk => ?_) hsz
    exact ⟨.str _, H, I.kept (t' := tk) hk, ⟨_, rfl⟩, q⟩
  | tup h1 h2 =>
    rename_i a ys es
    obtain rfl : u = Value.ref a := rx
    obtain ⟨as, rd⟩ := Dp.reads I _ _ _ (Dp.tup h1 h2) (show RelV (V.ref a) (Value.ref a) from rfl)
    refine repr_of_reads' rd hs (fun e => by rw [hn] at e; cases e) hgd (by omega) (fun _ _ e => e) (fun h' u' tk hk => ?_) hsz
    exact ⟨.str _, H, I.kept (t' := tk) hk, ⟨_, rfl⟩, q⟩
end
/-- the law's promise, at the heap behind the top: where it is called no repr is under way -/
theorem law_callG {P : Program} {w : World} {K : PySem.W.Frag} {mg mb : Str → Option Value} {k : Nat} {fa a : Addr} {fd : FuncData} {x : Str} {sp : Sp} {s₁ : Shared} {vs : List Value} {ns : List Int}
    (KX : K.In s₁.heap) (hns : s₁.heap.Ns mainGlobals mg) (hb : s₁.heap.Ns builtinsNs mb) (hbb : ∀ x : Str, x ≠ "__name__" → mb x = bootBuiltins x) (hlim : s₁.heap.NoLimit) (hg : s₁.gens = #[])
    (ha : s₁.heap.get? a = some { cls := .type "list", data := .seq vs.toArray }) (hi : IntsAre vs ns) (hl : ns.length ≤ sizeLine) (hr : Room k callerA)
    (F : ∀ base : Heap, K.In base → base.Ns mainGlobals mg → FnOkG P w K mg base k fa fd [x] sp) (hbind : ∀ (s : Shared) (u : Value), BindsTo s fd ⟨[u], []⟩ [(x, u)])
    (hsp : ∀ H : Hp, Only H → SqL K H a (ns.map V.int) → sp [.ref a] H (fun v _ => v = .bl true) fun _ _ _ => False) :
    codeAny (model P w) callerA (.call (.ref fa) ⟨[.ref a], []⟩) (fun r s' => r = .ok (.ret (.bool true)) ∧ OldK s₁.heap s'.heap ∧ s'.os = s₁.os ∧ AllBare s'.gens) s₁ := by
  have rv := vals_ints hi
  have core : ∀ H : Hp, Only H → SqL K H a (ns.map V.int) → HOk P w H s₁.heap → (∀ b, H b ≠ none → b = a) → (H a ≠ none → K.lookup a = none) →
      codeAny (model P w) callerA (.call (.ref fa) ⟨[.ref a], []⟩) (fun r s' => r = .ok (.ret (.bool true)) ∧ OldK s₁.heap s'.heap ∧ s'.os = s₁.os ∧ AllBare s'.gens) s₁ := by
    intro H hO hS hok hA hK
    -- no dict is tracked, nothing of the module's is
    have free : ∀ {b : Addr} {o : Obj}, s₁.heap.get? b = some o → ((∃ es ep, o.data = .dict es ep) ∨ K.lookup b = some o) → H b = none := fun {b o} e z => by
      cases q : H b with
      | none => rfl
      | some u =>
        have e' : b = a := hA b (by rw [q]; simp)
        subst e'
        rcases z with ⟨es, ep, d⟩ | z
        · rw [ha] at e; cases e; cases (show Data.seq vs.toArray _ = Data.dict es ep from d)
        · rw [hK (by rw [q]; simp)] at z; cases z
    have ns_ : ∀ {b : Addr} {m : Str → Option Value}, s₁.heap.Ns b m → (hidT s₁.heap H).Ns b m := fun {b m} ⟨o, es, ep, e, d, r⟩ => ⟨o, es, ep, hidT_get e (free e (.inl ⟨es, ep, d⟩)), d, r⟩
    have hKb : K.In (hidT s₁.heap H) := fun b o e => hidT_get (KX b o e) (free (KX b o e) (.inr e))
    obtain ⟨mc, l1, l2⟩ := hlim
    have hM : Mod K mg (hidT s₁.heap H) := ⟨hKb, ns_ hns, ⟨mb, ns_ hb, hbb⟩, mc, ns_ l1, l2⟩
    have e0 : Env0 P w K mg (hidT s₁.heap H) callerA [] s₁ H := ⟨rfl, hM, fun b o e => of_hidT e, Nat.le_of_eq (hidT_size _ _), trivial, fun b hb => absurd (show b ∈ ([] : List Addr) from hb) (by simp), hok, .of_eq hg⟩
    refine codeAny_mono ((F _ hKb (ns_ hns)).run callerA [] s₁ H ⟨[.ref a], []⟩ [.ref a] [.ref a] _ _ rfl hr e0 (hbind s₁ (.ref a)) (.cons rfl .nil) (hsp H hO hS)) fun r s' h => ?_
    cases r with
    | error e => exact False.elim h
    | ok fl =>
      cases fl with
      | next => exact False.elim h
      | brk => exact False.elim h
      | cont => exact False.elim h
      | ret u =>
        obtain ⟨v, H', os, bare, un, hok', r', q⟩ := h
        have q' : v = .bl true := q
        subst q'
        obtain rfl : u = Value.bool true := r'
        refine ⟨rfl, OldK.of_keep fun b o e => ?_, os, bare⟩
        rcases hO b with z | ⟨ob, xs, z⟩
        · exact un.keep b o e z (by intro z; exact absurd (show b ∈ ([] : List Addr) from z) (by simp)) (by simp)
        · obtain ⟨e1, _⟩ := hok b _ z
          obtain ⟨e2, _⟩ := hok' b _ (un.frzs b ob _ z)
          rw [e] at e1; cases e1
          exact e2
  cases hk : K.lookup a with
  | some o =>
    have e := KX a o hk
    rw [ha] at e
    cases e
    refine core (fun _ => none) (fun _ => .inl rfl) (.inr ⟨_, vs.toArray, _, hk, rfl, rfl, rfl, by rw [List.size_toArray, hi.length]; exact hl, by simpa using rv⟩) (fun b u z => by cases (show (none : Option HO) = some u from z)) (fun b z => absurd rfl z) fun z => absurd rfl z
  | none =>
    refine core (fun b => if b = a then some (.frz { cls := .type "list", data := .seq vs.toArray } (.lst (ns.map V.int))) else none) (fun b => ?_) (.inl (.inr ⟨{ cls := .type "list", data := .seq vs.toArray }, if_pos rfl⟩)) (fun b u z => ?_) (fun b z => ?_) fun _ => hk
    · by_cases hb : b = a
      · exact .inr ⟨_, _, if_pos hb⟩
      · exact .inl (if_neg hb)
    · by_cases hb : b = a
      · cases (if_pos hb).symm.trans z
        subst hb
        exact ⟨ha, by rw [List.length_map]; exact hl, vs, _, rv, ha⟩
      · cases (if_neg hb).symm.trans z
    · by_cases hb : b = a
      · exact hb
      · exact absurd (if_neg hb) z
theorem walk_ofG {l : PySem.W.OpenLaw} {n k : Nat} {q : Program} {loose : List Str} {XP : (Str → Option Value) → Heap → Prop} {YP : World → Heap → Prop} {d : DefRec} {K : Params → PySem.W.Frag} {sp : World → Sp} {x : Str}
    (hn : l.most = some n) (hn2 : n ≤ sizeLine) (hdf : d.params.defaults = []) (hr : Room k callerA)
    (hY : ∀ (w : World) (h : Heap), YP w h → (K w.params).In h)
    (F : ∀ (w : World) (mg : Str → Option Value) (fa : Addr) (h : Heap), (K w.params).In h → h.Ns mainGlobals mg → mg d.name = some (.ref fa) →
      ∃ fd : FuncData, (∀ (s : Shared) (u : Value), BindsTo s fd ⟨[u], []⟩ [(x, u)]) ∧ ∀ base : Heap, (K w.params).In base → base.Ns mainGlobals mg → FnOkG l.prog w (K w.params) mg base k fa fd [x] (sp w))
    (hsp : ∀ (w : World) (H : Hp) (a : Addr) (ns : List Int), ns.length ≤ n → Only H → SqL (K w.params) H a (ns.map V.int) → sp w [.ref a] H (fun v _ => v = .bl true) fun _ _ _ => False) :
    PySem.W.WalkO q loose XP YP l.row.toRowW d [] (fun f vs => PySem.call f vs) := by
  refine Att.attach_call hn hdf fun w s₀ s₁ mg mb fa o pm cd doc a vs ns G Y ho hd hcd hmg hobj hints hlen hg => ?_
  have KX := hY w _ Y
  obtain ⟨fd, hb, hF⟩ := F w mg fa _ KX G.T.g hmg
  exact law_callG KX G.T.g G.T.b G.T.builtins G.T.nolimit hg hobj hints (Nat.le_trans hlen hn2) hr hF hb (fun H hO hS => hsp w H a ns hlen hO hS)
end L2.GD

/-! ## values without addresses: data that never change again, beside few objects that do -/
namespace L2.VW
open PySem PySem.Spec PyProof.Rows
/-- a value: data in full, or the address of an object that may still change -/
inductive D where
  | non | bl (b : Bool) | int (i : Int) | str (z : Str) | byt (b : Array UInt8) | flt (b : UInt64) | ref (a : Addr) | ty (n : String)
  | lst (xs : List D) | tup (xs : List D) | dK (kvs : List (Key × D)) | dT (kvs : List (List Key × D)) | ins (C : Addr) (fs : List (Str × D)) | seq (xs : List D)
def toD : V → D
  | .non => .non | .bl b => .bl b | .int i => .int i | .str z => .str z | .byt b => .byt b | .flt b => .flt b | .ref a => .ref a | .ty n => .ty n
/-- what stands at the address of an object that may change -/
inductive HD where
  | lst (xs : List D) | dK (kvs : List (Key × D)) | dT (kvs : List (List Key × D)) | ins (C : Addr) (fs : List (Str × D))
  | frK (o : Obj) (kvs : List (Key × V)) (kds : List (Key × D))
  | tpN (ds : List D)
abbrev Sto := Addr → Option HD
def sup (S : Sto) (a : Addr) (o : HD) : Sto := fun b => if b = a then some o else S b
def sdel (S : Sto) (a : Addr) : Sto := fun b => if b = a then none else S b
section
variable {S : Sto} {a b : Addr} {o u : HD}
theorem sup_same : sup S a o a = some o := by unfold sup; rw [if_pos rfl]
theorem sup_ne (h : b ≠ a) : sup S a o b = S b := by unfold sup; rw [if_neg h]
theorem sup_sup : sup (sup S a o) a u = sup S a u := by funext b; unfold sup; split <;> rfl
theorem sdel_same : sdel S a a = none := by unfold sdel; rw [if_pos rfl]
theorem sdel_ne (h : b ≠ a) : sdel S a b = S b := by unfold sdel; rw [if_neg h]
theorem sdel_sup (h : S a = none) : sdel (sup S a o) a = S := by
  funext b; unfold sdel sup
  by_cases e : b = a
  · rw [if_pos e, e, h]
  · rw [if_neg e, if_neg e]
theorem sup_self (h : S a = some o) : sup S a o = S := by
  funext b; unfold sup
  by_cases e : b = a
  · rw [if_pos e, e, h]
  · rw [if_neg e]
theorem sne_of (h : S a = some o) (h' : S b = none) : a ≠ b := fun e => by rw [e, h'] at h; cases h
end
mutual
inductive Vd (K : PySem.W.Frag) (F : Hp) : V → D → Prop
  | non : Vd K F .non .non
  | bl (b : Bool) : Vd K F (.bl b) (.bl b)
  | int (i : Int) : Vd K F (.int i) (.int i)
  | str (z : Str) : Vd K F (.str z) (.str z)
  | byt (b : Array UInt8) : Vd K F (.byt b) (.byt b)
  | flt (b : UInt64) : Vd K F (.flt b) (.flt b)
  | ref (a : Addr) : Vd K F (.ref a) (.ref a)
  | ty (n : String) : Vd K F (.ty n) (.ty n)
  | lst {a : Addr} {xs : List V} {ds : List D} : F a = some (.lst xs) → VdAll K F xs ds → Vd K F (.ref a) (.lst ds)
  | seq {a : Addr} {xs : List V} {ds : List D} : SqL K F a xs → VdAll K F xs ds → Vd K F (.ref a) (.seq ds)
  | tup {a : Addr} {xs : List V} {ds : List D} : F a = some (.tup xs) → VdAll K F xs ds → Vd K F (.ref a) (.tup ds)
  | dK {a : Addr} {o : Obj} {kvs : List (Key × V)} {kds : List (Key × D)} : F a = some (.frz o (.dK kvs)) → kvs.map (·.1) = kds.map (·.1) → VdAll K F (kvs.map (·.2)) (kds.map (·.2)) → Vd K F (.ref a) (.dK kds)
  | dT {a : Addr} {o : Obj} {kvs : List (List Key × V)} {kds : List (List Key × D)} : F a = some (.frz o (.dT kvs)) → kvs.map (·.1) = kds.map (·.1) → VdAll K F (kvs.map (·.2)) (kds.map (·.2)) → Vd K F (.ref a) (.dT kds)
  | ins {a C dx : Addr} {fs : List (Str × V)} {ds : List (Str × D)} : F a = some (.ins C dx fs) → fs.map (·.1) = ds.map (·.1) → VdAll K F (fs.map (·.2)) (ds.map (·.2)) → Vd K F (.ref a) (.ins C ds)
inductive VdAll (K : PySem.W.Frag) (F : Hp) : List V → List D → Prop
  | nil : VdAll K F [] []
  | cons {v : V} {vs : List V} {d : D} {ds : List D} : Vd K F v d → VdAll K F vs ds → VdAll K F (v :: vs) (d :: ds)
end
section
variable {K : PySem.W.Frag} {F F' : Hp}
theorem sqT_mono {a : Addr} {xs : List V} (s : Same F F') (h : SqT K F a xs) : SqT K F' a xs := by
  rcases h with (e | ⟨o, e⟩) | e
  · exact .inl (.inl (s _ _ e))
  · exact .inl (.inr ⟨o, s _ _ e⟩)
  · exact .inr e
mutual
theorem Vd.mono (s : Same F F') : ∀ {v : V} {d : D}, Vd K F v d → Vd K F' v d
  | _, _, .non => .non
  | _, _, .bl b => .bl b
  | _, _, .int b => .int b
  | _, _, .str b => .str b
  | _, _, .byt b => .byt b
  | _, _, .flt b => .flt b
  | _, _, .ref b => .ref b
  | _, _, .ty b => .ty b
  | _, _, .lst h t => .lst (s _ _ h) (VdAll.mono s t)
  | _, _, .seq h t => .seq (s.seq h) (VdAll.mono s t)
  | _, _, .tup h t => .tup (s _ _ h) (VdAll.mono s t)
  | _, _, .dK h e t => .dK (s _ _ h) e (VdAll.mono s t)
  | _, _, .dT h e t => .dT (s _ _ h) e (VdAll.mono s t)
  | _, _, .ins h e t => .ins (s _ _ h) e (VdAll.mono s t)
theorem VdAll.mono (s : Same F F') : ∀ {vs : List V} {ds : List D}, VdAll K F vs ds → VdAll K F' vs ds
  | _, _, .nil => .nil
  | _, _, .cons a t => .cons (Vd.mono s a) (VdAll.mono s t)
end
theorem Vd.to (v : V) : Vd K F v (toD v) := by cases v <;> constructor
theorem VdAll.len : ∀ {vs : List V} {ds : List D}, VdAll K F vs ds → vs.length = ds.length
  | _, _, .nil => rfl
  | _, _, .cons _ t => congrArg (· + 1) t.len
theorem VdAll.get : ∀ {vs : List V} {ds : List D} {i : Nat} {d : D}, VdAll K F vs ds → ds[i]? = some d → ∃ v, vs[i]? = some v ∧ Vd K F v d
  | _, _, _, _, .nil, e => by simp at e
  | _, _, 0, _, .cons a _, e => by simp at e; subst e; exact ⟨_, rfl, a⟩
  | _, _, i + 1, d, .cons _ t, e => by
    obtain ⟨v, h1, h2⟩ := VdAll.get (i := i) (d := d) t (by simpa using e)
    exact ⟨v, by simpa using h1, h2⟩
theorem VdAll.getL : ∀ {vs : List V} {ds : List D} {i : Nat} {v : V}, VdAll K F vs ds → vs[i]? = some v → ∃ d, ds[i]? = some d ∧ Vd K F v d
  | _, _, _, _, .nil, e => by simp at e
  | _, _, 0, _, .cons a _, e => by simp at e; subst e; exact ⟨_, rfl, a⟩
  | _, _, i + 1, v, .cons _ t, e => by
    obtain ⟨d, h1, h2⟩ := VdAll.getL (i := i) (v := v) t (by simpa using e)
    exact ⟨d, by simpa using h1, h2⟩
theorem VdAll.app : ∀ {xs ys : List V} {ds es : List D}, VdAll K F xs ds → VdAll K F ys es → VdAll K F (xs ++ ys) (ds ++ es)
  | _, _, _, _, .nil, s => s
  | _, _, _, _, .cons a t, s => .cons a (VdAll.app t s)
theorem VdAll.take : ∀ {xs : List V} {ds : List D} (n : Nat), VdAll K F xs ds → VdAll K F (xs.take n) (ds.take n)
  | _, _, 0, _ => .nil
  | _, _, _ + 1, .nil => .nil
  | _, _, n + 1, .cons a t => .cons a (VdAll.take n t)
theorem VdAll.drop : ∀ {xs : List V} {ds : List D} (n : Nat), VdAll K F xs ds → VdAll K F (xs.drop n) (ds.drop n)
  | _, _, 0, r => r
  | _, _, _ + 1, .nil => .nil
  | _, _, n + 1, .cons _ t => VdAll.drop n t
theorem VdAll.set {v : V} {d : D} (a : Vd K F v d) : ∀ {xs : List V} {ds : List D} (i : Nat), VdAll K F xs ds → VdAll K F (xs.set i v) (ds.set i d)
  | _, _, _, .nil => .nil
  | _, _, 0, .cons _ t => .cons a t
  | _, _, i + 1, .cons b t => .cons b (VdAll.set a i t)
theorem VdAll.rev : ∀ {xs : List V} {ds : List D}, VdAll K F xs ds → VdAll K F xs.reverse ds.reverse
  | _, _, .nil => .nil
  | _, _, .cons a t => by rw [List.reverse_cons, List.reverse_cons]; exact (VdAll.rev t).app (.cons a .nil)
theorem VdAll.erase : ∀ {xs : List V} {ds : List D} (i : Nat), VdAll K F xs ds → VdAll K F (xs.eraseIdx i) (ds.eraseIdx i)
  | _, _, _, .nil => .nil
  | _, _, 0, .cons _ t => t
  | _, _, i + 1, .cons a t => .cons a (VdAll.erase i t)
theorem VdAll.to : ∀ vs : List V, VdAll K F vs (vs.map toD)
  | [] => .nil
  | v :: r => .cons (.to v) (VdAll.to r)
theorem VdAll.ints : ∀ {vs : List V} {ns : List Int}, VdAll K F vs (ns.map D.int) → vs = ns.map V.int
  | _, [], h => by cases h; rfl
  | _, n :: r, h => by
    cases h with
    | cons a t => cases a; rw [VdAll.ints t]; rfl
theorem VdAll.ofInts : ∀ ns : List Int, VdAll K F (ns.map V.int) (ns.map D.int)
  | [] => .nil
  | n :: r => .cons (.int n) (VdAll.ofInts r)
end
/-- an object as it lies -/
inductive Lay (K : PySem.W.Frag) (F : Hp) : HO → HD → Prop
  | lst {xs : List V} {ds : List D} : VdAll K F xs ds → Lay K F (.lst xs) (.lst ds)
  | dK {kvs : List (Key × V)} {kds : List (Key × D)} : kvs.map (·.1) = kds.map (·.1) → VdAll K F (kvs.map (·.2)) (kds.map (·.2)) → Lay K F (.dK kvs) (.dK kds)
  | dT {kvs : List (List Key × V)} {kds : List (List Key × D)} : kvs.map (·.1) = kds.map (·.1) → VdAll K F (kvs.map (·.2)) (kds.map (·.2)) → Lay K F (.dT kvs) (.dT kds)
  | ins {C dx : Addr} {fs : List (Str × V)} {ds : List (Str × D)} : fs.map (·.1) = ds.map (·.1) → VdAll K F (fs.map (·.2)) (ds.map (·.2)) → Lay K F (.ins C dx fs) (.ins C ds)
  | frK {o : Obj} {kvs : List (Key × V)} {kds : List (Key × D)} : kvs.map (·.1) = kds.map (·.1) → VdAll K F (kvs.map (·.2)) (kds.map (·.2)) → Lay K F (.frz o (.dK kvs)) (.frK o kvs kds)
  | tpN {o : Obj} {xs : List V} {ds : List D} : o.dict = none → VdAll K F xs ds → Lay K F (.frz o (.tup xs)) (.tpN ds)
/-- the heap: F what never changes again (F0 of it from the entry on), S what may -/
structure RelH (K : PySem.W.Frag) (F0 F : Hp) (S : Sto) (H : Hp) : Prop where
  s0 : Same F0 F
  fr : Same F H
  tr : ∀ a o, S a = some o → F a = none ∧ ∃ ho, H a = some ho ∧ Lay K F ho o
abbrev EnvD := List (Option D)
inductive RelS (K : PySem.W.Frag) (F : Hp) : L2.St → EnvD → Prop
  | nil : RelS K F [] []
  | cons {ov : Option V} {σ : L2.St} {od : Option D} {env : EnvD} : (∀ d, od = some d → ∃ v, ov = some v ∧ Vd K F v d) → RelS K F σ env → RelS K F (ov :: σ) (od :: env)
structure Rel (K : PySem.W.Frag) (F0 F : Hp) (S : Sto) (env : EnvD) (σ : L2.St) (H : Hp) : Prop where
  h : RelH K F0 F S H
  s : RelS K F σ env
section
variable {K : PySem.W.Frag} {F0 F F' : Hp} {S S' : Sto} {H H' : Hp} {σ : L2.St} {env : EnvD}
theorem Lay.mono (s : Same F F') {ho : HO} {o : HD} (h : Lay K F ho o) : Lay K F' ho o := by
  cases h with
  | lst t => exact .lst (t.mono s)
  | dK e t => exact .dK e (t.mono s)
  | dT e t => exact .dT e (t.mono s)
  | ins e t => exact .ins e (t.mono s)
  | frK e t => exact .frK e (t.mono s)
  | tpN e t => exact .tpN e (t.mono s)
theorem RelS.mono (s : Same F F') : ∀ {σ : L2.St} {env : EnvD}, RelS K F σ env → RelS K F' σ env
  | _, _, .nil => .nil
  | _, _, .cons a t => .cons (fun d e => by obtain ⟨v, h1, h2⟩ := a d e; exact ⟨v, h1, h2.mono s⟩) (RelS.mono s t)
theorem RelS.get : ∀ {σ : L2.St} {env : EnvD} {i : Nat} {d : D}, RelS K F σ env → env[i]? = some (some d) → ∃ v, σ[i]? = some (some v) ∧ Vd K F v d
  | _, _, _, _, .nil, e => by simp at e
  | _, _, 0, _, .cons a _, e => by simp at e; obtain ⟨v, h1, h2⟩ := a _ e; exact ⟨v, by simp [h1], h2⟩
  | _, _, i + 1, d, .cons _ t, e => by
    obtain ⟨v, h1, h2⟩ := RelS.get (i := i) (d := d) t (by simpa using e)
    exact ⟨v, by simpa using h1, h2⟩
theorem RelS.set {v : V} {d : D} (a : Vd K F v d) : ∀ {σ : L2.St} {env : EnvD} (i : Nat), RelS K F σ env → RelS K F (σ.set i (some v)) (env.set i (some d))
  | _, _, _, .nil => .nil
  | _, _, 0, .cons _ t => .cons (fun e q => ⟨v, rfl, by cases q; exact a⟩) t
  | _, _, i + 1, .cons b t => .cons b (RelS.set a i t)
theorem RelS.unset : ∀ {σ : L2.St} {env : EnvD} (i : Nat) (ov : Option V), RelS K F σ env → RelS K F (σ.set i ov) (env.set i none)
  | _, _, _, _, .nil => .nil
  | _, _, 0, _, .cons _ t => .cons (fun e q => by cases q) t
  | _, _, i + 1, _, .cons b t => .cons b (RelS.unset i _ t)
theorem RelS.len : ∀ {σ : L2.St} {env : EnvD}, RelS K F σ env → σ.length = env.length
  | _, _, .nil => rfl
  | _, _, .cons _ t => congrArg (· + 1) t.len
theorem RelS.forget : ∀ {σ : L2.St} {env env' : EnvD}, RelS K F σ env → env'.length = env.length → (∀ (i : Nat) (d : D), env'[i]? = some (some d) → env[i]? = some (some d)) → RelS K F σ env'
  | _, _, [], .nil, _, _ => .nil
  | _, _, od :: env', .cons a t, hl, h => .cons (fun d e => a d (by have := h 0 d (by simp [e]); simpa using this)) (RelS.forget t (by simpa using hl) fun i d e => by have := h (i + 1) d (by simpa using e); simpa using this)
/-- from a heap to one with another frozen part -/
theorem Rel.at (r : Rel K F0 F S env σ H) (s : Same F F') (h : RelH K F0 F' S' H') : Rel K F0 F' S' env σ H' := ⟨h, r.s.mono s⟩
theorem RelH.free {a : Addr} (r : RelH K F0 F S H) (h : H a = none) : F a = none ∧ S a = none := by
  refine ⟨r.fr.free h, ?_⟩
  cases e : S a with
  | none => rfl
  | some o => obtain ⟨_, ho, e2, _⟩ := r.tr a o e; rw [h] at e2; cases e2
/-- a new object that may change -/
theorem RelH.new {p : Addr} {ho : HO} {o : HD} (r : RelH K F0 F S H) (hp : H p = none) (l : Lay K F ho o) : RelH K F0 F (sup S p o) (upd H p ho) := by
  refine ⟨r.s0, fun b u e => ?_, fun b u e => ?_⟩
  · rw [upd_ne (ne_of_none (r.fr _ _ e) hp)]; exact r.fr _ _ e
  · by_cases c : b = p
    · subst c
      rw [sup_same] at e; cases e
      exact ⟨(r.free hp).1, ho, upd_same, l⟩
    · rw [sup_ne c] at e
      obtain ⟨h1, u2, h2, h3⟩ := r.tr b u e
      exact ⟨h1, u2, by rw [upd_ne c]; exact h2, h3⟩
/-- a new object that never changes -/
theorem RelH.newF {p : Addr} {ho : HO} (r : RelH K F0 F S H) (hp : H p = none) : Same F (upd F p ho) ∧ RelH K F0 (upd F p ho) S (upd H p ho) := by
  have fp := (r.free hp).1
  have s : Same F (upd F p ho) := fun b u e => by rw [upd_ne (ne_of_none e fp)]; exact e
  refine ⟨s, r.s0.trans s, fun b u e => ?_, fun b u e => ?_⟩
  · by_cases c : b = p
    · subst c; rw [upd_same] at e ⊢; exact e
    · rw [upd_ne c] at e ⊢; exact r.fr _ _ e
  · obtain ⟨h1, u2, h2, h3⟩ := r.tr b u e
    have c : b ≠ p := ne_of_none h2 hp
    exact ⟨by rw [upd_ne c]; exact h1, u2, by rw [upd_ne c]; exact h2, h3.mono s⟩
/-- an object changed -/
theorem RelH.put {a : Addr} {ho : HO} {o o' : HD} (r : RelH K F0 F S H) (ha : S a = some o) (l : Lay K F ho o') : RelH K F0 F (sup S a o') (upd H a ho) := by
  obtain ⟨fa, _⟩ := r.tr a o ha
  refine ⟨r.s0, fun b u e => ?_, fun b u e => ?_⟩
  · rw [upd_ne (ne_of_none e fa)]; exact r.fr _ _ e
  · by_cases c : b = a
    · subst c
      rw [sup_same] at e; cases e
      exact ⟨fa, ho, upd_same, l⟩
    · rw [sup_ne c] at e
      obtain ⟨h1, u2, h2, h3⟩ := r.tr b u e
      exact ⟨h1, u2, by rw [upd_ne c]; exact h2, h3⟩
/-- it never changes from here on -/
theorem RelH.keep {a : Addr} {ho : HO} {o : HD} (r : RelH K F0 F S H) (ha : S a = some o) (hh : H a = some ho) : Same F (upd F a ho) ∧ RelH K F0 (upd F a ho) (sdel S a) H := by
  obtain ⟨fa, _⟩ := r.tr a o ha
  have s : Same F (upd F a ho) := fun b u e => by rw [upd_ne (ne_of_none e fa)]; exact e
  refine ⟨s, r.s0.trans s, fun b u e => ?_, fun b u e => ?_⟩
  · by_cases c : b = a
    · subst c; rw [upd_same] at e; rw [hh]; exact e
    · rw [upd_ne c] at e; exact r.fr _ _ e
  · by_cases c : b = a
    · subst c; rw [sdel_same] at e; cases e
    · rw [sdel_ne c] at e
      obtain ⟨h1, u2, h2, h3⟩ := r.tr b u e
      exact ⟨by rw [upd_ne c]; exact h1, u2, h2, h3.mono s⟩
/-- .. a dict, locked -/
theorem RelH.seal {a : Addr} {ho ho' : HO} {o : HD} (r : RelH K F0 F S H) (ha : S a = some o) : Same F (upd F a ho') ∧ RelH K F0 (upd F a ho') (sdel S a) (upd H a ho') := by
  obtain ⟨fa, _⟩ := r.tr a o ha
  have s : Same F (upd F a ho') := fun b u e => by rw [upd_ne (ne_of_none e fa)]; exact e
  refine ⟨s, r.s0.trans s, fun b u e => ?_, fun b u e => ?_⟩
  · by_cases c : b = a
    · subst c; rw [upd_same] at e ⊢; exact e
    · rw [upd_ne c] at e ⊢; exact r.fr _ _ e
  · by_cases c : b = a
    · subst c; rw [sdel_same] at e; cases e
    · rw [sdel_ne c] at e
      obtain ⟨h1, u2, h2, h3⟩ := r.tr b u e
      exact ⟨by rw [upd_ne c]; exact h1, u2, by rw [upd_ne c]; exact h2, h3.mono s⟩
/-- less is known -/
theorem RelH.less (r : RelH K F0 F S H) (h : ∀ a o, S' a = some o → S a = some o) : RelH K F0 F S' H := ⟨r.s0, r.fr, fun a o e => r.tr a o (h a o e)⟩
theorem RelH.lst {a : Addr} {ds : List D} (r : RelH K F0 F S H) (h : S a = some (.lst ds)) : ∃ xs, H a = some (.lst xs) ∧ VdAll K F xs ds := by
  obtain ⟨_, ho, e, l⟩ := r.tr a _ h
  cases l with
  | lst t => exact ⟨_, e, t⟩
theorem RelH.tpN {a : Addr} {ds : List D} (r : RelH K F0 F S H) (h : S a = some (.tpN ds)) : ∃ o xs, H a = some (.frz o (.tup xs)) ∧ o.dict = none ∧ VdAll K F xs ds := by
  obtain ⟨_, ho, e, l⟩ := r.tr a _ h
  cases l with
  | tpN k t => exact ⟨_, _, e, k, t⟩
theorem RelH.dK {a : Addr} {kds : List (Key × D)} (r : RelH K F0 F S H) (h : S a = some (.dK kds)) : ∃ kvs, H a = some (.dK kvs) ∧ kvs.map (·.1) = kds.map (·.1) ∧ VdAll K F (kvs.map (·.2)) (kds.map (·.2)) := by
  obtain ⟨_, ho, e, l⟩ := r.tr a _ h
  cases l with
  | dK k t => exact ⟨_, e, k, t⟩
theorem RelH.dT {a : Addr} {kds : List (List Key × D)} (r : RelH K F0 F S H) (h : S a = some (.dT kds)) : ∃ kvs, H a = some (.dT kvs) ∧ kvs.map (·.1) = kds.map (·.1) ∧ VdAll K F (kvs.map (·.2)) (kds.map (·.2)) := by
  obtain ⟨_, ho, e, l⟩ := r.tr a _ h
  cases l with
  | dT k t => exact ⟨_, e, k, t⟩
theorem RelH.ins {a C : Addr} {ds : List (Str × D)} (r : RelH K F0 F S H) (h : S a = some (.ins C ds)) : ∃ dx fs, H a = some (.ins C dx fs) ∧ fs.map (·.1) = ds.map (·.1) ∧ VdAll K F (fs.map (·.2)) (ds.map (·.2)) := by
  obtain ⟨_, ho, e, l⟩ := r.tr a _ h
  cases l with
  | ins k t => exact ⟨_, _, e, k, t⟩
end
/-! ### readings, lifted -/
abbrev PV := D → Sto → Prop
abbrev XD := Addr → Option (List (Str × D)) → Sto → Prop
abbrev TED := EnvD → Sto → PV → Prop
abbrev TTD := EnvD → Sto → (Bool → Sto → Prop) → Prop
abbrev TAD := EnvD → Sto → (List D → Sto → Prop) → Prop
structure EndsD where
  nx : EnvD → Sto → Prop
  rt : PV
  bk : EnvD → Sto → Prop := fun _ _ => False
  ct : EnvD → Sto → Prop := fun _ _ => False
abbrev TSD := EndsD → EnvD → Sto → Prop
/-- what is wanted of a value, at the heap -/
def LeV (K : PySem.W.Frag) (F0 F : Hp) (P : PV) (Q : VK) : Prop := ∀ x S F' H v, P x S → Same F F' → RelH K F0 F' S H → Vd K F' v x → Q v H
def LeB (K : PySem.W.Frag) (F0 F : Hp) (P : Bool → Sto → Prop) (Q : Bool → Hp → Prop) : Prop := ∀ x S F' H, P x S → Same F F' → RelH K F0 F' S H → Q x H
def LeA (K : PySem.W.Frag) (F0 F : Hp) (P : List D → Sto → Prop) (Q : List V → Hp → Prop) : Prop := ∀ x S F' H v, P x S → Same F F' → RelH K F0 F' S H → VdAll K F' v x → Q v H
def LeN (K : PySem.W.Frag) (F0 F : Hp) (P : EnvD → Sto → Prop) (Q : L2.St → Hp → Prop) : Prop := ∀ env S F' σ H, P env S → Same F F' → Rel K F0 F' S env σ H → Q σ H
structure LeE (K : PySem.W.Frag) (F0 F : Hp) (P : EndsD) (Q : Ends) : Prop where
  nx : LeN K F0 F P.nx Q.nx
  rt : LeV K F0 F P.rt Q.rt
  bk : LeN K F0 F P.bk Q.bk
  ct : LeN K F0 F P.ct Q.ct
/-- an error's own dict, as it lies -/
inductive XdAt (K : PySem.W.Frag) (F H : Hp) : Option Addr → Option (List (Str × D)) → Prop
  | none : XdAt K F H none none
  | some {d : Addr} {fs : List (Str × V)} {ds : List (Str × D)} : H d = some (.xd fs) → fs.map (·.1) = ds.map (·.1) → VdAll K F (fs.map (·.2)) (ds.map (·.2)) → XdAt K F H (some d) (some ds)
def LeX (K : PySem.W.Frag) (F0 F : Hp) (P : XD) (E : XK) : Prop := ∀ C ods S F' H od, P C ods S → Same F F' → RelH K F0 F' S H → XdAt K F' H od ods → E (.ref C) od H
section
variable {K : PySem.W.Frag} {F0 F F' : Hp}
theorem LeV.mono {P : PV} {Q : VK} (s : Same F F') (h : LeV K F0 F P Q) : LeV K F0 F' P Q := fun x S G H v p t => h x S G H v p (s.trans t)
theorem LeN.mono {P : EnvD → Sto → Prop} {Q : L2.St → Hp → Prop} (s : Same F F') (h : LeN K F0 F P Q) : LeN K F0 F' P Q := fun x S G H v p t => h x S G H v p (s.trans t)
theorem LeE.mono {P : EndsD} {Q : Ends} (s : Same F F') (h : LeE K F0 F P Q) : LeE K F0 F' P Q := ⟨h.nx.mono s, h.rt.mono s, h.bk.mono s, h.ct.mono s⟩
theorem LeX.mono {P : XD} {E : XK} (s : Same F F') (h : LeX K F0 F P E) : LeX K F0 F' P E := fun C ds S G H d p t => h C ds S G H d p (s.trans t)
end
class UpE (K : PySem.W.Frag) (F0 : Hp) (t : TE) (td : outParam TED) : Prop where
  up : ∀ {σ : L2.St} {H : Hp} {Q : VK} {F : Hp} {S : Sto} {env : EnvD} {P : PV}, Rel K F0 F S env σ H → td env S P → LeV K F0 F P Q → t σ H Q
class UpT (K : PySem.W.Frag) (F0 : Hp) (t : TT) (td : outParam TTD) : Prop where
  up : ∀ {σ : L2.St} {H : Hp} {Q : Bool → Hp → Prop} {F : Hp} {S : Sto} {env : EnvD} {P : Bool → Sto → Prop}, Rel K F0 F S env σ H → td env S P → LeB K F0 F P Q → t σ H Q
class UpA (K : PySem.W.Frag) (F0 : Hp) (t : TA) (td : outParam TAD) : Prop where
  up : ∀ {σ : L2.St} {H : Hp} {Q : List V → Hp → Prop} {F : Hp} {S : Sto} {env : EnvD} {P : List D → Sto → Prop}, Rel K F0 F S env σ H → td env S P → LeA K F0 F P Q → t σ H Q
class UpS (K : PySem.W.Frag) (F0 : Hp) (t : TS) (td : outParam TSD) : Prop where
  up : ∀ {σ : L2.St} {H : Hp} {Q : Ends} {F : Hp} {S : Sto} {env : EnvD} {P : EndsD}, Rel K F0 F S env σ H → td P env S → LeE K F0 F P Q → t Q σ H
abbrev TGD := D → EnvD → Sto → (EnvD → Sto → Prop) → Prop
abbrev TGsD := List D → EnvD → Sto → (EnvD → Sto → Prop) → Prop
class UpG (K : PySem.W.Frag) (F0 : Hp) (t : TG) (td : outParam TGD) : Prop where
  up : ∀ {v : V} {d : D} {σ : L2.St} {H : Hp} {Q : L2.St → Hp → Prop} {F : Hp} {S : Sto} {env : EnvD} {P : EnvD → Sto → Prop}, Rel K F0 F S env σ H → Vd K F v d → td d env S P → LeN K F0 F P Q → t v σ H Q
class UpGs (K : PySem.W.Frag) (F0 : Hp) (t : TGs) (td : outParam TGsD) : Prop where
  up : ∀ {v : List V} {d : List D} {σ : L2.St} {H : Hp} {Q : L2.St → Hp → Prop} {F : Hp} {S : Sto} {env : EnvD} {P : EnvD → Sto → Prop}, Rel K F0 F S env σ H → VdAll K F v d → td d env S P → LeN K F0 F P Q → t v σ H Q
abbrev R2D := D → D → Sto → PV → Prop
class UpR (K : PySem.W.Frag) (F0 : Hp) (r : R2) (rd : outParam R2D) : Prop where
  up : ∀ {v u : V} {x y : D} {H : Hp} {Q : VK} {F : Hp} {S : Sto} {P : PV}, RelH K F0 F S H → Vd K F v x → Vd K F u y → rd x y S P → LeV K F0 F P Q → r v u H Q
class UpU (K : PySem.W.Frag) (F0 : Hp) (r : V → Hp → VK → Prop) (rd : outParam (D → Sto → PV → Prop)) : Prop where
  up : ∀ {v : V} {x : D} {H : Hp} {Q : VK} {F : Hp} {S : Sto} {P : PV}, RelH K F0 F S H → Vd K F v x → rd x S P → LeV K F0 F P Q → r v H Q
/-- a call by values -/
class UpC (K : PySem.W.Frag) (F0 : Hp) (r : List V → Hp → VK → Prop) (rd : outParam (List D → Sto → PV → Prop)) : Prop where
  up : ∀ {vs : List V} {xs : List D} {H : Hp} {Q : VK} {F : Hp} {S : Sto} {P : PV}, RelH K F0 F S H → VdAll K F vs xs → rd xs S P → LeV K F0 F P Q → r vs H Q
/-- a method by values -/
class UpM (K : PySem.W.Frag) (F0 : Hp) (r : V → List V → Hp → VK → Prop) (rd : outParam (D → List D → Sto → PV → Prop)) : Prop where
  up : ∀ {v : V} {x : D} {vs : List V} {xs : List D} {H : Hp} {Q : VK} {F : Hp} {S : Sto} {P : PV}, RelH K F0 F S H → Vd K F v x → VdAll K F vs xs → rd x xs S P → LeV K F0 F P Q → r v vs H Q
section
variable {K : PySem.W.Frag} {F0 : Hp}
/-! #### names, constants, operators -/
def dVar (i : Nat) : TED := fun env S P => ∃ x, env[i]? = some (some x) ∧ P x S
instance (i : Nat) : UpE K F0 (tVar i) (dVar i) := ⟨fun r ⟨x, e, p⟩ le => by
  obtain ⟨v, h1, h2⟩ := r.s.get e
  exact ⟨v, h1, le x _ _ _ v p (Same.refl _) r.h h2⟩⟩
def dC (x : D) : TED := fun _ S P => P x S
instance (v : V) : UpE K F0 (tC v) (dC (toD v)) := ⟨fun r p le => le _ _ _ _ _ p (Same.refl _) r.h (.to v)⟩
def dOp (rd : R2D) (da db : TED) : TED := fun env S P => da env S fun x S1 => db env S1 fun y S2 => rd x y S2 P
instance {r : R2} {rd : R2D} {ta tb : TE} {da db : TED} [UpE K F0 ta da] [UpE K F0 tb db] [UpR K F0 r rd] : UpE K F0 (tOp r ta tb) (dOp rd da db) := ⟨fun r0 h le =>
  UpE.up (t := ta) (td := da) r0 h fun x S1 F1 H1 v h1 s1 r1 v1 => UpE.up (t := tb) (td := db) (r0.at s1 r1) h1 fun y S2 F2 H2 u h2 s2 r2 v2 =>
    UpR.up (r := r) (rd := rd) r2 (v1.mono s2) v2 h2 (le.mono (s1.trans s2))⟩
def dUn (rd : D → Sto → PV → Prop) (da : TED) : TED := fun env S P => da env S fun x S1 => rd x S1 P
instance {r : V → Hp → VK → Prop} {rd : D → Sto → PV → Prop} {ta : TE} {da : TED} [UpE K F0 ta da] [UpU K F0 r rd] : UpE K F0 (tUn r ta) (dUn rd da) := ⟨fun r0 h le =>
  UpE.up (t := ta) (td := da) r0 h fun x S1 F1 H1 v h1 s1 r1 v1 => UpU.up (r := r) (rd := rd) r1 v1 h1 (le.mono s1)⟩
def dI (C : Int → Int → Prop) (g : Int → Int → D) : R2D := fun x y S P => ∃ i j, x = .int i ∧ y = .int j ∧ C i j ∧ P (g i j) S
def dI0 (g : Int → Int → D) : R2D := fun x y S P => ∃ i j, x = .int i ∧ y = .int j ∧ P (g i j) S
instance (C : Int → Int → Prop) (g : Int → Int → V) : UpR K F0 (rI C g) (dI C fun i j => toD (g i j)) := ⟨fun r hv hu ⟨i, j, e1, e2, c, p⟩ le => by
  subst e1; subst e2; cases hv; cases hu
  exact ⟨i, j, rfl, rfl, c, le _ _ _ _ _ p (Same.refl _) r (.to _)⟩⟩
instance (g : Int → Int → V) : UpR K F0 (rI0 g) (dI0 fun i j => toD (g i j)) := ⟨fun r hv hu ⟨i, j, e1, e2, p⟩ le => by
  subst e1; subst e2; cases hv; cases hu
  exact ⟨i, j, rfl, rfl, le _ _ _ _ _ p (Same.refl _) r (.to _)⟩⟩
def dU (g : Int → D) : D → Sto → PV → Prop := fun x S P => ∃ i, x = .int i ∧ P (g i) S
instance (g : Int → V) : UpU K F0 (rU g) (dU fun i => toD (g i)) := ⟨fun r hv ⟨i, e1, p⟩ le => by
  subst e1; cases hv
  exact ⟨i, rfl, le _ _ _ _ _ p (Same.refl _) r (.to _)⟩⟩
/-! #### arguments -/
def dNil : TAD := fun _ S P => P [] S
instance : UpA K F0 tNil dNil := ⟨fun r p le => le _ _ _ _ _ p (Same.refl _) r.h .nil⟩
def dCons (da : TED) (dr : TAD) : TAD := fun env S P => da env S fun x S1 => dr env S1 fun xs S2 => P (x :: xs) S2
instance {ta : TE} {tr : TA} {da : TED} {dr : TAD} [UpE K F0 ta da] [UpA K F0 tr dr] : UpA K F0 (tCons ta tr) (dCons da dr) := ⟨fun r0 h le =>
  UpE.up (t := ta) (td := da) r0 h fun x S1 F1 H1 v h1 s1 r1 v1 => UpA.up (t := tr) (td := dr) (r0.at s1 r1) h1 fun xs S2 F2 H2 vs h2 s2 r2 v2 =>
    le _ _ _ _ _ h2 (s1.trans s2) r2 (.cons (v1.mono s2) v2)⟩
/-- a tuple: data -/
def dTup (da : TAD) : TED := fun env S P => da env S fun xs S1 => xs.length ≤ sizeLine ∧ P (.tup xs) S1
instance {ta : TA} {da : TAD} [UpA K F0 ta da] : UpE K F0 (tTup ta) (dTup da) := ⟨fun r0 h le =>
  UpA.up (t := ta) (td := da) r0 h fun xs S1 F1 H1 vs ⟨h0, h1⟩ s1 r1 v1 => ⟨by rw [v1.len]; exact h0, fun p hp => by
    obtain ⟨s2, r2⟩ := r1.newF (ho := .tup vs) hp
    exact le _ _ _ _ _ h1 (s1.trans s2) r2 (.tup upd_same (v1.mono s2))⟩⟩
/-- a list: an object that may change -/
def dLst (da : TAD) : TED := fun env S P => da env S fun xs S1 => xs.length ≤ sizeLine ∧ ∀ p, S1 p = none → P (.ref p) (sup S1 p (.lst xs))
instance {ta : TA} {da : TAD} [UpA K F0 ta da] : UpE K F0 (tLst ta) (dLst da) := ⟨fun r0 h le =>
  UpA.up (t := ta) (td := da) r0 h fun xs S1 F1 H1 vs ⟨h0, h1⟩ s1 r1 v1 => ⟨by rw [v1.len]; exact h0, fun p hp =>
    le _ _ _ _ _ (h1 p (r1.free hp).2) s1 (r1.new hp (.lst v1)) (.ref p)⟩⟩
def dNewK : TED := fun _ S P => ∀ p, S p = none → P (.ref p) (sup S p (.dK []))
instance : UpE K F0 tDNewK dNewK := ⟨fun r0 h le => fun p hp => le _ _ _ _ _ (h p (r0.h.free hp).2) (Same.refl _) (r0.h.new hp (.dK (kvs := []) (kds := []) rfl .nil)) (.ref p)⟩
def dNewT : TED := fun _ S P => ∀ p, S p = none → P (.ref p) (sup S p (.dT []))
instance : UpE K F0 tDNewT dNewT := ⟨fun r0 h le => fun p hp => le _ _ _ _ _ (h p (r0.h.free hp).2) (Same.refl _) (r0.h.new hp (.dT (kvs := []) (kds := []) rfl .nil)) (.ref p)⟩
/-! #### truths -/
def dB (da : TED) : TTD := fun env S P => da env S fun x S1 => ∃ c, x = .bl c ∧ P c S1
instance {t : TE} {td : TED} [UpE K F0 t td] : UpT K F0 (tB t) (dB td) := ⟨fun r0 h le =>
  UpE.up (t := t) (td := td) r0 h fun x S1 F1 H1 v ⟨c, e, h1⟩ s1 r1 v1 => by subst e; cases v1; exact ⟨c, rfl, le _ _ _ _ h1 s1 r1⟩⟩
instance {t : TE} {td : TED} [UpE K F0 t td] : UpT K F0 (tTest t) (dB td) := ⟨fun r0 h le =>
  UpE.up (t := t) (td := td) r0 h fun x S1 F1 H1 v ⟨c, e, h1⟩ s1 r1 v1 => by subst e; cases v1; exact ⟨c, rfl, le _ _ _ _ h1 s1 r1⟩⟩
def dAnd (t u : TTD) : TTD := fun env S P => t env S fun c S1 => if c = true then u env S1 P else P false S1
def dOr (t u : TTD) : TTD := fun env S P => t env S fun c S1 => if c = true then P true S1 else u env S1 P
def dNot (t : TTD) : TTD := fun env S P => t env S fun c S1 => P (!c) S1
theorem LeB.mono {F F' : Hp} {P : Bool → Sto → Prop} {Q : Bool → Hp → Prop} (s : Same F F') (h : LeB K F0 F P Q) : LeB K F0 F' P Q := fun x S G H p t => h x S G H p (s.trans t)
instance {t u : TT} {td ud : TTD} [UpT K F0 t td] [UpT K F0 u ud] : UpT K F0 (tAnd t u) (dAnd td ud) := ⟨fun r0 h le =>
  UpT.up (t := t) (td := td) r0 h fun c S1 F1 H1 h1 s1 r1 => by
    cases c with
    | true => exact UpT.up (t := u) (td := ud) (r0.at s1 r1) h1 (le.mono s1)
    | false => exact le _ _ _ _ h1 s1 r1⟩
instance {t u : TT} {td ud : TTD} [UpT K F0 t td] [UpT K F0 u ud] : UpT K F0 (tOr t u) (dOr td ud) := ⟨fun r0 h le =>
  UpT.up (t := t) (td := td) r0 h fun c S1 F1 H1 h1 s1 r1 => by
    cases c with
    | false => exact UpT.up (t := u) (td := ud) (r0.at s1 r1) h1 (le.mono s1)
    | true => exact le _ _ _ _ h1 s1 r1⟩
instance {t : TT} {td : TTD} [UpT K F0 t td] : UpT K F0 (tNot t) (dNot td) := ⟨fun r0 h le =>
  UpT.up (t := t) (td := td) r0 h fun c S1 F1 H1 h1 s1 r1 => le _ _ _ _ h1 s1 r1⟩
def dAndV (da db : TED) : TED := fun env S P => da env S fun x S1 => ∃ c, x = .bl c ∧ if c = true then db env S1 P else P (.bl false) S1
def dOrV (da db : TED) : TED := fun env S P => da env S fun x S1 => ∃ c, x = .bl c ∧ if c = true then P (.bl true) S1 else db env S1 P
def dNotV (da : TED) : TED := fun env S P => da env S fun x S1 => ∃ c, x = .bl c ∧ P (.bl (!c)) S1
instance {ta tb : TE} {da db : TED} [UpE K F0 ta da] [UpE K F0 tb db] : UpE K F0 (tAndV ta tb) (dAndV da db) := ⟨fun r0 h le =>
  UpE.up (t := ta) (td := da) r0 h fun x S1 F1 H1 v ⟨c, e, h1⟩ s1 r1 v1 => by
    subst e; cases v1
    refine ⟨c, rfl, ?_⟩
    cases c with
    | true => exact UpE.up (t := tb) (td := db) (r0.at s1 r1) h1 (le.mono s1)
    | false => exact le _ _ _ _ _ h1 s1 r1 (.bl _)⟩
instance {ta tb : TE} {da db : TED} [UpE K F0 ta da] [UpE K F0 tb db] : UpE K F0 (tOrV ta tb) (dOrV da db) := ⟨fun r0 h le =>
  UpE.up (t := ta) (td := da) r0 h fun x S1 F1 H1 v ⟨c, e, h1⟩ s1 r1 v1 => by
    subst e; cases v1
    refine ⟨c, rfl, ?_⟩
    cases c with
    | false => exact UpE.up (t := tb) (td := db) (r0.at s1 r1) h1 (le.mono s1)
    | true => exact le _ _ _ _ _ h1 s1 r1 (.bl _)⟩
instance {ta : TE} {da : TED} [UpE K F0 ta da] : UpE K F0 (tNotV ta) (dNotV da) := ⟨fun r0 h le =>
  UpE.up (t := ta) (td := da) r0 h fun x S1 F1 H1 v ⟨c, e, h1⟩ s1 r1 v1 => by subst e; cases v1; exact ⟨c, rfl, le _ _ _ _ _ h1 s1 r1 (.bl _)⟩⟩
def dIf (t : TTD) (da db : TED) : TED := fun env S P => t env S fun c S1 => if c = true then da env S1 P else db env S1 P
instance {t : TT} {td : TTD} {ta tb : TE} {da db : TED} [UpT K F0 t td] [UpE K F0 ta da] [UpE K F0 tb db] : UpE K F0 (tIf t ta tb) (dIf td da db) := ⟨fun r0 h le =>
  UpT.up (t := t) (td := td) r0 h fun c S1 F1 H1 h1 s1 r1 => by
    cases c with
    | true => exact UpE.up (t := ta) (td := da) (r0.at s1 r1) h1 (le.mono s1)
    | false => exact UpE.up (t := tb) (td := db) (r0.at s1 r1) h1 (le.mono s1)⟩
/-! #### statements -/
def dNext : TSD := fun P env S => P.nx env S
instance : UpS K F0 tNext dNext := ⟨fun r0 h le => le.nx _ _ _ _ _ h (Same.refl _) r0⟩
def dBreak : TSD := fun P env S => P.bk env S
instance : UpS K F0 tBreak dBreak := ⟨fun r0 h le => le.bk _ _ _ _ _ h (Same.refl _) r0⟩
def dCont : TSD := fun P env S => P.ct env S
instance : UpS K F0 tCont dCont := ⟨fun r0 h le => le.ct _ _ _ _ _ h (Same.refl _) r0⟩
def dNever : TSD := fun _ _ _ => False
instance : UpS K F0 tNever dNever := ⟨fun _ h _ => h.elim⟩
def dSeq (t u : TSD) : TSD := fun P env S => t { P with nx := u P } env S
instance {t u : TS} {td ud : TSD} [UpS K F0 t td] [UpS K F0 u ud] : UpS K F0 (tSeq t u) (dSeq td ud) := ⟨fun r0 h le =>
  UpS.up (t := t) (td := td) r0 h ⟨fun env S1 F1 σ1 H1 h1 s1 r1 => UpS.up (t := u) (td := ud) r1 h1 (le.mono s1), le.rt, le.bk, le.ct⟩⟩
def dDrop (da : TED) : TSD := fun P env S => da env S fun _ S1 => P.nx env S1
instance {ta : TE} {da : TED} [UpE K F0 ta da] : UpS K F0 (tDrop ta) (dDrop da) := ⟨fun r0 h le =>
  UpE.up (t := ta) (td := da) r0 h fun x S1 F1 H1 v h1 s1 r1 _ => le.nx _ _ _ _ _ h1 s1 (r0.at s1 r1)⟩
def dRet (da : TED) : TSD := fun P env S => da env S P.rt
instance {ta : TE} {da : TED} [UpE K F0 ta da] : UpS K F0 (tRet ta) (dRet da) := ⟨fun r0 h le => UpE.up (t := ta) (td := da) r0 h le.rt⟩
def dRetN : TSD := fun P _ S => P.rt .non S
instance : UpS K F0 tRetN dRetN := ⟨fun r0 h le => le.rt _ _ _ _ _ h (Same.refl _) r0.h .non⟩
def dIfS (c : TTD) (t u : TSD) : TSD := fun P env S => c env S fun b S1 => if b = true then t P env S1 else u P env S1
instance {c : TT} {cd : TTD} {t u : TS} {td ud : TSD} [UpT K F0 c cd] [UpS K F0 t td] [UpS K F0 u ud] : UpS K F0 (tIfS c t u) (dIfS cd td ud) := ⟨fun r0 h le =>
  UpT.up (t := c) (td := cd) r0 h fun b S1 F1 H1 h1 s1 r1 => by
    cases b with
    | true => exact UpS.up (t := t) (td := td) (r0.at s1 r1) h1 (le.mono s1)
    | false => exact UpS.up (t := u) (td := ud) (r0.at s1 r1) h1 (le.mono s1)⟩
/-! #### targets -/
def kName (i : Nat) : TGD := fun x env S P => P (env.set i (some x)) S
instance (i : Nat) : UpG K F0 (gName i) (kName i) := ⟨fun r0 hv h le => le _ _ _ _ _ h (Same.refl _) ⟨r0.h, r0.s.set hv i⟩⟩
def kNil : TGsD := fun xs env S P => xs = [] ∧ P env S
instance : UpGs K F0 gNil kNil := ⟨fun r0 hv ⟨e, h⟩ le => by subst e; cases hv; exact ⟨rfl, le _ _ _ _ _ h (Same.refl _) r0⟩⟩
def kCons (t : TGD) (u : TGsD) : TGsD := fun xs env S P => ∃ x r, xs = x :: r ∧ t x env S fun env1 S1 => u r env1 S1 P
instance {t : TG} {td : TGD} {u : TGs} {ud : TGsD} [UpG K F0 t td] [UpGs K F0 u ud] : UpGs K F0 (gCons t u) (kCons td ud) := ⟨fun r0 hv ⟨x, r, e, h⟩ le => by
  subst e
  cases hv with
  | cons a b => exact ⟨_, _, rfl, UpG.up (t := t) (td := td) r0 a h fun env1 S1 F1 σ1 H1 h1 s1 r1 => UpGs.up (t := u) (td := ud) r1 (b.mono s1) h1 (le.mono s1)⟩⟩
def kTup (n : Nat) (u : TGsD) : TGD := fun x env S P => ∃ xs, x = .tup xs ∧ xs.length = n ∧ u xs env S P
instance {n : Nat} {u : TGs} {ud : TGsD} [UpGs K F0 u ud] : UpG K F0 (gTup K n u) (kTup n ud) := ⟨fun r0 hv ⟨xs, e, hn, h⟩ le => by
  subst e
  cases hv with
  | tup ha hs => exact ⟨_, _, rfl, .inl (.inl (r0.h.fr _ _ ha)), by rw [hs.len]; exact hn, UpGs.up (t := u) (td := ud) r0 hs h le⟩⟩
def dAsg (da : TED) (g : TGD) : TSD := fun P env S => da env S fun x S1 => g x env S1 P.nx
instance {ta : TE} {da : TED} {g : TG} {gd : TGD} [UpE K F0 ta da] [UpG K F0 g gd] : UpS K F0 (tAsg ta g) (dAsg da gd) := ⟨fun r0 h le =>
  UpE.up (t := ta) (td := da) r0 h fun x S1 F1 H1 v h1 s1 r1 v1 => UpG.up (t := g) (td := gd) (r0.at s1 r1) v1 h1 (le.nx.mono s1)⟩
end
end L2.VW

/-! ## lists, dicts, objects: in full, or at an address -/
namespace L2.VW
open PySem PySem.Spec PyProof.Rows
/-- a list, as data or at an address -/
def SeqL (S : Sto) (x : D) (ds : List D) : Prop := x = .lst ds ∨ (∃ a, x = .ref a ∧ S a = some (.lst ds)) ∨ x = .seq ds
/-- .. not the script's -/
def SeqW (S : Sto) (x : D) (ds : List D) : Prop := x = .lst ds ∨ ∃ a, x = .ref a ∧ S a = some (.lst ds)
def Ins (S : Sto) (x : D) (C : Addr) (ds : List (Str × D)) : Prop := x = .ins C ds ∨ ∃ a, x = .ref a ∧ S a = some (.ins C ds)
def DicK (S : Sto) (x : D) (kds : List (Key × D)) : Prop := x = .dK kds ∨ ∃ a, x = .ref a ∧ S a = some (.dK kds)
def DicT (S : Sto) (x : D) (kds : List (List Key × D)) : Prop := x = .dT kds ∨ ∃ a, x = .ref a ∧ S a = some (.dT kds)
section
variable {κ : Type} [DecidableEq κ]
def getD' (kds : List (κ × D)) (k : κ) : Option D := (kds.find? fun kv => decide (kv.1 = k)).map (·.2)
def putD (kds : List (κ × D)) (k : κ) (v : D) : List (κ × D) :=
  if (kds.any fun kv => decide (kv.1 = k)) = true then kds.map (fun kv => if kv.1 = k then (kv.1, v) else kv) else kds ++ [(k, v)]
def dropD (kds : List (κ × D)) (k : κ) : List (κ × D) := kds.filter fun kv => decide (kv.1 ≠ k)
end
def setF (f : Str) (v : D) : List (Str × D) → List (Str × D)
  | [] => [(f, v)]
  | (g, x) :: r => if g = f then (g, v) :: r else (g, x) :: setF f v r
/-- a key as a value -/
def kD : Key → D
  | .inl i => .int i
  | .inr z => .str z
section
variable {K : PySem.W.Frag} {F F0 F' : Hp} {S : Sto} {H : Hp}
theorem kD_of {k : Key} : toD (kV k) = kD k := by cases k <;> rfl
theorem vd_key {k : Key} {v : V} (h : Vd K F v (kD k)) : v = kV k := by
  cases k <;> (cases h; rfl)
theorem vd_keyV {k : Key} : Vd K F (kV k) (kD k) := by cases k <;> constructor
/-- rows of keys with values, side by side -/
def KP (K : PySem.W.Frag) (F : Hp) {κ : Type} (kvs : List (κ × V)) (kds : List (κ × D)) : Prop := Paired (fun p q => p.1 = q.1 ∧ Vd K F p.2 q.2) kvs kds
theorem KP.of {κ : Type} : ∀ {kvs : List (κ × V)} {kds : List (κ × D)}, kvs.map (·.1) = kds.map (·.1) → VdAll K F (kvs.map (·.2)) (kds.map (·.2)) → KP K F kvs kds
  | [], [], _, _ => .nil
  | [], _ :: _, e, _ => by cases e
  | _ :: _, [], e, _ => by cases e
  | p :: r, q :: t, e, h => by
    have e1 := List.cons.inj e
    cases h with
    | cons a b => exact .cons ⟨e1.1, a⟩ (KP.of e1.2 b)
theorem KP.keys {κ : Type} : ∀ {kvs : List (κ × V)} {kds : List (κ × D)}, KP K F kvs kds → kvs.map (·.1) = kds.map (·.1)
  | _, _, .nil => rfl
  | _, _, .cons a t => by rw [List.map_cons, List.map_cons, a.1, KP.keys t]
theorem KP.vals {κ : Type} : ∀ {kvs : List (κ × V)} {kds : List (κ × D)}, KP K F kvs kds → VdAll K F (kvs.map (·.2)) (kds.map (·.2))
  | _, _, .nil => .nil
  | _, _, .cons a t => .cons a.2 (KP.vals t)
theorem KP.len {κ : Type} {kvs : List (κ × V)} {kds : List (κ × D)} (h : KP K F kvs kds) : kvs.length = kds.length := Paired.length h
theorem KP.get {κ : Type} [DecidableEq κ] {k : κ} {d : D} : ∀ {kvs : List (κ × V)} {kds : List (κ × D)}, KP K F kvs kds → getD' kds k = some d → ∃ v, valV kvs k = some v ∧ Vd K F v d
  | _, _, .nil, e => by cases e
  | p :: r, q :: t, .cons a b, e => by
    by_cases c : q.1 = k
    · have : getD' (q :: t) k = some q.2 := by simp [getD', List.find?_cons, c]
      rw [this] at e; cases e
      exact ⟨p.2, valV_pos (a.1.trans c), a.2⟩
    · have : getD' (q :: t) k = getD' t k := by simp [getD', List.find?_cons, c]
      rw [this] at e
      obtain ⟨v, h1, h2⟩ := KP.get b e
      exact ⟨v, by rw [valV_neg (fun z => c (a.1.symm.trans z))]; exact h1, h2⟩
theorem KP.getN {κ : Type} [DecidableEq κ] {k : κ} : ∀ {kvs : List (κ × V)} {kds : List (κ × D)}, KP K F kvs kds → getD' kds k = none → valV kvs k = none
  | _, _, .nil, _ => rfl
  | p :: r, q :: t, .cons a b, e => by
    by_cases c : q.1 = k
    · have : getD' (q :: t) k = some q.2 := by simp [getD', List.find?_cons, c]
      rw [this] at e; cases e
    · have : getD' (q :: t) k = getD' t k := by simp [getD', List.find?_cons, c]
      rw [this] at e
      rw [valV_neg (fun z => c (a.1.symm.trans z))]; exact KP.getN b e
theorem KP.getO {κ : Type} [DecidableEq κ] {k : κ} {kvs : List (κ × V)} {kds : List (κ × D)} (h : KP K F kvs kds) : (getD' kds k = none ∧ valV kvs k = none) ∨ ∃ v d, getD' kds k = some d ∧ valV kvs k = some v ∧ Vd K F v d := by
  cases e : getD' kds k with
  | none => exact .inl ⟨rfl, h.getN e⟩
  | some d =>
    obtain ⟨v, h1, h2⟩ := h.get e
    exact .inr ⟨v, d, rfl, h1, h2⟩
theorem KP.any {κ : Type} [DecidableEq κ] {k : κ} : ∀ {kvs : List (κ × V)} {kds : List (κ × D)}, KP K F kvs kds → (kvs.any fun kv => decide (kv.1 = k)) = kds.any fun kv => decide (kv.1 = k)
  | _, _, .nil => rfl
  | p :: r, q :: t, .cons a b => by rw [List.any_cons, List.any_cons, a.1, KP.any b]
theorem KP.mapv {κ : Type} [DecidableEq κ] {k : κ} {v : V} {d : D} (hv : Vd K F v d) : ∀ {kvs : List (κ × V)} {kds : List (κ × D)}, KP K F kvs kds → KP K F (kvs.map fun kv => if kv.1 = k then (kv.1, v) else kv) (kds.map fun kv => if kv.1 = k then (kv.1, d) else kv)
  | _, _, .nil => .nil
  | p :: r, q :: t, .cons a b => by
    refine .cons ?_ (KP.mapv hv b)
    by_cases c : q.1 = k
    · show (if p.1 = k then (p.1, v) else p).1 = (if q.1 = k then (q.1, d) else q).1 ∧ Vd K F (if p.1 = k then (p.1, v) else p).2 (if q.1 = k then (q.1, d) else q).2
      rw [if_pos c, if_pos (a.1.trans c)]; exact ⟨a.1, hv⟩
    · show (if p.1 = k then (p.1, v) else p).1 = (if q.1 = k then (q.1, d) else q).1 ∧ Vd K F (if p.1 = k then (p.1, v) else p).2 (if q.1 = k then (q.1, d) else q).2
      rw [if_neg c, if_neg (fun z => c (a.1.symm.trans z))]; exact a
theorem KP.app {κ : Type} : ∀ {kvs ls : List (κ × V)} {kds es : List (κ × D)}, KP K F kvs kds → KP K F ls es → KP K F (kvs ++ ls) (kds ++ es)
  | _, _, _, _, .nil, s => s
  | _, _, _, _, .cons a t, s => .cons a (KP.app t s)
theorem KP.put {κ : Type} [DecidableEq κ] {k : κ} {v : V} {d : D} (hv : Vd K F v d) {kvs : List (κ × V)} {kds : List (κ × D)} (h : KP K F kvs kds) : KP K F (putK kvs k v) (putD kds k d) := by
  unfold putK putD
  rw [h.any]
  split
  · exact h.mapv hv
  · exact h.app (.cons ⟨rfl, hv⟩ .nil)
theorem KP.drop {κ : Type} [DecidableEq κ] {k : κ} : ∀ {kvs : List (κ × V)} {kds : List (κ × D)}, KP K F kvs kds → KP K F (dropK kvs k) (dropD kds k)
  | _, _, .nil => .nil
  | p :: r, q :: t, .cons a b => by
    have ih := KP.drop (k := k) b
    unfold dropK dropD at ih ⊢
    by_cases c : q.1 = k
    · have c2 : p.1 = k := a.1.trans c
      rw [List.filter_cons, List.filter_cons, if_neg (show ¬ decide (p.1 ≠ k) = true by simpa using c2), if_neg (show ¬ decide (q.1 ≠ k) = true by simpa using c)]; exact ih
    · have c2 : ¬ p.1 = k := fun z => c (a.1.symm.trans z)
      rw [List.filter_cons, List.filter_cons, if_pos (show decide (p.1 ≠ k) = true by simpa using c2), if_pos (show decide (q.1 ≠ k) = true by simpa using c)]; exact .cons a ih
theorem KP.mono {κ : Type} (s : Same F F') : ∀ {kvs : List (κ × V)} {kds : List (κ × D)}, KP K F kvs kds → KP K F' kvs kds
  | _, _, .nil => .nil
  | _, _, .cons a t => .cons ⟨a.1, a.2.mono s⟩ (KP.mono s t)
theorem KP.lookup {f : Str} {d : D} : ∀ {kvs : List (Str × V)} {kds : List (Str × D)}, KP K F kvs kds → kds.lookup f = some d → ∃ v, kvs.lookup f = some v ∧ Vd K F v d
  | _, _, .nil, e => by cases e
  | (g, x) :: r, (g', y) :: t, .cons a b, e => by
    have e1 : g = g' := a.1
    subst e1
    rw [List.lookup_cons] at e ⊢
    by_cases c : (f == g) = true
    · rw [c] at e ⊢; cases e; exact ⟨x, rfl, a.2⟩
    · rw [Bool.not_eq_true] at c
      rw [c] at e ⊢; exact KP.lookup b e
theorem KP.lookupN {f : Str} : ∀ {kvs : List (Str × V)} {kds : List (Str × D)}, KP K F kvs kds → kds.lookup f = none → kvs.lookup f = none
  | _, _, .nil, _ => rfl
  | (g, x) :: r, (g', y) :: t, .cons a b, e => by
    have e1 : g = g' := a.1
    subst e1
    rw [List.lookup_cons] at e ⊢
    by_cases c : (f == g) = true
    · rw [c] at e; cases e
    · rw [Bool.not_eq_true] at c
      rw [c] at e ⊢; exact KP.lookupN b e
theorem KP.putF {f : Str} {v : V} {d : D} (hv : Vd K F v d) : ∀ {kvs : List (Str × V)} {kds : List (Str × D)}, KP K F kvs kds → KP K F (L2.putF f v kvs) (setF f d kds)
  | _, _, .nil => .cons ⟨rfl, hv⟩ .nil
  | (g, x) :: r, (g', y) :: t, .cons a b => by
    have e1 : g = g' := a.1
    subst e1
    unfold L2.putF setF
    by_cases c : g = f
    · rw [if_pos c, if_pos c]; exact .cons ⟨rfl, hv⟩ b
    · rw [if_neg c, if_neg c]; exact .cons a (KP.putF hv b)
theorem SeqL.at {v : V} {x : D} {ds : List D} (r : RelH K F0 F S H) (h : SeqL S x ds) (hv : Vd K F v x) : ∃ a xs, v = .ref a ∧ SqL K H a xs ∧ VdAll K F xs ds := by
  rcases h with rfl | ⟨a, rfl, e⟩ | rfl
  · cases hv with
    | lst h1 h2 => exact ⟨_, _, rfl, .inl (.inl (r.fr _ _ h1)), h2⟩
  · cases hv
    obtain ⟨xs, e1, h⟩ := r.lst e
    exact ⟨a, xs, rfl, .inl (.inl e1), h⟩
  · cases hv with
    | seq h1 h2 => exact ⟨_, _, rfl, r.fr.seq h1, h2⟩
theorem SeqW.at {v : V} {x : D} {ds : List D} (r : RelH K F0 F S H) (h : SeqW S x ds) (hv : Vd K F v x) : ∃ a xs, v = .ref a ∧ H a = some (.lst xs) ∧ VdAll K F xs ds := by
  rcases h with rfl | ⟨a, rfl, e⟩
  · cases hv with
    | lst h1 h2 => exact ⟨_, _, rfl, r.fr _ _ h1, h2⟩
  · cases hv
    obtain ⟨xs, e1, h⟩ := r.lst e
    exact ⟨a, xs, rfl, e1, h⟩
theorem tup_at {v : V} {ds : List D} (r : RelH K F0 F S H) (hv : Vd K F v (.tup ds)) : ∃ a xs, v = .ref a ∧ SqT K H a xs ∧ VdAll K F xs ds := by
  cases hv with
  | tup h1 h2 => exact ⟨_, _, rfl, .inl (.inl (r.fr _ _ h1)), h2⟩
theorem Ins.at {v : V} {x : D} {C : Addr} {ds : List (Str × D)} (r : RelH K F0 F S H) (h : Ins S x C ds) (hv : Vd K F v x) : ∃ a dx fs, v = .ref a ∧ H a = some (.ins C dx fs) ∧ KP K F fs ds := by
  rcases h with rfl | ⟨a, rfl, e⟩
  · cases hv with
    | ins h1 h2 h3 => exact ⟨_, _, _, rfl, r.fr _ _ h1, .of h2 h3⟩
  · cases hv
    obtain ⟨dx, fs, e1, h2, h3⟩ := r.ins e
    exact ⟨a, dx, fs, rfl, e1, .of h2 h3⟩
theorem DicK.at {v : V} {x : D} {kds : List (Key × D)} (r : RelH K F0 F S H) (h : DicK S x kds) (hv : Vd K F v x) : ∃ a kvs, v = .ref a ∧ Rd H a (.dK kvs) ∧ KP K F kvs kds := by
  rcases h with rfl | ⟨a, rfl, e⟩
  · cases hv with
    | dK h1 h2 h3 => exact ⟨_, _, rfl, .inr ⟨_, r.fr _ _ h1⟩, .of h2 h3⟩
  · cases hv
    obtain ⟨kvs, e1, h2, h3⟩ := r.dK e
    exact ⟨a, kvs, rfl, .inl e1, .of h2 h3⟩
theorem DicT.at {v : V} {x : D} {kds : List (List Key × D)} (r : RelH K F0 F S H) (h : DicT S x kds) (hv : Vd K F v x) : ∃ a kvs, v = .ref a ∧ Rd H a (.dT kvs) ∧ KP K F kvs kds := by
  rcases h with rfl | ⟨a, rfl, e⟩
  · cases hv with
    | dT h1 h2 h3 => exact ⟨_, _, rfl, .inr ⟨_, r.fr _ _ h1⟩, .of h2 h3⟩
  · cases hv
    obtain ⟨kvs, e1, h2, h3⟩ := r.dT e
    exact ⟨a, kvs, rfl, .inl e1, .of h2 h3⟩
end
section
variable {K : PySem.W.Frag} {F0 : Hp}
/-! ### fields -/
def dFld (K : PySem.W.Frag) (da : TED) (f : Str) : TED := fun env S P => da env S fun x S1 => ∃ C ds d, Ins S1 x C ds ∧ Cls K C ∧ NoAttr K C f ∧ ds.lookup f = some d ∧ P d S1
instance {ta : TE} {da : TED} {f : Str} [UpE K F0 ta da] : UpE K F0 (tFld K ta f) (dFld K da f) := ⟨fun r0 h le =>
  UpE.up (t := ta) (td := da) r0 h fun x S1 F1 H1 v ⟨C, ds, d, hi, c, n, l, p⟩ s1 r1 v1 => by
    obtain ⟨a, dx, fs, e, e1, kp⟩ := hi.at r1 v1
    obtain ⟨w, lw, hw⟩ := kp.lookup l
    exact ⟨a, C, dx, fs, w, e, e1, c, n, lw, le _ _ _ _ _ p s1 r1 hw⟩⟩
def zFld (K : PySem.W.Frag) (da dv : TED) (f : Str) : TSD := fun P env S => dv env S fun y S1 => da env S1 fun x S2 => ∃ a C ds, x = .ref a ∧ S2 a = some (.ins C ds) ∧ Cls K C ∧ NoAttr K C f ∧ ds.length < 1000 ∧ P.nx env (sup S2 a (.ins C (setF f y ds)))
instance {ta tv : TE} {da dv : TED} {f : Str} [UpE K F0 ta da] [UpE K F0 tv dv] : UpS K F0 (sFld K ta tv f) (zFld K da dv f) := ⟨fun r0 h le =>
  UpE.up (t := tv) (td := dv) r0 h fun y S1 F1 H1 u h1 s1 r1 v1 => UpE.up (t := ta) (td := da) (r0.at s1 r1) h1 fun x S2 F2 H2 v ⟨a, C, ds, e, e1, c, n, hl, p⟩ s2 r2 v2 => by
    subst e; cases v2
    obtain ⟨dx, fs, e2, h2, h3⟩ := r2.ins e1
    have kp : KP K F2 fs ds := .of h2 h3
    have kq := kp.putF (f := f) (v1.mono s2)
    exact ⟨a, C, dx, fs, rfl, e2, c, n, by rw [kp.len]; exact hl, le.nx _ _ _ _ _ p (s1.trans s2) ((r0.at (s1.trans s2) (r2.put e1 (.ins kq.keys kq.vals))))⟩⟩
def zFldAug (K : PySem.W.Frag) (da dv : TED) (rd : R2D) (f : Str) : TSD := fun P env S => da env S fun x S1 => ∃ a C ds d, x = .ref a ∧ S1 a = some (.ins C ds) ∧ Cls K C ∧ NoAttr K C f ∧ ds.lookup f = some d ∧
  dv env S1 fun y S2 => rd d y S2 fun z S3 => ∃ ds', S3 a = some (.ins C ds') ∧ ds'.length < 1000 ∧ P.nx env (sup S3 a (.ins C (setF f z ds')))
instance {ta tv : TE} {da dv : TED} {r : R2} {rd : R2D} {f : Str} [UpE K F0 ta da] [UpE K F0 tv dv] [UpR K F0 r rd] : UpS K F0 (sFldAug K ta tv r f) (zFldAug K da dv rd f) := ⟨fun r0 h le =>
  UpE.up (t := ta) (td := da) r0 h fun x S1 F1 H1 v ⟨a, C, ds, d, e, e1, c, n, l, h1⟩ s1 r1 v1 => by
    subst e; cases v1
    obtain ⟨dx, fs, e2, h2, h3⟩ := r1.ins e1
    have kp : KP K F1 fs ds := .of h2 h3
    obtain ⟨w, lw, hw⟩ := kp.lookup l
    refine ⟨a, C, dx, fs, w, rfl, e2, c, n, lw, UpE.up (t := tv) (td := dv) (r0.at s1 r1) h1 fun y S2 F2 H2 u h4 s2 r2 v2 => UpR.up (r := r) (rd := rd) r2 (hw.mono s2) v2 h4 fun z S3 F3 H3 q ⟨ds', e3, hl, p⟩ s3 r3 v3 => ?_⟩
    obtain ⟨dx', fs', e4, h5, h6⟩ := r3.ins e3
    have kp' : KP K F3 fs' ds' := .of h5 h6
    have kq := kp'.putF (f := f) v3
    exact ⟨dx', fs', e4, by rw [kp'.len]; exact hl, le.nx _ _ _ _ _ p ((s1.trans s2).trans s3) (r0.at ((s1.trans s2).trans s3) (r3.put e3 (.ins kq.keys kq.vals)))⟩⟩
instance : UpR K F0 rAdd (dI0 fun i j => .int (i + j)) := ⟨fun r hv hu ⟨i, j, e1, e2, p⟩ le => by
  subst e1; subst e2; cases hv; cases hu
  exact ⟨i, j, rfl, rfl, le _ _ _ _ _ p (Same.refl _) r (.int _)⟩⟩
instance : UpR K F0 rSub (dI0 fun i j => .int (i - j)) := ⟨fun r hv hu ⟨i, j, e1, e2, p⟩ le => by
  subst e1; subst e2; cases hv; cases hu
  exact ⟨i, j, rfl, rfl, le _ _ _ _ _ p (Same.refl _) r (.int _)⟩⟩
/-! ### places -/
theorem VdAll.atI {F : Hp} {xs : List V} {ds : List D} {i : Int} {d : D} (h : VdAll K F xs ds) (e : L2.atI ds i = some d) : ∃ v, L2.atI xs i = some v ∧ Vd K F v d := by
  unfold L2.atI at e ⊢
  rw [h.len]
  cases q : ixN ds.length i with
  | none => rw [q] at e; cases e
  | some j => rw [q] at e; exact h.get e
def dIxL : R2D := fun x y S P => ∃ ds i d, y = .int i ∧ SeqL S x ds ∧ L2.atI ds i = some d ∧ P d S
instance : UpR K F0 (rIxL K) dIxL := ⟨fun r hv hu ⟨ds, i, d, e1, hs, hd, p⟩ le => by
  subst e1; cases hu
  obtain ⟨a, xs, e, hq, ha⟩ := hs.at r hv
  obtain ⟨w, h1, h2⟩ := ha.atI hd
  exact ⟨a, xs, i, w, e, rfl, hq, h1, le _ _ _ _ _ p (Same.refl _) r h2⟩⟩
def dIxT : R2D := fun x y S P => ∃ ds i d, x = .tup ds ∧ y = .int i ∧ L2.atI ds i = some d ∧ P d S
instance : UpR K F0 (rIxT K) dIxT := ⟨fun r hv hu ⟨ds, i, d, e0, e1, hd, p⟩ le => by
  subst e0; subst e1; cases hu
  obtain ⟨a, xs, e, hq, ha⟩ := tup_at r hv
  obtain ⟨w, h1, h2⟩ := ha.atI hd
  exact ⟨a, xs, i, w, e, rfl, hq, h1, le _ _ _ _ _ p (Same.refl _) r h2⟩⟩
def dIxS : R2D := fun x y S P => ∃ z i c, x = .str z ∧ y = .int i ∧ z.length ≤ sizeLine ∧ L2.atI z.cps.toList i = some c ∧ P (.str ⟨#[c]⟩) S
instance : UpR K F0 rIxS dIxS := ⟨fun r hv hu ⟨z, i, c, e0, e1, hl, hc, p⟩ le => by
  subst e0; subst e1; cases hu; cases hv
  exact ⟨z, i, c, rfl, rfl, hl, hc, le _ _ _ _ _ p (Same.refl _) r (.str _)⟩⟩
inductive IxS (S : Sto) : D → D → D → Prop
  | lst {x : D} {ds : List D} {i : Int} {d : D} : SeqL S x ds → L2.atI ds i = some d → IxS S x (.int i) d
  | tup {ds : List D} {i : Int} {d : D} : L2.atI ds i = some d → IxS S (.tup ds) (.int i) d
  | str {z : Str} {i : Int} {c : Nat} : z.length ≤ sizeLine → L2.atI z.cps.toList i = some c → IxS S (.str z) (.int i) (.str ⟨#[c]⟩)
def dIx : R2D := fun x y S P => ∃ d, IxS S x y d ∧ P d S
instance : UpR K F0 (rIx K) dIx := ⟨fun r hv hu ⟨d, h, p⟩ le => by
  cases h with
  | lst h1 h2 => exact .inl (UpR.up (r := rIxL K) (rd := dIxL) r hv hu ⟨_, _, _, rfl, h1, h2, p⟩ le)
  | tup h2 => exact .inr (.inl (UpR.up (r := rIxT K) (rd := dIxT) r hv hu ⟨_, _, _, rfl, rfl, h2, p⟩ le))
  | str h1 h2 => exact .inr (.inr (UpR.up (r := rIxS) (rd := dIxS) r hv hu ⟨_, _, _, rfl, rfl, h1, h2, p⟩ le))⟩
/-! ### parts -/
abbrev TOD := EnvD → Sto → (Option Int → Sto → Prop) → Prop
class UpO (K : PySem.W.Frag) (F0 : Hp) (t : TO) (td : outParam TOD) : Prop where
  up : ∀ {σ : L2.St} {H : Hp} {Q : Option Int → Hp → Prop} {F : Hp} {S : Sto} {env : EnvD} {P : Option Int → Sto → Prop}, Rel K F0 F S env σ H → td env S P → (∀ x S' F' H', P x S' → Same F F' → RelH K F0 F' S' H' → Q x H') → t σ H Q
def dNoPart : TOD := fun _ S P => P none S
instance : UpO K F0 tNoPart dNoPart := ⟨fun r0 h le => le _ _ _ _ h (Same.refl _) r0.h⟩
def dPart (da : TED) : TOD := fun env S P => da env S fun x S1 => ∃ i, x = .int i ∧ P (some i) S1
instance {ta : TE} {da : TED} [UpE K F0 ta da] : UpO K F0 (tPart ta) (dPart da) := ⟨fun r0 h le =>
  UpE.up (t := ta) (td := da) r0 h fun x S1 F1 H1 v ⟨i, e, p⟩ s1 r1 v1 => by subst e; cases v1; exact ⟨i, rfl, le _ _ _ _ p s1 r1⟩⟩
abbrev RSl := V → Option Int → Option Int → Hp → VK → Prop
abbrev RSlD := D → Option Int → Option Int → Sto → PV → Prop
class UpSl (K : PySem.W.Frag) (F0 : Hp) (r : RSl) (rd : outParam RSlD) : Prop where
  up : ∀ {v : V} {x : D} {lo hi : Option Int} {H : Hp} {Q : VK} {F : Hp} {S : Sto} {P : PV}, RelH K F0 F S H → Vd K F v x → rd x lo hi S P → LeV K F0 F P Q → r v lo hi H Q
def dSl (rd : RSlD) (da : TED) (dl dh : TOD) : TED := fun env S P => da env S fun x S1 => dl env S1 fun l S2 => dh env S2 fun u S3 => rd x l u S3 P
instance {r : RSl} {rd : RSlD} {te : TE} {de : TED} {tl th : TO} {dl dh : TOD} [UpSl K F0 r rd] [UpE K F0 te de] [UpO K F0 tl dl] [UpO K F0 th dh] : UpE K F0 (tSl r te tl th) (dSl rd de dl dh) := ⟨fun r0 h le =>
  UpE.up (t := te) (td := de) r0 h fun x S1 F1 H1 v h1 s1 r1 v1 => UpO.up (t := tl) (td := dl) (r0.at s1 r1) h1 fun l S2 F2 H2 h2 s2 r2 => UpO.up (t := th) (td := dh) (r0.at (s1.trans s2) r2) h2 fun u S3 F3 H3 h3 s3 r3 =>
    UpSl.up (r := r) (rd := rd) r3 ((v1.mono s2).mono s3) h3 (le.mono ((s1.trans s2).trans s3))⟩
def cutD (xs : List D) (lo hi : Option Int) : List D := (xs.drop (HT.sIx xs.length 0 lo)).take (HT.sIx xs.length xs.length hi - HT.sIx xs.length 0 lo)
theorem VdAll.cut {F : Hp} {xs : List V} {ds : List D} (lo hi : Option Int) (h : VdAll K F xs ds) : VdAll K F (cutV xs lo hi) (cutD ds lo hi) := by
  unfold cutV cutD
  rw [h.len]
  exact (h.drop _).take _
def dSlL : RSlD := fun x lo hi S P => ∃ ds, SeqL S x ds ∧ ∀ p, S p = none → P (.ref p) (sup S p (.lst (cutD ds lo hi)))
instance : UpSl K F0 (rSlL K) dSlL := ⟨fun r hv ⟨ds, hs, p⟩ le => by
  obtain ⟨a, xs, e, hq, ha⟩ := hs.at r hv
  exact ⟨a, xs, e, hq, fun q hq => le _ _ _ _ _ (p q (r.free hq).2) (Same.refl _) (r.new hq (.lst (ha.cut _ _))) (.ref q)⟩⟩
def dSlT : RSlD := fun x lo hi S P => ∃ ds, x = .tup ds ∧ ¬ (HT.sIx ds.length 0 lo = 0 ∧ HT.sIx ds.length ds.length hi = ds.length) ∧ P (.tup (cutD ds lo hi)) S
instance : UpSl K F0 (rSlT K) dSlT := ⟨fun r hv ⟨ds, e0, hn, p⟩ le => by
  subst e0
  obtain ⟨a, xs, e, hq, ha⟩ := tup_at r hv
  refine ⟨a, xs, e, hq, by rw [ha.len]; exact hn, fun q hq => ?_⟩
  obtain ⟨s2, r2⟩ := r.newF (ho := .tup (cutV xs _ _)) hq
  exact le _ _ _ _ _ p s2 r2 (.tup upd_same ((ha.cut _ _).mono s2))⟩
/-! ### dicts -/
def dDGet (dd dy : TED) : TED := fun env S P => dd env S fun x S1 => dy env S1 fun y S2 => (∃ kds k d, DicK S2 x kds ∧ y = kD k ∧ getD' kds k = some d ∧ P d S2) ∨ ∃ kds k d, DicT S2 x kds ∧ y = .tup (k.map kD) ∧ getD' kds k = some d ∧ P d S2
theorem vd_keysT {F : Hp} : ∀ {k : List Key} {xs : List V}, VdAll K F xs (k.map kD) → xs = k.map kV
  | [], _, h => by cases h; rfl
  | k :: r, _, h => by
    cases h with
    | cons a b => rw [vd_key a, vd_keysT b]; rfl
theorem dget_at {F : Hp} {S : Sto} {H : Hp} {v u : V} {x y : D} {P : PV} {C : Option D → Sto → Prop} (r : RelH K F0 F S H) (hv : Vd K F v x) (hu : Vd K F u y)
    (h : (∃ kds k, DicK S x kds ∧ y = kD k ∧ C (getD' kds k) S)) : ∃ a o od, v = .ref a ∧ DGet H a u o ∧ C od S ∧ ((o = none ∧ od = none) ∨ ∃ w d, o = some w ∧ od = some d ∧ Vd K F w d) := by
  obtain ⟨kds, k, hd, rfl, c⟩ := h
  obtain ⟨a, kvs, e, rd, kp⟩ := hd.at r hv
  refine ⟨a, valV kvs k, _, e, .inl ⟨kvs, k, rd, vd_key hu, rfl⟩, c, ?_⟩
  rcases kp.getO (k := k) with ⟨e1, e2⟩ | ⟨w, d, e1, e2, h⟩
  · exact .inl ⟨e2, e1⟩
  · exact .inr ⟨w, d, e2, e1, h⟩
instance {td ty : TE} {dd dy : TED} [UpE K F0 td dd] [UpE K F0 ty dy] : UpE K F0 (tDGet td ty) (dDGet dd dy) := ⟨fun r0 h le =>
  UpE.up (t := td) (td := dd) r0 h fun x S1 F1 H1 v h1 s1 r1 v1 => UpE.up (t := ty) (td := dy) (r0.at s1 r1) h1 fun y S2 F2 H2 u h2 s2 r2 v2 => by
    rcases h2 with ⟨kds, k, d, hd, rfl, hg, p⟩ | ⟨kds, k, d, hd, rfl, hg, p⟩
    · obtain ⟨a, kvs, e, rd, kp⟩ := hd.at r2 (v1.mono s2)
      obtain ⟨w, hw, hv⟩ := kp.get hg
      exact ⟨a, w, e, .inl ⟨kvs, k, rd, vd_key v2, hw.symm⟩, le _ _ _ _ _ p (s1.trans s2) r2 hv⟩
    · obtain ⟨a, kvs, e, rd, kp⟩ := hd.at r2 (v1.mono s2)
      obtain ⟨w, hw, hv⟩ := kp.get hg
      cases v2 with
      | tup t1 t2 =>
        rw [vd_keysT t2] at t1
        exact ⟨a, w, e, .inr ⟨kvs, k, _, rd, rfl, r2.fr _ _ t1, hw.symm⟩, le _ _ _ _ _ p (s1.trans s2) r2 hv⟩⟩
/-- what stands by a key -/
def DGot (S : Sto) (x y : D) (o : Option D) : Prop := (∃ kds k, DicK S x kds ∧ y = kD k ∧ o = getD' kds k) ∨ ∃ kds k, DicT S x kds ∧ y = .tup (k.map kD) ∧ o = getD' kds k
theorem DGot.at {F : Hp} {S : Sto} {H : Hp} {v u : V} {x y : D} {o : Option D} (r : RelH K F0 F S H) (hv : Vd K F v x) (hu : Vd K F u y) (h : DGot S x y o) :
    ∃ a ov, v = .ref a ∧ DGet H a u ov ∧ IsD H a ∧ ((o = none ∧ ov = none) ∨ ∃ w d, ov = some w ∧ o = some d ∧ Vd K F w d) := by
  rcases h with ⟨kds, k, hd, rfl, rfl⟩ | ⟨kds, k, hd, rfl, rfl⟩
  · obtain ⟨a, kvs, e, rd, kp⟩ := hd.at r hv
    refine ⟨a, valV kvs k, e, .inl ⟨kvs, k, rd, vd_key hu, rfl⟩, .inl ⟨_, rd⟩, ?_⟩
    rcases kp.getO (k := k) with ⟨e1, e2⟩ | ⟨w, d, e1, e2, h⟩
    · exact .inl ⟨e1, e2⟩
    · exact .inr ⟨w, d, e2, e1, h⟩
  · obtain ⟨a, kvs, e, rd, kp⟩ := hd.at r hv
    cases hu with
    | tup t1 t2 =>
      rw [vd_keysT t2] at t1
      refine ⟨a, valV kvs k, e, .inr ⟨kvs, k, _, rd, rfl, r.fr _ _ t1, rfl⟩, .inr ⟨_, rd⟩, ?_⟩
      rcases kp.getO (k := k) with ⟨e1, e2⟩ | ⟨w, d, e1, e2, h⟩
      · exact .inl ⟨e1, e2⟩
      · exact .inr ⟨w, d, e2, e1, h⟩
def dDIn (dy dd : TED) : TED := fun env S P => dy env S fun y S1 => dd env S1 fun x S2 => ∃ o, DGot S2 x y o ∧ P (.bl o.isSome) S2
def dDNotIn (dy dd : TED) : TED := fun env S P => dy env S fun y S1 => dd env S1 fun x S2 => ∃ o, DGot S2 x y o ∧ P (.bl (!o.isSome)) S2
theorem opt_isSome {F : Hp} {ov : Option V} {o : Option D} (h : (o = none ∧ ov = none) ∨ ∃ w d, ov = some w ∧ o = some d ∧ Vd K F w d) : ov.isSome = o.isSome := by
  rcases h with ⟨rfl, rfl⟩ | ⟨w, d, rfl, rfl, _⟩ <;> rfl
instance {td ty : TE} {dd dy : TED} [UpE K F0 td dd] [UpE K F0 ty dy] : UpE K F0 (tDIn ty td) (dDIn dy dd) := ⟨fun r0 h le =>
  UpE.up (t := ty) (td := dy) r0 h fun y S1 F1 H1 u h1 s1 r1 v1 => UpE.up (t := td) (td := dd) (r0.at s1 r1) h1 fun x S2 F2 H2 v ⟨o, hg, p⟩ s2 r2 v2 => by
    obtain ⟨a, ov, e, dg, _, hh⟩ := hg.at r2 v2 (v1.mono s2)
    exact ⟨a, ov, e, dg, by rw [opt_isSome hh]; exact le _ _ _ _ _ p (s1.trans s2) r2 (.bl _)⟩⟩
instance {td ty : TE} {dd dy : TED} [UpE K F0 td dd] [UpE K F0 ty dy] : UpE K F0 (tDNotIn ty td) (dDNotIn dy dd) := ⟨fun r0 h le =>
  UpE.up (t := ty) (td := dy) r0 h fun y S1 F1 H1 u h1 s1 r1 v1 => UpE.up (t := td) (td := dd) (r0.at s1 r1) h1 fun x S2 F2 H2 v ⟨o, hg, p⟩ s2 r2 v2 => by
    obtain ⟨a, ov, e, dg, _, hh⟩ := hg.at r2 v2 (v1.mono s2)
    exact ⟨a, ov, e, dg, by rw [opt_isSome hh]; exact le _ _ _ _ _ p (s1.trans s2) r2 (.bl _)⟩⟩
def dDGet1 (dd dy : TED) : TED := fun env S P => dd env S fun x S1 => dy env S1 fun y S2 => ∃ o, DGot S1 x y o ∧ DGot S2 x y o ∧ P (o.getD .non) S2
theorem opt_getD {F : Hp} {ov : Option V} {o : Option D} {z : V} {w : D} (hz : Vd K F z w) (h : (o = none ∧ ov = none) ∨ ∃ w d, ov = some w ∧ o = some d ∧ Vd K F w d) : Vd K F (ov.getD z) (o.getD w) := by
  rcases h with ⟨rfl, rfl⟩ | ⟨w, d, rfl, rfl, h⟩
  · exact hz
  · exact h
/-- the thing is a dict -/
def IsDic (S : Sto) (x : D) : Prop := (∃ kds, DicK S x kds) ∨ ∃ kds, DicT S x kds
theorem IsDic.at {F : Hp} {S : Sto} {H : Hp} {v : V} {x : D} (r : RelH K F0 F S H) (hv : Vd K F v x) (h : IsDic S x) : ∃ a, v = .ref a ∧ IsD H a := by
  rcases h with ⟨kds, h⟩ | ⟨kds, h⟩
  · obtain ⟨a, kvs, e, rd, _⟩ := h.at r hv
    exact ⟨a, e, .inl ⟨_, rd⟩⟩
  · obtain ⟨a, kvs, e, rd, _⟩ := h.at r hv
    exact ⟨a, e, .inr ⟨_, rd⟩⟩
def zDGet1 (dd dy : TED) : TED := fun env S P => dd env S fun x S1 => IsDic S1 x ∧ dy env S1 fun y S2 => ∃ o, DGot S2 x y o ∧ P (o.getD .non) S2
instance {td ty : TE} {dd dy : TED} [UpE K F0 td dd] [UpE K F0 ty dy] : UpE K F0 (tDGet1 td ty) (zDGet1 dd dy) := ⟨fun r0 h le =>
  UpE.up (t := td) (td := dd) r0 h fun x S1 F1 H1 v ⟨hi, h1⟩ s1 r1 v1 => by
    obtain ⟨a, e, hd⟩ := hi.at r1 v1
    refine ⟨a, e, hd, UpE.up (t := ty) (td := dy) (r0.at s1 r1) h1 fun y S2 F2 H2 u ⟨o, hg, p⟩ s2 r2 v2 => ?_⟩
    obtain ⟨a', ov, e', dg, _, hh⟩ := hg.at r2 (v1.mono s2) v2
    rw [e] at e'; cases e'
    exact ⟨ov, dg, le _ _ _ _ _ p (s1.trans s2) r2 (opt_getD .non hh)⟩⟩
def zDGet2 (dd dy dx : TED) : TED := fun env S P => dd env S fun x S1 => IsDic S1 x ∧ dy env S1 fun y S2 => dx env S2 fun z S3 => ∃ o, DGot S3 x y o ∧ P (o.getD z) S3
instance {td ty tx : TE} {dd dy dx : TED} [UpE K F0 td dd] [UpE K F0 ty dy] [UpE K F0 tx dx] : UpE K F0 (tDGet2 td ty tx) (zDGet2 dd dy dx) := ⟨fun r0 h le =>
  UpE.up (t := td) (td := dd) r0 h fun x S1 F1 H1 v ⟨hi, h1⟩ s1 r1 v1 => by
    obtain ⟨a, e, hd⟩ := hi.at r1 v1
    refine ⟨a, e, hd, UpE.up (t := ty) (td := dy) (r0.at s1 r1) h1 fun y S2 F2 H2 u h2 s2 r2 v2 => UpE.up (t := tx) (td := dx) (r0.at (s1.trans s2) r2) h2 fun z S3 F3 H3 w ⟨o, hg, p⟩ s3 r3 v3 => ?_⟩
    obtain ⟨a', ov, e', dg, _, hh⟩ := hg.at r3 ((v1.mono s2).mono s3) (v2.mono s3)
    rw [e] at e'; cases e'
    exact ⟨ov, dg, le _ _ _ _ _ p ((s1.trans s2).trans s3) r3 (opt_getD v3 hh)⟩⟩
def zDPop1 (dd dy : TED) : TED := fun env S P => dd env S fun x S1 => ∃ a, x = .ref a ∧ IsDic S1 x ∧ dy env S1 fun y S2 => ∃ kds k d, S2 a = some (.dK kds) ∧ y = kD k ∧ getD' kds k = some d ∧ P d (sup S2 a (.dK (dropD kds k)))
instance {td ty : TE} {dd dy : TED} [UpE K F0 td dd] [UpE K F0 ty dy] : UpE K F0 (tDPop1 td ty) (zDPop1 dd dy) := ⟨fun r0 h le =>
  UpE.up (t := td) (td := dd) r0 h fun x S1 F1 H1 v ⟨a, e, hi, h1⟩ s1 r1 v1 => by
    subst e
    obtain ⟨a', e', hd⟩ := hi.at r1 v1
    cases v1; cases e'
    refine ⟨a, rfl, hd, UpE.up (t := ty) (td := dy) (r0.at s1 r1) h1 fun y S2 F2 H2 u ⟨kds, k, d, e2, ey, hg, p⟩ s2 r2 v2 => ?_⟩
    subst ey
    obtain ⟨kvs, e3, h3, h4⟩ := r2.dK e2
    have kp : KP K F2 kvs kds := .of h3 h4
    obtain ⟨w, hw, hv⟩ := kp.get hg
    have kq := kp.drop (k := k)
    exact ⟨kvs, k, w, e3, vd_key v2, hw, le _ _ _ _ _ p (s1.trans s2) (r2.put e2 (.dK kq.keys kq.vals)) hv⟩⟩
def zDPop2 (dd dy dx : TED) : TED := fun env S P => dd env S fun x S1 => ∃ a, x = .ref a ∧ IsDic S1 x ∧ dy env S1 fun y S2 => dx env S2 fun z S3 => ∃ kds k, S3 a = some (.dK kds) ∧ y = kD k ∧
  (∀ d, getD' kds k = some d → P d (sup S3 a (.dK (dropD kds k)))) ∧ (getD' kds k = none → P z S3)
instance {td ty tx : TE} {dd dy dx : TED} [UpE K F0 td dd] [UpE K F0 ty dy] [UpE K F0 tx dx] : UpE K F0 (tDPop2 td ty tx) (zDPop2 dd dy dx) := ⟨fun r0 h le =>
  UpE.up (t := td) (td := dd) r0 h fun x S1 F1 H1 v ⟨a, e, hi, h1⟩ s1 r1 v1 => by
    subst e
    obtain ⟨a', e', hd⟩ := hi.at r1 v1
    cases v1; cases e'
    refine ⟨a, rfl, hd, UpE.up (t := ty) (td := dy) (r0.at s1 r1) h1 fun y S2 F2 H2 u h2 s2 r2 v2 => UpE.up (t := tx) (td := dx) (r0.at (s1.trans s2) r2) h2 fun z S3 F3 H3 w ⟨kds, k, e2, ey, p1, p2⟩ s3 r3 v3 => ?_⟩
    subst ey
    obtain ⟨kvs, e3, h3, h4⟩ := r3.dK e2
    have kp : KP K F3 kvs kds := .of h3 h4
    have kq := kp.drop (k := k)
    refine ⟨kvs, k, e3, vd_key v2, fun w' hw => ?_, fun hw => ?_⟩
    · rcases kp.getO (k := k) with ⟨_, e5⟩ | ⟨w2, d, e4, e5, hv⟩
      · rw [e5] at hw; cases hw
      · rw [e5] at hw; cases hw
        exact le _ _ _ _ _ (p1 d e4) ((s1.trans s2).trans s3) (r3.put e2 (.dK kq.keys kq.vals)) hv
    · rcases kp.getO (k := k) with ⟨e4, _⟩ | ⟨w2, d, e4, e5, hv⟩
      · exact le _ _ _ _ _ (p2 e4) ((s1.trans s2).trans s3) r3 v3
      · rw [e5] at hw; cases hw⟩
/-- d[y] = v -/
def DPutD (S : Sto) (a : Addr) (y v : D) (S' : Sto) : Prop := (∃ kds k, S a = some (.dK kds) ∧ y = kD k ∧ kds.length < sizeLine ∧ S' = sup S a (.dK (putD kds k v))) ∨ ∃ kds k, S a = some (.dT kds) ∧ y = .tup (k.map kD) ∧ kds.length < sizeLine ∧ S' = sup S a (.dT (putD kds k v))
theorem DPutD.at {F : Hp} {S S' : Sto} {H : Hp} {a : Addr} {u w : V} {y z : D} (r : RelH K F0 F S H) (hu : Vd K F u y) (hw : Vd K F w z) (h : DPutD S a y z S') : ∃ H', DPut H a u w H' ∧ RelH K F0 F S' H' := by
  rcases h with ⟨kds, k, e, rfl, hl, rfl⟩ | ⟨kds, k, e, rfl, hl, rfl⟩
  · obtain ⟨kvs, e3, h3, h4⟩ := r.dK e
    have kp : KP K F kvs kds := .of h3 h4
    have kq := kp.put (k := k) hw
    exact ⟨_, .inl ⟨kvs, k, e3, vd_key hu, by rw [kp.len]; exact hl, rfl⟩, r.put e (.dK kq.keys kq.vals)⟩
  · obtain ⟨kvs, e3, h3, h4⟩ := r.dT e
    have kp : KP K F kvs kds := .of h3 h4
    have kq := kp.put (k := k) hw
    cases hu with
    | tup t1 t2 =>
      rw [vd_keysT t2] at t1
      exact ⟨_, .inr ⟨kvs, k, _, e3, rfl, r.fr _ _ t1, by rw [kp.len]; exact hl, rfl⟩, r.put e (.dT kq.keys kq.vals)⟩
def zDPut (dd dy dv : TED) : TSD := fun P env S => dv env S fun v S1 => dd env S1 fun x S2 => dy env S2 fun y S3 => ∃ a S4, x = .ref a ∧ DPutD S3 a y v S4 ∧ P.nx env S4
instance {td ty tv : TE} {dd dy dv : TED} [UpE K F0 td dd] [UpE K F0 ty dy] [UpE K F0 tv dv] : UpS K F0 (sDPut td ty tv) (zDPut dd dy dv) := ⟨fun r0 h le =>
  UpE.up (t := tv) (td := dv) r0 h fun v S1 F1 H1 w h1 s1 r1 v1 => UpE.up (t := td) (td := dd) (r0.at s1 r1) h1 fun x S2 F2 H2 u h2 s2 r2 v2 => UpE.up (t := ty) (td := dy) (r0.at (s1.trans s2) r2) h2 fun y S3 F3 H3 u3 ⟨a, S4, e, hp, p⟩ s3 r3 v3 => by
    subst e; cases v2
    obtain ⟨H', dp, r4⟩ := hp.at r3 v3 ((v1.mono s2).mono s3)
    exact ⟨a, H', rfl, dp, le.nx _ _ _ _ _ p ((s1.trans s2).trans s3) (r0.at ((s1.trans s2).trans s3) r4)⟩⟩
/-! ### stores to a place -/
abbrev TSetD := D → D → D → Sto → (Sto → Prop) → Prop
class UpSet (K : PySem.W.Frag) (F0 : Hp) (t : TSet) (td : outParam TSetD) : Prop where
  up : ∀ {o i v : V} {x y z : D} {H : Hp} {Q : Hp → Prop} {F : Hp} {S : Sto} {P : Sto → Prop}, RelH K F0 F S H → Vd K F o x → Vd K F i y → Vd K F v z → td x y z S P → (∀ S' F' H', P S' → Same F F' → RelH K F0 F' S' H' → Q H') → t o i v H Q
def dSetL : TSetD := fun x y z S P => ∃ a ds k j, x = .ref a ∧ y = .int k ∧ S a = some (.lst ds) ∧ ixN ds.length k = some j ∧ P (sup S a (.lst (ds.set j z)))
instance : UpSet K F0 rSetL dSetL := ⟨fun r h1 h2 h3 ⟨a, ds, k, j, e1, e2, e3, e4, p⟩ le => by
  subst e1; subst e2; cases h1; cases h2
  obtain ⟨xs, e5, hx⟩ := r.lst e3
  exact ⟨a, xs, k, j, rfl, rfl, e5, by rw [hx.len]; exact e4, le _ _ _ p (Same.refl _) (r.put e3 (.lst (hx.set h3 j)))⟩⟩
def dSetD : TSetD := fun x y z S P => ∃ a S', x = .ref a ∧ DPutD S a y z S' ∧ P S'
instance : UpSet K F0 (fun o i v H Q => ∃ a H', o = .ref a ∧ DPut H a i v H' ∧ Q H') dSetD := ⟨fun r h1 h2 h3 ⟨a, S', e1, hp, p⟩ le => by
  subst e1; cases h1
  obtain ⟨H', dp, r4⟩ := hp.at r h2 h3
  exact ⟨a, H', rfl, dp, le _ _ _ p (Same.refl _) r4⟩⟩
def kSub (dd dy : TED) (td : TSetD) : TGD := fun z env S P => dd env S fun x S1 => dy env S1 fun y S2 => td x y z S2 fun S3 => P env S3
instance {to ti : TE} {dd dy : TED} {t : TSet} {td : TSetD} [UpE K F0 to dd] [UpE K F0 ti dy] [UpSet K F0 t td] : UpG K F0 (gSub to ti t) (kSub dd dy td) := ⟨fun r0 hv h le =>
  UpE.up (t := to) (td := dd) r0 h fun x S1 F1 H1 v h1 s1 r1 v1 => UpE.up (t := ti) (td := dy) (r0.at s1 r1) h1 fun y S2 F2 H2 u h2 s2 r2 v2 =>
    UpSet.up (t := t) (td := td) r2 (v1.mono s2) v2 ((hv.mono s1).mono s2) h2 fun S3 F3 H3 p s3 r3 => le _ _ _ _ _ p ((s1.trans s2).trans s3) (r0.at ((s1.trans s2).trans s3) r3)⟩
end
end L2.VW

/-! ## calls, methods, plain data -/
namespace L2.VW
open PySem PySem.Spec PyProof.Rows
/-! ### promises -/
abbrev SpD := List D → Sto → PV → XD → Prop
def upSp (K : PySem.W.Frag) (sp : SpD) : Sp := fun vs H Q E => ∃ F S ds P PE, RelH K F F S H ∧ VdAll K F vs ds ∧ sp ds S P PE ∧ LeV K F F P Q ∧ LeX K F F PE E
/-- what is wanted of errors, from the entry on -/
class XLe (K : PySem.W.Frag) (F0 : Hp) (E : XK) (PE : outParam XD) : Prop where
  le : LeX K F0 F0 PE E
def noE : XK := fun _ _ _ => False
def noX : XD := fun _ _ _ => False
section
variable {K : PySem.W.Frag} {F0 : Hp}
instance : XLe K F0 noE noX := ⟨fun _ _ _ _ _ _ h => h.elim⟩
theorem RelH.base {F : Hp} {S : Sto} {H : Hp} (r : RelH K F0 F S H) : RelH K F F S H := ⟨Same.refl _, r.fr, r.tr⟩
theorem RelH.from {F F' : Hp} {S : Sto} {H : Hp} (s : Same F0 F) (r : RelH K F F' S H) : RelH K F0 F' S H := ⟨s.trans r.s0, r.fr, r.tr⟩
theorem LeV.sub {F : Hp} {P : PV} {Q : VK} (s : Same F0 F) (h : LeV K F0 F P Q) : LeV K F F P Q := fun x S F' H v p t r => h x S F' H v p t (r.from s)
theorem LeX.sub {F : Hp} {P : XD} {E : XK} (s : Same F0 F) (h : LeX K F0 F0 P E) : LeX K F F P E := fun C ds S F' H d p t r => h C ds S F' H d p (s.trans t) (r.from s)
theorem upSp.at {sp : SpD} {vs : List V} {ds : List D} {F : Hp} {S : Sto} {H : Hp} {Q : VK} {E : XK} {P : PV} {PE : XD} [x : XLe K F0 E PE] (r : RelH K F0 F S H) (hv : VdAll K F vs ds) (h : sp ds S P PE) (le : LeV K F0 F P Q) : upSp K sp vs H Q E :=
  ⟨F, S, ds, P, PE, r.base, hv, h, le.sub r.s0, x.le.sub r.s0⟩
def dCall (spd : SpD) (dvs : List V) (PE : XD) (da : TAD) : TED := fun env S P => da env S fun xs S1 => spd (xs ++ dvs.map toD) S1 P PE
instance {spd : SpD} {dvs : List V} {E : XK} {PE : XD} {ta : TA} {da : TAD} [UpA K F0 ta da] [XLe K F0 E PE] : UpE K F0 (tCall (upSp K spd) dvs E ta) (dCall spd dvs PE da) := ⟨fun r0 h le =>
  UpA.up (t := ta) (td := da) r0 h fun xs S1 F1 H1 vs h1 s1 r1 v1 => upSp.at (PE := PE) r1 (v1.app (.to dvs)) h1 (le.mono s1)⟩
def dMeth (K : PySem.W.Frag) (C : Addr) (m : Str) (spd : SpD) (dvs : List V) (PE : XD) (da : TED) (dt : TAD) : TED := fun env S P => da env S fun x S1 => ∃ ds, Ins S1 x C ds ∧ ds.lookup m = none ∧ dt env S1 fun xs S2 => spd (x :: (xs ++ dvs.map toD)) S2 P PE
instance {C : Addr} {m : Str} {spd : SpD} {dvs : List V} {E : XK} {PE : XD} {ta : TE} {da : TED} {t : TA} {dt : TAD} [UpE K F0 ta da] [UpA K F0 t dt] [XLe K F0 E PE] : UpE K F0 (tMeth C m (upSp K spd) dvs E ta t) (dMeth K C m spd dvs PE da dt) := ⟨fun r0 h le =>
  UpE.up (t := ta) (td := da) r0 h fun x S1 F1 H1 v ⟨ds, hi, hl, h1⟩ s1 r1 v1 => by
    obtain ⟨a, dx, fs, e, e1, kp⟩ := hi.at r1 v1
    exact ⟨a, dx, fs, e, e1, kp.lookupN hl, UpA.up (t := t) (td := dt) (r0.at s1 r1) h1 fun xs S2 F2 H2 vs h2 s2 r2 v2 => upSp.at (PE := PE) r2 (.cons (v1.mono s2) (v2.app (.to dvs))) h2 (le.mono (s1.trans s2))⟩⟩
def dMake (C : Addr) (spd : SpD) (dvs : List V) (PE : XD) (dt : TAD) : TED := fun env S P => dt env S fun xs S1 => ∀ p, S1 p = none → spd (.ref p :: (xs ++ dvs.map toD)) (sup S1 p (.ins C [])) (fun v S2 => v = .non ∧ P (.ref p) S2) PE
theorem RelH.grow {F : Hp} {S : Sto} {H H' : Hp} (s : Same H H') (r : RelH K F0 F S H) : RelH K F0 F S H' := ⟨r.s0, r.fr.trans s, fun a o e => by
  obtain ⟨h1, ho, h2, h3⟩ := r.tr a o e
  exact ⟨h1, ho, s _ _ h2, h3⟩⟩
instance {C : Addr} {spd : SpD} {dvs : List V} {E : XK} {PE : XD} {t : TA} {dt : TAD} [UpA K F0 t dt] [XLe K F0 E PE] : UpE K F0 (tMake C (upSp K spd) dvs E t) (dMake C spd dvs PE dt) := ⟨fun r0 h le =>
  UpA.up (t := t) (td := dt) r0 h fun xs S1 F1 H1 vs h1 s1 r1 v1 => fun p dx hp hd hn => by
    have g : Same H1 (upd H1 dx (.own p)) := fun b u e => by rw [upd_ne (ne_of_none e hd)]; exact e
    have r2 := r1.grow g
    have hp2 : upd H1 dx (.own p) p = none := by rw [upd_ne (Ne.symm hn)]; exact hp
    have r3 := r2.new (o := .ins C []) hp2 (.ins (dx := dx) (fs := []) (ds := []) rfl .nil)
    exact upSp.at (PE := PE) r3 (.cons (.ref p) (v1.app (.to dvs))) (h1 p (r1.free hp).2) fun x S2 F2 H2 v ⟨e, p2⟩ s2 r4 v4 => by
      subst e; cases v4
      exact ⟨rfl, le _ _ _ _ _ p2 (s1.trans s2) r4 (.ref p)⟩⟩
/-! ### a def's body -/
theorem starts {F : Hp} {n : Nat} : ∀ {vs : List V} {ds : List D}, VdAll K F vs ds → RelS K F (vs.map some ++ List.replicate n none) (ds.map some ++ List.replicate n none)
  | _, _, .nil => by
    show RelS K F (List.replicate n none) (List.replicate n none)
    induction n with
    | zero => exact .nil
    | succ n ih => exact .cons (fun _ e => by cases e) ih
  | _, _, .cons a t => .cons (fun d e => ⟨_, rfl, by cases e; exact a⟩) (starts t)
theorem body_up {N : List Str} {t : TS} {td : TSD} {F : Hp} {S : Sto} {H : Hp} {vs : List V} {ds : List D} {P : PV} {Q : VK} [UpS K F t td] (r : RelH K F F S H) (hv : VdAll K F vs ds) (le : LeV K F F P Q)
    (h : td { nx := fun _ S' => P .non S', rt := P } (ds.map some ++ List.replicate (N.length - ds.length) none) S) : t { nx := fun _ H' => Q .non H', rt := Q } (start N vs) H := by
  refine UpS.up (t := t) (td := td) (F0 := F) ⟨r, ?_⟩ h ⟨fun _ _ _ _ _ p s r1 => le _ _ _ _ _ p s r1.h .non, le, fun _ _ _ _ _ p => p.elim, fun _ _ _ _ _ p => p.elim⟩
  unfold start
  rw [hv.len]
  exact starts hv
/-- the objects that the body made itself need not be told of at the end -/
inductive Lss (P : PV) (x : D) (S : Sto) : Prop
  | mk (S2 : Sto) : (∀ a o, S2 a = some o → S a = some o) → P x S2 → Lss P x S
theorem body_less {N : List Str} {t : TS} {td : TSD} {F : Hp} {S : Sto} {H : Hp} {vs : List V} {ds : List D} {P : PV} {Q : VK} [UpS K F t td] (r : RelH K F F S H) (hv : VdAll K F vs ds) (le : LeV K F F P Q)
    (h : td { nx := fun _ S' => Lss P .non S', rt := Lss P } (ds.map some ++ List.replicate (N.length - ds.length) none) S) : t { nx := fun _ H' => Q .non H', rt := Q } (start N vs) H :=
  body_up (P := Lss P) r hv (fun _ _ _ _ _ p s r1 v => by obtain ⟨S2, h2, p⟩ := p; exact le _ _ _ _ _ p s (r1.less h2) v) h
theorem less_sup {S : Sto} {L : Addr} {u : HD} (h : S L = none) : ∀ a o, S a = some o → sup S L u a = some o := fun a o e => by
  rw [sup_ne (fun z => by rw [z, h] at e; cases e)]; exact e
theorem less_id {P : PV} {x : D} {S : Sto} (h : P x S) : Lss P x S := ⟨S, fun _ _ e => e, h⟩
theorem upSp.len {sp : SpD} {n : Nat} (h : ∀ ds S P PE, sp ds S P PE → ds.length = n) : ∀ vs H Q E, upSp K sp vs H Q E → vs.length = n := fun vs H Q E ⟨F, S, ds, P, PE, _, hv, hs, _⟩ => by rw [hv.len]; exact h _ _ _ _ hs
/-! ### an object that may change becomes data -/
def dKeepL (da : TED) : TED := fun env S P => da env S fun x S1 => ∃ ds, (∃ a, x = .ref a ∧ S1 a = some (.lst ds) ∧ P (.lst ds) (sdel S1 a))
/-- the reading is the same; only what is known of it changes -/
def tKp (t : TE) : TE := t
theorem pe_kp {X : Cx} {e : Expr} {t : TE} (h : PE X e t) : PE X e (tKp t) := h
def dKp (da : TED) : TED := fun env S P => da env S fun x S1 => (∃ a ds, x = .ref a ∧ S1 a = some (.lst ds) ∧ P (.lst ds) (sdel S1 a)) ∨ (∃ a C ds, x = .ref a ∧ S1 a = some (.ins C ds) ∧ P (.ins C ds) (sdel S1 a))
instance {ta : TE} {da : TED} [UpE K F0 ta da] : UpE K F0 (tKp ta) (dKp da) := ⟨fun r0 h le => by
  show ta _ _ _
  exact UpE.up (t := ta) (td := da) r0 h fun x S1 F1 H1 v h1 s1 r1 v1 => by
    rcases h1 with ⟨a, ds, e, e1, p⟩ | ⟨a, C, ds, e, e1, p⟩
    · subst e; cases v1
      obtain ⟨xs, e2, h2⟩ := r1.lst e1
      obtain ⟨s2, r2⟩ := r1.keep e1 e2
      exact le _ _ _ _ _ p (s1.trans s2) r2 (.lst upd_same (h2.mono s2))
    · subst e; cases v1
      obtain ⟨dx, fs, e2, h2, h3⟩ := r1.ins e1
      obtain ⟨s2, r2⟩ := r1.keep e1 e2
      exact le _ _ _ _ _ p (s1.trans s2) r2 (.ins upd_same h2 (h3.mono s2))⟩
/-- a dict, sealed -/
def tSl2 (t : TE) : TE := fun σ H Q => t σ H fun x H1 => ∃ d u, x = .ref d ∧ H1 d = some u ∧ ((∃ kvs, u = .dK kvs) ∨ ∃ kvs, u = .dT kvs) ∧ ∀ od, Q x (upd H1 d (.frz od u))
theorem pe_kd {X : Cx} {e : Expr} {t : TE} (h : PE X e t) : PE X e (tSl2 t) := by
  refine ⟨fun pins s σ H Q I hw => ?_⟩
  refine thn (h.run pins s σ H _ I hw) fun v s1 ⟨x, H1, I1, r, d, u, ex, hd, hu, q⟩ => ?_
  have mu : Mut (some u) := by rcases hu with ⟨_, rfl⟩ | ⟨_, rfl⟩ <;> exact True.intro
  obtain ⟨od, I2⟩ := I1.lock hd mu
  exact ⟨x, _, I2, r, q od⟩
def dSl2 (da : TED) : TED := fun env S P => da env S fun x S1 => (∃ a ds, x = .ref a ∧ S1 a = some (.dK ds) ∧ P (.dK ds) (sdel S1 a)) ∨ (∃ a ds, x = .ref a ∧ S1 a = some (.dT ds) ∧ P (.dT ds) (sdel S1 a))
instance {ta : TE} {da : TED} [UpE K F0 ta da] : UpE K F0 (tSl2 ta) (dSl2 da) := ⟨fun r0 h le =>
  UpE.up (t := ta) (td := da) r0 h fun x S1 F1 H1 v h1 s1 r1 v1 => by
    rcases h1 with ⟨a, ds, e, e1, p⟩ | ⟨a, ds, e, e1, p⟩
    · subst e; cases v1
      obtain ⟨xs, e2, h2, h3⟩ := r1.dK e1
      refine ⟨a, _, rfl, e2, .inl ⟨_, rfl⟩, fun od => ?_⟩
      obtain ⟨s2, r2⟩ := r1.seal (ho := .dK xs) (ho' := .frz od (.dK xs)) e1
      exact le _ _ _ _ _ p (s1.trans s2) r2 (.dK upd_same h2 (h3.mono s2))
    · subst e; cases v1
      obtain ⟨xs, e2, h2, h3⟩ := r1.dT e1
      refine ⟨a, _, rfl, e2, .inr ⟨_, rfl⟩, fun od => ?_⟩
      obtain ⟨s2, r2⟩ := r1.seal (ho := .dT xs) (ho' := .frz od (.dT xs)) e1
      exact le _ _ _ _ _ p (s1.trans s2) r2 (.dT upd_same h2 (h3.mono s2))⟩
end
/-! ### plain data -/
mutual
def py : D → Option PyData
  | .non => some .none
  | .bl b => some (.bool b)
  | .int i => some (.int i)
  | .str z => some (.str z)
  | .lst xs => (pyAll xs).map .list
  | .tup xs => (pyAll xs).map .tuple
  | _ => none
def pyAll : List D → Option (List PyData)
  | [] => some []
  | x :: r => (py x).bind fun p => (pyAll r).map fun ps => p :: ps
end
mutual
def dOf : PyData → D
  | .none => .non
  | .bool b => .bl b
  | .int i => .int i
  | .str z => .str z
  | .list xs => .lst (dOfAll xs)
  | .tuple xs => .tup (dOfAll xs)
  | .dict _ => .non
def dOfAll : List PyData → List D
  | [] => []
  | x :: r => dOf x :: dOfAll r
end
section
variable {K : PySem.W.Frag} {F : Hp}
mutual
theorem dp_of : ∀ {x : D} {v : V} {p : PyData}, py x = some p → Vd K F v x → Dp K F v p
  | .non, _, _, e, h => by cases h; simp [py] at e; subst e; exact .non
  | .bl b, _, _, e, h => by cases h; simp [py] at e; subst e; exact .bl b
  | .int b, _, _, e, h => by cases h; simp [py] at e; subst e; exact .int b
  | .str b, _, _, e, h => by cases h; simp [py] at e; subst e; exact .str b
  | .byt b, _, _, e, h => by simp [py] at e
  | .flt b, _, _, e, h => by simp [py] at e
  | .ref b, _, _, e, h => by simp [py] at e
  | .ty b, _, _, e, h => by simp [py] at e
  | .dK b, _, _, e, h => by simp [py] at e
  | .dT b, _, _, e, h => by simp [py] at e
  | .ins b c, _, _, e, h => by simp [py] at e
  | .seq b, _, _, e, h => by simp [py] at e
  | .lst xs, _, _, e, h => by
    rw [py] at e
    cases q : pyAll xs with
    | none => rw [q] at e; cases e
    | some ps =>
      rw [q] at e; cases e
      cases h with
      | lst h1 h2 => exact .lst (.inl (.inl h1)) (dpAll_of q h2)
  | .tup xs, _, _, e, h => by
    rw [py] at e
    cases q : pyAll xs with
    | none => rw [q] at e; cases e
    | some ps =>
      rw [q] at e; cases e
      cases h with
      | tup h1 h2 => exact .tup (.inl (.inl h1)) (dpAll_of q h2)
theorem dpAll_of : ∀ {xs : List D} {vs : List V} {ps : List PyData}, pyAll xs = some ps → VdAll K F vs xs → DpAll K F vs ps
  | [], _, _, e, h => by cases h; simp [pyAll] at e; subst e; exact .nil
  | x :: r, _, _, e, h => by
    rw [pyAll] at e
    cases q : py x with
    | none => rw [q] at e; cases e
    | some p =>
      rw [q] at e
      cases q2 : pyAll r with
      | none => rw [q2] at e; cases e
      | some ps =>
        rw [q2] at e; cases e
        cases h with
        | cons a b => exact .cons (dp_of q a) (dpAll_of q2 b)
end
mutual
theorem py_dOf : ∀ {p : PyData}, p.hasDict = false → py (dOf p) = some p
  | .none, _ => by simp [dOf, py]
  | .bool _, _ => by simp [dOf, py]
  | .int _, _ => by simp [dOf, py]
  | .str _, _ => by simp [dOf, py]
  | .list xs, h => by
    have h' : PyData.hasDictAll xs = false := by simpa [PyData.hasDict] using h
    simp [dOf, py, pyAll_dOf h']
  | .tuple xs, h => by
    have h' : PyData.hasDictAll xs = false := by simpa [PyData.hasDict] using h
    simp [dOf, py, pyAll_dOf h']
  | .dict _, h => by simp [PyData.hasDict] at h
theorem pyAll_dOf : ∀ {ps : List PyData}, PyData.hasDictAll ps = false → pyAll (dOfAll ps) = some ps
  | [], _ => by simp [dOfAll, pyAll]
  | p :: r, h => by
    have h' : p.hasDict = false ∧ PyData.hasDictAll r = false := by simpa [PyData.hasDictAll] using h
    simp [dOfAll, pyAll, py_dOf h'.1, pyAll_dOf h'.2]
end
end
end L2.VW

/-! ## walks: for, comprehensions, while -/
namespace L2.VW
open PySem PySem.Spec PyProof.Rows
structure WD where
  n : Nat
  ok : Sto → Prop
  item : Nat → D → Prop
abbrev TID := EnvD → Sto → (WD → Sto → Prop) → Prop
/-- how an iterator of the heap goes by the items told -/
structure WLink (K : PySem.W.Frag) (F0 F1 : Hp) (J : It) (w : WD) : Prop where
  goes : ∀ i F S H, i < w.n → Same F1 F → RelH K F0 F S H → w.ok S → J.go i H
  stops : ∀ F S H, Same F1 F → RelH K F0 F S H → w.ok S → J.stop w.n H
  yields : ∀ i F S H x H', i < w.n → Same F1 F → RelH K F0 F S H → w.ok S → J.yld i H x H' → ∃ F' d, Same F F' ∧ RelH K F0 F' S H' ∧ Same H H' ∧ Vd K F' x d ∧ w.item i d
class UpI (K : PySem.W.Frag) (F0 : Hp) (t : TI) (td : outParam TID) : Prop where
  up : ∀ {σ : L2.St} {H : Hp} {Q : It → Hp → Prop} {F : Hp} {S : Sto} {env : EnvD} {P : WD → Sto → Prop}, Rel K F0 F S env σ H → td env S P → (∀ w S' F' H' J, P w S' → Same F F' → RelH K F0 F' S' H' → WLink K F0 F' J w → Q J H') → t σ H Q
section
variable {K : PySem.W.Frag} {F0 : Hp}
def wL (x : D) (ds : List D) : WD := ⟨ds.length, fun S => SeqL S x ds, fun i d => ds[i]? = some d⟩
theorem link_list {F1 : Hp} {a : Addr} {v : V} {x : D} {ds : List D} (hv : Vd K F1 v x) (e : v = .ref a) : WLink K F0 F1 (Itl K a) (wL x ds) := by
  subst e
  have at_ : ∀ {F S H}, Same F1 F → RelH K F0 F S H → SeqL S x ds → ∃ xs, SqL K H a xs ∧ VdAll K F xs ds := fun s r h => by
    obtain ⟨a', xs, e, hq, hl⟩ := h.at r (hv.mono s)
    cases e
    exact ⟨xs, hq, hl⟩
  refine ⟨fun i F S H hi s r h => ?_, fun F S H s r h => ?_, fun i F S H y H' hi s r h hy => ?_⟩
  · obtain ⟨xs, hq, hl⟩ := at_ s r h
    have hi' : i < xs.length := by rw [hl.len]; exact hi
    exact ⟨xs, xs[i], hq, by simp [hi']⟩
  · obtain ⟨xs, hq, hl⟩ := at_ s r h
    exact ⟨xs, hq, by rw [hl.len]; exact Nat.le_refl _⟩
  · obtain ⟨xs, hq, hl⟩ := at_ s r h
    obtain ⟨rfl, hx⟩ := hy
    obtain ⟨d, h1, h2⟩ := hl.getL (hx xs hq)
    exact ⟨F, d, Same.refl _, r, Same.refl _, h2, h1⟩
def jList (da : TED) : TID := fun env S P => da env S fun x S1 => ∃ ds, SeqL S1 x ds ∧ P (wL x ds) S1
instance {ta : TE} {da : TED} [UpE K F0 ta da] : UpI K F0 (iList K ta) (jList da) := ⟨fun r0 h le =>
  UpE.up (t := ta) (td := da) r0 h fun x S1 F1 H1 v ⟨ds, hs, p⟩ s1 r1 v1 => by
    obtain ⟨a, xs, e, hq, hl⟩ := hs.at r1 v1
    exact ⟨a, e, ⟨xs, hq⟩, le _ _ _ _ _ p s1 r1 (link_list v1 e)⟩⟩
def wT (ds : List D) : WD := ⟨ds.length, fun _ => True, fun i d => ds[i]? = some d⟩
theorem link_tup {F1 : Hp} {a : Addr} {v : V} {ds : List D} (hv : Vd K F1 v (.tup ds)) (e : v = .ref a) : WLink K F0 F1 (Itt K a) (wT ds) := by
  subst e
  have at_ : ∀ {F S H}, Same F1 F → RelH K F0 F S H → ∃ xs, SqT K H a xs ∧ VdAll K F xs ds := fun s r => by
    obtain ⟨a', xs, e, hq, hl⟩ := tup_at r (hv.mono s)
    cases e
    exact ⟨xs, hq, hl⟩
  refine ⟨fun i F S H hi s r h => ?_, fun F S H s r h => ?_, fun i F S H y H' hi s r h hy => ?_⟩
  · obtain ⟨xs, hq, hl⟩ := at_ s r
    have hi' : i < xs.length := by rw [hl.len]; exact hi
    exact ⟨xs, xs[i], hq, by simp [hi']⟩
  · obtain ⟨xs, hq, hl⟩ := at_ s r
    exact ⟨xs, hq, by rw [hl.len]; exact Nat.le_refl _⟩
  · obtain ⟨xs, hq, hl⟩ := at_ s r
    obtain ⟨rfl, hx⟩ := hy
    obtain ⟨d, h1, h2⟩ := hl.getL (hx xs hq)
    exact ⟨F, d, Same.refl _, r, Same.refl _, h2, h1⟩
def jTup (da : TED) : TID := fun env S P => da env S fun x S1 => ∃ ds, x = .tup ds ∧ P (wT ds) S1
instance {ta : TE} {da : TED} [UpE K F0 ta da] : UpI K F0 (iTup K ta) (jTup da) := ⟨fun r0 h le =>
  UpE.up (t := ta) (td := da) r0 h fun x S1 F1 H1 v ⟨ds, hs, p⟩ s1 r1 v1 => by
    subst hs
    obtain ⟨a, xs, e, hq, hl⟩ := tup_at r1 v1
    exact ⟨a, e, ⟨xs, hq⟩, le _ _ _ _ _ p s1 r1 (link_tup v1 e)⟩⟩
def wR (lo : Int) (n : Nat) : WD := ⟨n, fun _ => True, fun i d => d = .int (lo + i)⟩
theorem link_rng {F1 : Hp} {lo : Int} {n : Nat} : WLink K F0 F1 (Itr lo n) (wR lo n) :=
  ⟨fun i F S H hi _ _ _ => hi, fun _ _ _ _ _ _ => Nat.le_refl _, fun i F S H x H' hi s r _ ⟨e1, e2⟩ => by subst e1; subst e2; exact ⟨F, .int (lo + i), Same.refl _, r, Same.refl _, .int _, rfl⟩⟩
def jRng1 (da : TAD) : TID := fun env S P => da env S fun xs S1 => ∃ j : Int, xs = [.int j] ∧ (-(2 ^ 62) ≤ j ∧ j < 2 ^ 62) ∧ P (wR 0 j.toNat) S1
instance {ta : TA} {da : TAD} [UpA K F0 ta da] : UpI K F0 (iRng1 ta) (jRng1 da) := ⟨fun r0 h le =>
  UpA.up (t := ta) (td := da) r0 h fun xs S1 F1 H1 vs ⟨j, e, ⟨b1, b2⟩, p⟩ s1 r1 v1 => by
    subst e
    cases v1 with
    | cons a b => cases a; cases b; exact ⟨j, rfl, b1, b2, le _ _ _ _ _ p s1 r1 link_rng⟩⟩
def jRng2 (da : TAD) : TID := fun env S P => da env S fun xs S1 => ∃ i j : Int, xs = [.int i, .int j] ∧ (-(2 ^ 62) ≤ i ∧ i < 2 ^ 62 ∧ -(2 ^ 62) ≤ j ∧ j < 2 ^ 62) ∧ P (wR i (j - i).toNat) S1
instance {ta : TA} {da : TAD} [UpA K F0 ta da] : UpI K F0 (iRng2 ta) (jRng2 da) := ⟨fun r0 h le =>
  UpA.up (t := ta) (td := da) r0 h fun xs S1 F1 H1 vs ⟨i, j, e, b1, p⟩ s1 r1 v1 => by
    subst e
    cases v1 with
    | cons a b =>
      cases b with
      | cons c b => cases a; cases c; cases b; exact ⟨i, j, rfl, b1, le _ _ _ _ _ p s1 r1 link_rng⟩⟩
/-- a new pair -/
theorem pair_new {F F1 : Hp} {S : Sto} {H : Hp} {T : Addr} {x y : V} {d e : D} (r : RelH K F0 F S H) (hT : H T = none) (hx : Vd K F x d) (hy : Vd K F y e) :
    ∃ F', Same F F' ∧ RelH K F0 F' S (upd H T (.tup [x, y])) ∧ Same H (upd H T (.tup [x, y])) ∧ Vd K F' (.ref T) (.tup [d, e]) := by
  obtain ⟨s2, r2⟩ := r.newF (ho := .tup [x, y]) hT
  exact ⟨_, s2, r2, fun b u e => by rw [upd_ne (ne_of_none e hT)]; exact e, .tup upd_same (.cons (hx.mono s2) (.cons (hy.mono s2) .nil))⟩
def wE (x : D) (ds : List D) : WD := ⟨ds.length, fun S => SeqL S x ds, fun i d => ∃ e, ds[i]? = some e ∧ d = .tup [.int (i : Nat), e]⟩
def jEnum (da : TAD) : TID := fun env S P => da env S fun xs S1 => ∃ x ds, xs = [x] ∧ SeqL S1 x ds ∧ P (wE x ds) S1
instance {ta : TA} {da : TAD} [UpA K F0 ta da] : UpI K F0 (iEnum K ta) (jEnum da) := ⟨fun r0 h le =>
  UpA.up (t := ta) (td := da) r0 h fun xs S1 F1 H1 vs ⟨x, ds, e, hs, p⟩ s1 r1 v1 => by
    subst e
    cases v1 with
    | cons hv b =>
      cases b
      obtain ⟨a, xs, e, hq, hl⟩ := hs.at r1 hv
      subst e
      have at_ : ∀ {F S H}, Same F1 F → RelH K F0 F S H → SeqL S x ds → ∃ xs, SqL K H a xs ∧ VdAll K F xs ds := fun s r h => by
        obtain ⟨a', xs, e, hq, hl⟩ := h.at r (hv.mono s)
        cases e
        exact ⟨xs, hq, hl⟩
      refine ⟨a, xs, rfl, hq, le _ _ _ _ _ p s1 r1 ⟨fun i F S H hi s r h => ?_, fun F S H s r h => ?_, fun i F S H y H' hi s r h hy => ?_⟩⟩
      · obtain ⟨xs, hq, hl⟩ := at_ s r h
        have hi' : i < xs.length := by rw [hl.len]; exact hi
        exact ⟨xs, xs[i], hq, by simp [hi']⟩
      · obtain ⟨xs, hq, hl⟩ := at_ s r h
        exact ⟨xs, hq, by rw [hl.len]; exact Nat.le_refl _⟩
      · obtain ⟨xs, hq, hl⟩ := at_ s r h
        obtain ⟨T, w, rfl, hT, rfl, hx⟩ := hy
        obtain ⟨d, h1, h2⟩ := hl.getL (hx xs hq)
        obtain ⟨F', s2, r2, g2, v2⟩ := pair_new (F1 := F) r hT (.int (i : Nat)) h2
        exact ⟨F', _, s2, r2, g2, v2, d, h1, rfl⟩⟩
def wZ (x y : D) (ds es : List D) : WD := ⟨min ds.length es.length, fun S => SeqL S x ds ∧ SeqL S y es, fun i d => ∃ a b, ds[i]? = some a ∧ es[i]? = some b ∧ d = .tup [a, b]⟩
def jZip (da : TAD) : TID := fun env S P => da env S fun xs S1 => ∃ x y ds es, xs = [x, y] ∧ SeqL S1 x ds ∧ SeqL S1 y es ∧ P (wZ x y ds es) S1
instance {ta : TA} {da : TAD} [UpA K F0 ta da] : UpI K F0 (iZip K ta) (jZip da) := ⟨fun r0 h le =>
  UpA.up (t := ta) (td := da) r0 h fun xs S1 F1 H1 vs ⟨x, y, ds, es, e, hs, ht, p⟩ s1 r1 v1 => by
    subst e
    cases v1 with
    | cons hv b =>
      cases b with
      | cons hu b =>
        cases b
        obtain ⟨a, xs, e, hq, hl⟩ := hs.at r1 hv
        obtain ⟨b, ys, e', hq', hl'⟩ := ht.at r1 hu
        subst e; subst e'
        have at_ : ∀ {F S H}, Same F1 F → RelH K F0 F S H → SeqL S x ds → ∃ xs, SqL K H a xs ∧ VdAll K F xs ds := fun s r h => by
          obtain ⟨a', xs, e, hq, hl⟩ := h.at r (hv.mono s)
          cases e
          exact ⟨xs, hq, hl⟩
        have bt_ : ∀ {F S H}, Same F1 F → RelH K F0 F S H → SeqL S y es → ∃ xs, SqL K H b xs ∧ VdAll K F xs es := fun s r h => by
          obtain ⟨a', xs, e, hq, hl⟩ := h.at r (hu.mono s)
          cases e
          exact ⟨xs, hq, hl⟩
        refine ⟨a, b, xs, ys, rfl, hq, hq', le _ _ _ _ _ p s1 r1 ⟨fun i F S H hi s r h => ?_, fun F S H s r h => ?_, fun i F S H z H' hi s r h hz => ?_⟩⟩
        · obtain ⟨xs, hq, hl⟩ := at_ s r h.1
          obtain ⟨ys, hq', hl'⟩ := bt_ s r h.2
          have hi : i < min ds.length es.length := hi
          have h1 : i < xs.length := by rw [hl.len]; omega
          have h2 : i < ys.length := by rw [hl'.len]; omega
          exact ⟨xs, ys, xs[i], ys[i], hq, hq', by simp [h1], by simp [h2]⟩
        · obtain ⟨xs, hq, hl⟩ := at_ s r h.1
          obtain ⟨ys, hq', hl'⟩ := bt_ s r h.2
          refine ⟨xs, ys, hq, hq', ?_⟩
          show xs.length ≤ min ds.length es.length ∨ ys.length ≤ min ds.length es.length
          rw [hl.len, hl'.len]; omega
        · obtain ⟨xs, hq, hl⟩ := at_ s r h.1
          obtain ⟨ys, hq', hl'⟩ := bt_ s r h.2
          obtain ⟨T, w, w', rfl, hT, rfl, hx, hy⟩ := hz
          obtain ⟨d, h1, h2⟩ := hl.getL (hx xs hq)
          obtain ⟨d', h1', h2'⟩ := hl'.getL (hy ys hq')
          obtain ⟨F', s2, r2, g2, v2⟩ := pair_new (F1 := F) r hT h2 h2'
          exact ⟨F', _, s2, r2, g2, v2, d, d', h1, h1', rfl⟩⟩
/-! ### dicts that never change again -/
def wK (kds : List (Key × D)) : WD := ⟨kds.length, fun _ => True, fun i d => ∃ k e, kds[i]? = some (k, e) ∧ d = kD k⟩
theorem KP.at {κ : Type} {F : Hp} : ∀ {kvs : List (κ × V)} {kds : List (κ × D)} {i : Nat} {k : κ} {v : V}, KP K F kvs kds → kvs[i]? = some (k, v) → ∃ d, kds[i]? = some (k, d) ∧ Vd K F v d
  | _, _, _, _, _, .nil, e => by simp at e
  | p :: r, q :: t, 0, k, v, .cons a _, e => by
    simp at e; subst e
    refine ⟨q.2, ?_, a.2⟩
    have : k = q.1 := a.1
    subst this; rfl
  | _, _, i + 1, k, v, .cons _ t, e => by
    obtain ⟨d, h1, h2⟩ := KP.at (i := i) (k := k) (v := v) t (by simpa using e)
    exact ⟨d, by simpa using h1, h2⟩
theorem dK_at {F : Hp} {S : Sto} {H : Hp} {v : V} {kds : List (Key × D)} (r : RelH K F0 F S H) (hv : Vd K F v (.dK kds)) : ∃ a o kvs, v = .ref a ∧ F a = some (.frz o (.dK kvs)) ∧ H a = some (.frz o (.dK kvs)) ∧ KP K F kvs kds := by
  cases hv with
  | dK h1 h2 h3 => exact ⟨_, _, _, rfl, h1, r.fr _ _ h1, .of h2 h3⟩
def jKeys (da : TED) : TID := fun env S P => da env S fun x S1 => ∃ kds, x = .dK kds ∧ P (wK kds) S1
theorem link_keys {F1 : Hp} {a : Addr} {o : Obj} {kvs : List (Key × V)} {kds : List (Key × D)} (h : F1 a = some (.frz o (.dK kvs))) (kp : KP K F1 kvs kds) : WLink K F0 F1 (Itk a o kvs) (wK kds) := by
  have hl := kp.len
  refine ⟨fun i F S H hi s r _ => ⟨r.fr _ _ (s _ _ h), by rw [hl]; exact hi⟩, fun F S H s r _ => ⟨r.fr _ _ (s _ _ h), by rw [hl]; exact Nat.le_refl _⟩, fun i F S H x H' hi s r _ hy => ?_⟩
  obtain ⟨rfl, k, v, e, rfl⟩ := hy
  obtain ⟨d, h1, h2⟩ := kp.at e
  exact ⟨F, kD k, Same.refl _, r, Same.refl _, vd_keyV, k, d, h1, rfl⟩
instance {ta : TE} {da : TED} [UpE K F0 ta da] : UpI K F0 (iKeys ta) (jKeys da) := ⟨fun r0 h le =>
  UpE.up (t := ta) (td := da) r0 h fun x S1 F1 H1 v ⟨kds, hs, p⟩ s1 r1 v1 => by
    subst hs
    obtain ⟨a, o, kvs, e, f1, h1, kp⟩ := dK_at r1 v1
    exact ⟨a, o, e, .inl ⟨kvs, h1, le _ _ _ _ _ p s1 r1 (link_keys f1 kp)⟩⟩⟩
instance {ta : TE} {da : TED} [UpE K F0 ta da] : UpI K F0 (iKeysM ta) (jKeys da) := ⟨fun r0 h le =>
  UpE.up (t := ta) (td := da) r0 h fun x S1 F1 H1 v ⟨kds, hs, p⟩ s1 r1 v1 => by
    subst hs
    obtain ⟨a, o, kvs, e, f1, h1, kp⟩ := dK_at r1 v1
    exact ⟨a, o, kvs, e, h1, le _ _ _ _ _ p s1 r1 (link_keys f1 kp)⟩⟩
def wV (kds : List (Key × D)) : WD := ⟨kds.length, fun _ => True, fun i d => ∃ k, kds[i]? = some (k, d)⟩
def jVals (da : TED) : TID := fun env S P => da env S fun x S1 => ∃ kds, x = .dK kds ∧ P (wV kds) S1
instance {ta : TE} {da : TED} [UpE K F0 ta da] : UpI K F0 (iVals ta) (jVals da) := ⟨fun r0 h le =>
  UpE.up (t := ta) (td := da) r0 h fun x S1 F1 H1 v ⟨kds, hs, p⟩ s1 r1 v1 => by
    subst hs
    obtain ⟨a, o, kvs, e, f1, h1, kp⟩ := dK_at r1 v1
    have hl := kp.len
    refine ⟨a, o, kvs, e, h1, le _ _ _ _ _ p s1 r1 ⟨fun i F S H hi s r _ => ⟨r.fr _ _ (s _ _ f1), by rw [hl]; exact hi⟩, fun F S H s r _ => ⟨r.fr _ _ (s _ _ f1), by rw [hl]; exact Nat.le_refl _⟩, fun i F S H x H' hi s r _ hy => ?_⟩⟩
    obtain ⟨rfl, k, e⟩ := hy
    obtain ⟨d, h1, h2⟩ := kp.at e
    exact ⟨F, d, Same.refl _, r, Same.refl _, h2.mono s, k, h1⟩⟩
def wI (kds : List (Key × D)) : WD := ⟨kds.length, fun _ => True, fun i d => ∃ k e, kds[i]? = some (k, e) ∧ d = .tup [kD k, e]⟩
def jItems (da : TED) : TID := fun env S P => da env S fun x S1 => ∃ kds, x = .dK kds ∧ P (wI kds) S1
instance {ta : TE} {da : TED} [UpE K F0 ta da] : UpI K F0 (iItems ta) (jItems da) := ⟨fun r0 h le =>
  UpE.up (t := ta) (td := da) r0 h fun x S1 F1 H1 v ⟨kds, hs, p⟩ s1 r1 v1 => by
    subst hs
    obtain ⟨a, o, kvs, e, f1, h1, kp⟩ := dK_at r1 v1
    have hl := kp.len
    refine ⟨a, o, kvs, e, h1, le _ _ _ _ _ p s1 r1 ⟨fun i F S H hi s r _ => ⟨r.fr _ _ (s _ _ f1), by rw [hl]; exact hi⟩, fun F S H s r _ => ⟨r.fr _ _ (s _ _ f1), by rw [hl]; exact Nat.le_refl _⟩, fun i F S H x H' hi s r _ hy => ?_⟩⟩
    obtain ⟨T, k, v, e, rfl, hT, rfl⟩ := hy
    obtain ⟨d, h1, h2⟩ := kp.at e
    obtain ⟨F', s2, r2, g2, v2⟩ := pair_new (F1 := F) r hT vd_keyV (h2.mono s)
    exact ⟨F', _, s2, r2, g2, v2, k, d, h1, rfl⟩⟩
def wS (z : Str) : WD := ⟨z.cps.size, fun _ => True, fun i d => ∃ c, z.cps[i]? = some c ∧ d = .str ⟨#[c]⟩⟩
def jStr (da : TED) : TID := fun env S P => da env S fun x S1 => ∃ z, x = .str z ∧ P (wS z) S1
instance {ta : TE} {da : TED} [UpE K F0 ta da] : UpI K F0 (iStr ta) (jStr da) := ⟨fun r0 h le =>
  UpE.up (t := ta) (td := da) r0 h fun x S1 F1 H1 v ⟨z, hs, p⟩ s1 r1 v1 => by
    subst hs; cases v1
    refine ⟨z, rfl, le _ _ _ _ _ p s1 r1 ⟨fun i F S H hi _ _ _ => hi, fun _ _ _ _ _ _ => Nat.le_refl _, fun i F S H x H' hi s r _ hy => ?_⟩⟩
    obtain ⟨rfl, c, h1, rfl⟩ := hy
    exact ⟨F, _, Same.refl _, r, Same.refl _, .str _, c, h1, rfl⟩⟩
/-! ### for -/
/-- a place where a walk stops -/
structure Hold (p : Prop) : Prop where
  ex : p
/-- what a for asks, once what it walks is known -/
structure ForD (w : WD) (gd : TGD) (bd : TSD) (P : EndsD) (env : EnvD) (S1 : Sto) : Prop where
  ex : ∃ I : Nat → EnvD → Sto → Prop, I 0 env S1 ∧ (∀ i env S, i ≤ w.n → I i env S → w.ok S) ∧
    (∀ i d env S, i < w.n → w.item i d → I i env S → gd d env S fun env2 S2 => bd { P with nx := I (i + 1), ct := I (i + 1), bk := P.nx } env2 S2) ∧ ∀ env S, I w.n env S → P.nx env S
def dFor (wd : TID) (gd : TGD) (bd : TSD) : TSD := fun P env S => wd env S fun w S1 => ForD w gd bd P env S1
instance {wi : TI} {wd : TID} {g : TG} {gd : TGD} {tb : TS} {bd : TSD} [UpI K F0 wi wd] [UpG K F0 g gd] [UpS K F0 tb bd] : UpS K F0 (tFor wi g tb) (dFor wd gd bd) := ⟨fun r0 h le =>
  UpI.up (t := wi) (td := wd) r0 h fun w S1 F1 H1 J ⟨⟨I, i0, hok, hs, hd⟩⟩ s1 r1 lk => by
    refine ⟨fun i m σ H => m = w.n - i ∧ i ≤ w.n ∧ ∃ F env S, Same F1 F ∧ Rel K F0 F S env σ H ∧ I i env S, ⟨_, rfl, Nat.zero_le _, F1, _, S1, Same.refl _, r0.at s1 r1, i0⟩, ?_⟩
    rintro i m σ H ⟨rfl, hi, F, env, S, s2, r2, p⟩
    have ok := hok i env S hi p
    by_cases c : i < w.n
    · refine .inr ⟨lk.goes i F S H c s2 r2.h ok, fun σ' H' => ∃ F env S, Same F1 F ∧ Rel K F0 F S env σ' H' ∧ I (i + 1) env S, fun σ' H' q => ⟨w.n - (i + 1), by omega, rfl, c, q⟩, fun x H' hy => ?_⟩
      obtain ⟨F3, d, s3, r3, _, v3, hit⟩ := lk.yields i F S H x H' c s2 r2.h ok hy
      refine UpG.up (t := g) (td := gd) (r2.at s3 r3) v3 (hs i d env S c hit p) fun env4 S4 F4 σ4 H4 h4 s4 r4 => UpS.up (t := tb) (td := bd) r4 h4 ?_
      have s14 := (s2.trans s3).trans s4
      exact ⟨fun env5 S5 F5 σ5 H5 p5 s5 r5 => ⟨F5, env5, S5, s14.trans s5, r5, p5⟩, le.rt.mono (s1.trans s14), le.nx.mono (s1.trans s14), fun env5 S5 F5 σ5 H5 p5 s5 r5 => ⟨F5, env5, S5, s14.trans s5, r5, p5⟩⟩
    · have e : i = w.n := by omega
      subst e
      exact .inl ⟨lk.stops F S H s2 r2.h ok, le.nx _ _ _ _ _ (hd env S p) (s1.trans s2) r2⟩⟩
/-! ### while -/
structure LessD (I : Nat → EnvD → Sto → Prop) (m : Nat) (env : EnvD) (S : Sto) : Prop where
  ex : ∃ m', m' < m ∧ I m' env S
def dWhile (c : TTD) (bd : TSD) : TSD := fun P env S => Hold <| ∃ I : Nat → EnvD → Sto → Prop, (∃ m, I m env S) ∧ ∀ m env S, I m env S → c env S fun b S1 => if b = true then bd { P with nx := LessD I m, ct := LessD I m, bk := P.nx } env S1 else P.nx env S1
instance {c : TT} {cd : TTD} {tb : TS} {bd : TSD} [UpT K F0 c cd] [UpS K F0 tb bd] : UpS K F0 (tWhile c tb) (dWhile cd bd) := ⟨fun {σ0 H0 Q F S env P} r0 ⟨⟨I, ⟨m, i0⟩, hs⟩⟩ le => by
  refine ⟨fun m σ H => ∃ F1 env S, Same F F1 ∧ Rel K F0 F1 S env σ H ∧ I m env S, ⟨m, F, env, S, Same.refl _, r0, i0⟩, ?_⟩
  rintro m σ H ⟨F1, env1, S1, s1, r1, p⟩
  refine UpT.up (t := c) (td := cd) r1 (hs m env1 S1 p) fun b S2 F2 H2 h2 s2 r2 => ?_
  cases b with
  | false => exact le.nx _ _ _ _ _ h2 (s1.trans s2) (r1.at s2 r2)
  | true =>
    have s12 := s1.trans s2
    refine ⟨fun σ' H' => ∃ m', m' < m ∧ ∃ F1 env S, Same F F1 ∧ Rel K F0 F1 S env σ' H' ∧ I m' env S, fun σ' H' ⟨m', l, q⟩ => ⟨m', l, q⟩, UpS.up (t := tb) (td := bd) (r1.at s2 r2) h2 ⟨?_, le.rt.mono s12, le.nx.mono s12, ?_⟩⟩
    · rintro env3 S3 F3 σ3 H3 ⟨m', l, q⟩ s3 r3
      exact ⟨m', l, F3, env3, S3, s12.trans s3, r3, q⟩
    · rintro env3 S3 F3 σ3 H3 ⟨m', l, q⟩ s3 r3
      exact ⟨m', l, F3, env3, S3, s12.trans s3, r3, q⟩⟩
/-! ### list comprehensions -/
/-- a target stores to the slots told alone -/
class GFr (g : TG) (is : outParam (List Nat)) : Prop where
  mono : ∀ {v : V} {σ : L2.St} {H : Hp} {Q Q' : L2.St → Hp → Prop}, (∀ σ' H', Q σ' H' → Q' σ' H') → g v σ H Q → g v σ H Q'
  fr : ∀ {v : V} {σ : L2.St} {H : Hp} {Q : L2.St → Hp → Prop}, g v σ H Q → g v σ H fun σ' H' => Q σ' H' ∧ σ'.length = σ.length ∧ ∀ j, j ∉ is → σ'[j]? = σ[j]?
class GFrs (g : TGs) (is : outParam (List Nat)) : Prop where
  mono : ∀ {v : List V} {σ : L2.St} {H : Hp} {Q Q' : L2.St → Hp → Prop}, (∀ σ' H', Q σ' H' → Q' σ' H') → g v σ H Q → g v σ H Q'
  fr : ∀ {v : List V} {σ : L2.St} {H : Hp} {Q : L2.St → Hp → Prop}, g v σ H Q → g v σ H fun σ' H' => Q σ' H' ∧ σ'.length = σ.length ∧ ∀ j, j ∉ is → σ'[j]? = σ[j]?
instance (i : Nat) : GFr (gName i) [i] := ⟨fun h q => h _ _ q, fun {v σ H Q} q => ⟨q, by rw [List.length_set], fun j hj => by
  rw [List.getElem?_set_ne]
  intro e; exact hj (by rw [e]; exact List.mem_singleton.mpr rfl)⟩⟩
instance : GFrs gNil [] := ⟨fun h q => ⟨q.1, h _ _ q.2⟩, fun q => ⟨q.1, q.2, rfl, fun _ _ => rfl⟩⟩
instance {t : TG} {u : TGs} {is js : List Nat} [GFr t is] [GFrs u js] : GFrs (gCons t u) (is ++ js) := ⟨fun h ⟨v, r, e, q⟩ => ⟨v, r, e, GFr.mono (g := t) (is := is) (fun σ' H' q => GFrs.mono (g := u) (is := js) h q) q⟩,
  fun ⟨v, r, e, q⟩ => ⟨v, r, e, GFr.mono (g := t) (is := is) (fun σ' H' ⟨q, l1, f1⟩ => GFrs.mono (g := u) (is := js) (fun σ2 H2 ⟨q2, l2, f2⟩ => ⟨q2, l2.trans l1, fun j hj => (f2 j fun z => hj (List.mem_append_right _ z)).trans (f1 j fun z => hj (List.mem_append_left _ z))⟩) (GFrs.fr (g := u) (is := js) q)) (GFr.fr (g := t) (is := is) q)⟩⟩
instance {n : Nat} {u : TGs} {is : List Nat} [GFrs u is] : GFr (gTup K n u) is := ⟨fun h ⟨a, xs, e, h1, h2, q⟩ => ⟨a, xs, e, h1, h2, GFrs.mono (g := u) (is := is) h q⟩, fun ⟨a, xs, e, h1, h2, q⟩ => ⟨a, xs, e, h1, h2, GFrs.fr (g := u) (is := is) q⟩⟩
def wipeD (env : EnvD) : List Nat → EnvD
  | [] => env
  | v :: vs => (wipeD env vs).set v none
theorem wipe_rel {F : Hp} {σ : L2.St} {env : EnvD} (h : RelS K F σ env) : ∀ vs, RelS K F (wipe σ vs) (wipeD env vs)
  | [] => h
  | v :: vs => (wipe_rel h vs).unset v none
theorem wipe_get (σ : L2.St) : ∀ (vs : List Nat) (j : Nat), (wipe σ vs)[j]? = if j ∈ vs then (σ[j]?).map (fun _ => none) else σ[j]?
  | [], j => by simp [wipe]
  | v :: vs, j => by
    have ih := wipe_get σ vs j
    have hl := wipe_length σ vs
    show ((wipe σ vs).set v none)[j]? = _
    rw [List.getElem?_set]
    by_cases c : v = j
    · subst c
      rw [if_pos rfl, hl]
      by_cases h : v < σ.length
      · rw [if_pos h]; simp [h]
      · rw [if_neg h]; simp [List.getElem?_eq_none (Nat.le_of_not_lt h)]
    · rw [if_neg c, ih]
      have c' : ¬ j = v := fun e => c e.symm
      simp [c']
theorem wipe_fr {σ σ' : L2.St} {is vs : List Nat} (hs : ∀ i ∈ is, i ∈ vs) (hl : σ'.length = (wipe σ vs).length) (h : ∀ j, j ∉ is → σ'[j]? = (wipe σ vs)[j]?) : wipe σ' vs = wipe σ vs := by
  apply List.ext_getElem?
  intro j
  rw [wipe_get, wipe_get]
  by_cases c : j ∈ vs
  · rw [if_pos c, if_pos c]
    have e1 : σ'.length = σ.length := by rw [hl, wipe_length]
    by_cases h : j < σ.length
    · simp [h, e1]
    · simp [List.getElem?_eq_none (Nat.le_of_not_lt h), List.getElem?_eq_none (show σ'.length ≤ j by omega)]
  · rw [if_neg c, if_neg c, h j fun z => c (hs j z), wipe_get, if_neg c]
def dYes : TTD := fun _ S P => P true S
instance : UpT K F0 tYes dYes := ⟨fun r0 h le => le _ _ _ _ h (Same.refl _) r0.h⟩
class Sub (is vs : List Nat) : Prop where
  sub : ∀ i ∈ is, i ∈ vs
def dLc (wd : TID) (gd : TGD) (ttd : TTD) (ed : TED) (vs : List Nat) : TED := fun env S P => wd env S fun w S1 => ∀ L, S1 L = none → ∃ I : Nat → List D → Sto → Prop, I 0 [] (sup S1 L (.lst [])) ∧
  (∀ i acc S, i ≤ w.n → I i acc S → S L = some (.lst acc) ∧ w.ok S) ∧
  (∀ i d acc S, i < w.n → w.item i d → I i acc S → gd d (wipeD env vs) S fun env2 S2 => ttd env2 S2 fun b S3 => if b = true then ed env2 S3 fun y S4 => S4 L = some (.lst acc) ∧ acc.length < sizeLine ∧ I (i + 1) (acc ++ [y]) (sup S4 L (.lst (acc ++ [y]))) else I (i + 1) acc S3) ∧
  ∀ acc S, I w.n acc S → P (.ref L) S
instance {wi : TI} {wd : TID} {g : TG} {gd : TGD} {tt : TT} {ttd : TTD} {te : TE} {ed : TED} {vs is : List Nat} [UpI K F0 wi wd] [UpG K F0 g gd] [UpT K F0 tt ttd] [UpE K F0 te ed] [GFr g is] [Sub is vs] : UpE K F0 (tLc wi g tt te vs) (dLc wd gd ttd ed vs) := ⟨fun r0 h le =>
  UpI.up (t := wi) (td := wd) r0 h fun w S1 F1 H1 J q s1 r1 lk => fun L hD => by
    obtain ⟨I, i0, hok, hs, hd⟩ := q L (r1.free hD).2
    have rD := r1.new hD (.lst (xs := []) (ds := []) .nil)
    refine ⟨fun i m H => m = w.n - i ∧ i ≤ w.n ∧ ∃ F S acc, Same F1 F ∧ RelH K F0 F S H ∧ I i acc S, ⟨_, rfl, Nat.zero_le _, F1, _, [], Same.refl _, rD, i0⟩, ?_⟩
    rintro i m H ⟨rfl, hi, F, S, acc, s2, r2, p⟩
    obtain ⟨eD, ok⟩ := hok i acc S hi p
    by_cases c : i < w.n
    · refine .inr ⟨lk.goes i F S H c s2 r2 ok, fun H' => ∃ F S acc, Same F1 F ∧ RelH K F0 F S H' ∧ I (i + 1) acc S, fun H' q => ⟨w.n - (i + 1), by omega, rfl, c, q⟩, fun x H' hy => ?_⟩
      obtain ⟨F3, d, s3, r3, _, v3, hit⟩ := lk.yields i F S H x H' c s2 r2 ok hy
      have s03 := s1.trans (s2.trans s3)
      refine GFr.mono (g := g) (is := is) (fun σ' H' ⟨q, l1, f1⟩ => ⟨wipe_fr (is := is) (Sub.sub) l1 f1, q⟩) (GFr.fr (g := g) (is := is) (UpG.up (t := g) (td := gd) (F := F3) (env := wipeD _ vs) ⟨r3, wipe_rel (r0.s.mono s03) vs⟩ v3 (hs i d acc S c hit p) fun env4 S4 F4 σ4 H4 h4 s4 r4 =>
        UpT.up (t := tt) (td := ttd) r4 h4 fun b S5 F5 H5 h5 s5 r5 => ?_))
      cases b with
      | false => exact ⟨F5, S5, acc, ((s2.trans s3).trans s4).trans s5, r5, h5⟩
      | true =>
        refine UpE.up (t := te) (td := ed) (r4.at s5 r5) h5 fun y S6 F6 H6 u ⟨e6, hl, p6⟩ s6 r6 v6 => ?_
        obtain ⟨xs, e7, h7⟩ := r6.lst e6
        exact ⟨xs, e7, by rw [h7.len]; exact hl, F6, _, _, (((s2.trans s3).trans s4).trans s5).trans s6, r6.put e6 (.lst (h7.app (.cons v6 .nil))), p6⟩
    · have e : i = w.n := by omega
      subst e
      exact .inl ⟨lk.stops F S H s2 r2 ok, le _ _ _ _ _ (hd acc S p) (s1.trans s2) r2 (.ref L)⟩⟩
/-! ### a cut -/
def tCut (t u : TS) : TS := fun D σ H => ∃ Mid : L2.St → Hp → Prop, t { D with nx := Mid } σ H ∧ ∀ σ' H', Mid σ' H' → u D σ' H'
structure dCut (t u : TSD) (P : EndsD) (env : EnvD) (S : Sto) : Prop where
  ex : ∃ Mid : EnvD → Sto → Prop, t { P with nx := Mid } env S ∧ ∀ env' S', Mid env' S' → u P env' S'
instance {t u : TS} {td ud : TSD} [UpS K F0 t td] [UpS K F0 u ud] : UpS K F0 (tCut t u) (dCut td ud) := ⟨fun {_ _ _ F _ _ _} r0 h le => by
  obtain ⟨Mid, h1, h2⟩ := h.ex
  refine ⟨fun σ' H' => ∃ F1 env S, Same F F1 ∧ Rel K F0 F1 S env σ' H' ∧ Mid env S, UpS.up (t := t) (td := td) r0 h1 ⟨fun env' S' F' σ' H' p s r => ⟨F', env', S', s, r, p⟩, le.rt, le.bk, le.ct⟩, ?_⟩
  rintro σ' H' ⟨F1, env1, S1, s1, r1, p⟩
  exact UpS.up (t := u) (td := ud) r1 (h2 env1 S1 p) (le.mono s1)⟩
end
theorem cutAt {X : Cx} {st : Stmt} {rest : List Stmt} {t u : TS} (h1 : PS X st t) (h2 : PSs X rest u) : PSs X (st :: rest) (tCut t u) := by
  constructor
  intro pins s σ H D I h
  obtain ⟨Mid, a, b⟩ := h
  apply wpAny_execs_cons
  refine thn (h1.run pins s σ H { D with nx := Mid } I a) ?_
  intro f s1 q
  match f, q with
  | .next, ⟨σ', H', I', m⟩ => exact h2.run pins s1 σ' H' D I' (b σ' H' m)
  | .ret _, q => exact q
  | .brk, q => exact q
  | .cont, q => exact q
end L2.VW

/-! ## built-in functions, operators on data -/
namespace L2.VW
open PySem PySem.Spec PyProof.Rows
section
variable {K : PySem.W.Frag} {F0 : Hp}
/-! ### methods of lists -/
def TyIs (T : String) (S : Sto) (x : D) : Prop := (T = "list" ∧ ∃ ds, SeqL S x ds) ∨ (T = "str" ∧ ∃ z, x = .str z)
theorem TyIs.at {T : String} {F : Hp} {S : Sto} {H : Hp} {v : V} {x : D} (r : RelH K F0 F S H) (hv : Vd K F v x) (h : TyIs T S x) : tyV K T v H := by
  rcases h with ⟨rfl, ds, h⟩ | ⟨rfl, z, rfl⟩
  · obtain ⟨a, xs, rfl, hq, _⟩ := h.at r hv
    exact .inl ⟨rfl, xs, hq⟩
  · cases hv; rfl
def dBM (T : String) (rd : D → List D → Sto → PV → Prop) (da : TED) (dt : TAD) : TED := fun env S P => da env S fun x S1 => TyIs T S1 x ∧ dt env S1 fun xs S2 => rd x xs S2 P
instance {T : String} {r : V → List V → Hp → VK → Prop} {rd : D → List D → Sto → PV → Prop} {to : TE} {da : TED} {t : TA} {dt : TAD} [UpE K F0 to da] [UpA K F0 t dt] [UpM K F0 r rd] : UpE K F0 (tBM K T r to t) (dBM T rd da dt) := ⟨fun r0 h le =>
  UpE.up (t := to) (td := da) r0 h fun x S1 F1 H1 v ⟨ht, h1⟩ s1 r1 v1 => ⟨ht.at r1 v1, UpA.up (t := t) (td := dt) (r0.at s1 r1) h1 fun xs S2 F2 H2 vs h2 s2 r2 v2 => UpM.up (r := r) (rd := rd) r2 (v1.mono s2) v2 h2 (le.mono (s1.trans s2))⟩⟩
def dBM0 (T : String) (rd : D → List D → Sto → PV → Prop) (da : TED) : TED := fun env S P => da env S fun x S1 => TyIs T S1 x ∧ rd x [] S1 P
instance {T : String} {r : V → List V → Hp → VK → Prop} {rd : D → List D → Sto → PV → Prop} {to : TE} {da : TED} [UpE K F0 to da] [UpM K F0 r rd] : UpE K F0 (tBM0 K T r to) (dBM0 T rd da) := ⟨fun r0 h le =>
  UpE.up (t := to) (td := da) r0 h fun x S1 F1 H1 v ⟨ht, h1⟩ s1 r1 v1 => ⟨ht.at r1 v1, UpM.up (r := r) (rd := rd) r1 v1 .nil h1 (le.mono s1)⟩⟩
def dAppend : D → List D → Sto → PV → Prop := fun x vs S P => ∃ a ds y, x = .ref a ∧ vs = [y] ∧ S a = some (.lst ds) ∧ ds.length < sizeLine ∧ P .non (sup S a (.lst (ds ++ [y])))
instance : UpM K F0 rAppend dAppend := ⟨fun r hv hvs ⟨a, ds, y, e1, e2, e3, hl, p⟩ le => by
  subst e1; subst e2; cases hv
  cases hvs with
  | cons hy b =>
    cases b
    obtain ⟨xs, e4, hx⟩ := r.lst e3
    exact ⟨a, xs, _, rfl, rfl, e4, by rw [hx.len]; exact hl, le _ _ _ _ _ p (Same.refl _) (r.put e3 (.lst (hx.app (.cons hy .nil)))) .non⟩⟩
def dExtend : D → List D → Sto → PV → Prop := fun x vs S P => ∃ a ds y es, x = .ref a ∧ vs = [y] ∧ S a = some (.lst ds) ∧ SeqW S y es ∧ ds.length + es.length ≤ sizeLine ∧ P .non (sup S a (.lst (ds ++ es)))
instance : UpM K F0 rExtend dExtend := ⟨fun r hv hvs ⟨a, ds, y, es, e1, e2, e3, hw, hl, p⟩ le => by
  subst e1; subst e2; cases hv
  cases hvs with
  | cons hy b =>
    cases b
    obtain ⟨xs, e4, hx⟩ := r.lst e3
    obtain ⟨b, ys, rfl, e5, hys⟩ := hw.at r hy
    exact ⟨a, b, xs, ys, rfl, rfl, e4, e5, by rw [hx.len, hys.len]; exact hl, le _ _ _ _ _ p (Same.refl _) (r.put e3 (.lst (hx.app hys))) .non⟩⟩
def dPop : D → List D → Sto → PV → Prop := fun x vs S P => ∃ a ds y, x = .ref a ∧ vs = [] ∧ S a = some (.lst ds) ∧ ds[ds.length - 1]? = some y ∧ P y (sup S a (.lst ds.dropLast))
theorem VdAll.dropLast {F : Hp} {xs : List V} {ds : List D} (h : VdAll K F xs ds) : VdAll K F xs.dropLast ds.dropLast := by
  rw [List.dropLast_eq_take, List.dropLast_eq_take, h.len]; exact h.take _
instance : UpM K F0 rPop dPop := ⟨fun r hv hvs ⟨a, ds, y, e1, e2, e3, hl, p⟩ le => by
  subst e1; subst e2; cases hv; cases hvs
  obtain ⟨xs, e4, hx⟩ := r.lst e3
  obtain ⟨w, h1, h2⟩ := hx.get hl
  exact ⟨a, xs, w, rfl, rfl, e4, by rw [hx.len]; exact h1, le _ _ _ _ _ p (Same.refl _) (r.put e3 (.lst hx.dropLast)) h2⟩⟩
def dReverse : D → List D → Sto → PV → Prop := fun x vs S P => ∃ a ds, x = .ref a ∧ vs = [] ∧ S a = some (.lst ds) ∧ P .non (sup S a (.lst ds.reverse))
instance : UpM K F0 rReverse dReverse := ⟨fun r hv hvs ⟨a, ds, e1, e2, e3, p⟩ le => by
  subst e1; subst e2; cases hv; cases hvs
  obtain ⟨xs, e4, hx⟩ := r.lst e3
  exact ⟨a, xs, rfl, rfl, e4, le _ _ _ _ _ p (Same.refl _) (r.put e3 (.lst hx.rev)) .non⟩⟩
def dClear : D → List D → Sto → PV → Prop := fun x vs S P => ∃ a ds, x = .ref a ∧ vs = [] ∧ S a = some (.lst ds) ∧ P .non (sup S a (.lst []))
instance : UpM K F0 rClear dClear := ⟨fun r hv hvs ⟨a, ds, e1, e2, e3, p⟩ le => by
  subst e1; subst e2; cases hv; cases hvs
  obtain ⟨xs, e4, hx⟩ := r.lst e3
  exact ⟨a, xs, rfl, rfl, e4, le _ _ _ _ _ p (Same.refl _) (r.put e3 (.lst .nil)) .non⟩⟩
/-! ### sums of lists, tuples -/
def dCat : R2D := fun x y S P => ∃ ds es, SeqW S x ds ∧ SeqW S y es ∧ ds.length + es.length ≤ sizeLine ∧ ∀ p, S p = none → P (.ref p) (sup S p (.lst (ds ++ es)))
instance : UpR K F0 rCat dCat := ⟨fun r hv hu ⟨ds, es, h1, h2, hl, p⟩ le => by
  obtain ⟨a, xs, rfl, e1, hx⟩ := h1.at r hv
  obtain ⟨b, ys, rfl, e2, hy⟩ := h2.at r hu
  exact ⟨a, b, xs, ys, rfl, rfl, e1, e2, by rw [hx.len, hy.len]; exact hl, fun q hq => le _ _ _ _ _ (p q (r.free hq).2) (Same.refl _) (r.new hq (.lst (hx.app hy))) (.ref q)⟩⟩
def dRep : R2D := fun x y S P => ∃ ds k, SeqW S x ds ∧ y = .int k ∧ (-(2 ^ 63) ≤ k ∧ k < 2 ^ 63) ∧ ds.length * k.toNat ≤ sizeLine ∧ ∀ p, S p = none → P (.ref p) (sup S p (.lst (List.replicate k.toNat ds).flatten))
theorem VdAll.rep {F : Hp} {xs : List V} {ds : List D} (h : VdAll K F xs ds) : ∀ n, VdAll K F (List.replicate n xs).flatten (List.replicate n ds).flatten
  | 0 => .nil
  | n + 1 => by rw [List.replicate_succ, List.replicate_succ, List.flatten_cons, List.flatten_cons]; exact h.app (h.rep n)
instance : UpR K F0 rRep dRep := ⟨fun r hv hu ⟨ds, k, h1, e, ⟨b1, b2⟩, hl, p⟩ le => by
  subst e; cases hu
  obtain ⟨a, xs, rfl, e1, hx⟩ := h1.at r hv
  exact ⟨a, k, xs, rfl, rfl, e1, b1, b2, by rw [hx.len]; exact hl, fun q hq => le _ _ _ _ _ (p q (r.free hq).2) (Same.refl _) (r.new hq (.lst (hx.rep _))) (.ref q)⟩⟩
def dCatA : R2D := fun x y S P => ∃ ds es, x = .tup ds ∧ y = .tup es ∧ ds.length + es.length ≤ sizeLine ∧ P (.tup (ds ++ es)) S
instance : UpR K F0 (rCatA K) dCatA := ⟨fun r hv hu ⟨ds, es, e1, e2, hl, p⟩ le => by
  subst e1; subst e2
  obtain ⟨a, xs, rfl, h1, hx⟩ := tup_at r hv
  obtain ⟨b, ys, rfl, h2, hy⟩ := tup_at r hu
  refine ⟨a, b, xs, ys, rfl, rfl, h1, h2, by rw [hx.len, hy.len]; exact hl, fun e => ?_, fun _ e => ?_, fun _ _ q hq => ?_⟩
  · subst e
    cases hx
    exact le _ _ _ _ _ p (Same.refl _) r hu
  · subst e
    cases hy
    rw [List.append_nil] at p
    exact le _ _ _ _ _ p (Same.refl _) r hv
  · obtain ⟨s2, r2⟩ := r.newF (ho := .tup (xs ++ ys)) hq
    exact le _ _ _ _ _ p s2 r2 (.tup upd_same ((hx.app hy).mono s2))⟩
def dSlA : RSlD := fun x lo hi S P => ∃ ds, x = .tup ds ∧ P (.tup (cutD ds lo hi)) S
theorem cut_all {ds : List D} {lo hi : Option Int} (h : HT.sIx ds.length 0 lo = 0 ∧ HT.sIx ds.length ds.length hi = ds.length) : cutD ds lo hi = ds := by
  unfold cutD
  rw [h.1, h.2]; simp
instance : UpSl K F0 (rSlA K) dSlA := ⟨fun r hv ⟨ds, e0, p⟩ le => by
  subst e0
  obtain ⟨a, xs, rfl, hq, ha⟩ := tup_at r hv
  refine ⟨a, xs, rfl, hq, fun h => ?_, fun _ q hq => ?_⟩
  · rw [ha.len] at h
    rw [cut_all h] at p
    exact le _ _ _ _ _ p (Same.refl _) r hv
  · obtain ⟨s2, r2⟩ := r.newF (ho := .tup (cutV xs _ _)) hq
    exact le _ _ _ _ _ p s2 r2 (.tup upd_same ((ha.cut _ _).mono s2))⟩
/-! ### calls by values -/
def dCB (rd : List D → Sto → PV → Prop) (dt : TAD) : TED := fun env S P => dt env S fun xs S1 => rd xs S1 P
instance {r : List V → Hp → VK → Prop} {rd : List D → Sto → PV → Prop} {t : TA} {dt : TAD} [UpA K F0 t dt] [UpC K F0 r rd] : UpE K F0 (tCB r t) (dCB rd dt) := ⟨fun r0 h le =>
  UpA.up (t := t) (td := dt) r0 h fun xs S1 F1 H1 vs h1 s1 r1 v1 => UpC.up (r := r) (rd := rd) r1 v1 h1 (le.mono s1)⟩
/-- len -/
def rLenA (K : PySem.W.Frag) : List V → Hp → VK → Prop := fun xs H Q => (∃ p ys, xs = [.ref p] ∧ (SqL K H p ys ∨ SqT K H p ys) ∧ Q (.int ys.length) H) ∨ (∃ z, xs = [.str z] ∧ z.length ≤ sizeLine ∧ Q (.int z.length) H) ∨ ∃ a kvs, xs = [.ref a] ∧ Rd H a (.dK kvs) ∧ Q (.int kvs.length) H
def LenS (S : Sto) (x : D) (n : Nat) : Prop := (∃ ds, SeqL S x ds ∧ n = ds.length) ∨ (∃ ds, x = .tup ds ∧ n = ds.length) ∨ (∃ z, x = .str z ∧ z.length ≤ sizeLine ∧ n = z.length) ∨ ∃ kds, DicK S x kds ∧ n = kds.length
def dLen : List D → Sto → PV → Prop := fun xs S P => ∃ x n, xs = [x] ∧ LenS S x n ∧ P (.int (n : Nat)) S
instance : UpC K F0 (rLenA K) dLen := ⟨fun r hv ⟨x, n, e, h, p⟩ le => by
  subst e
  cases hv with
  | cons hv b =>
    cases b
    rcases h with ⟨ds, h, rfl⟩ | ⟨ds, rfl, rfl⟩ | ⟨z, rfl, hz, rfl⟩ | ⟨kds, h, rfl⟩
    · obtain ⟨a, xs, rfl, hq, hx⟩ := h.at r hv
      exact .inl ⟨a, xs, rfl, .inl hq, by rw [hx.len]; exact le _ _ _ _ _ p (Same.refl _) r (.int _)⟩
    · obtain ⟨a, xs, rfl, hq, hx⟩ := tup_at r hv
      exact .inl ⟨a, xs, rfl, .inr hq, by rw [hx.len]; exact le _ _ _ _ _ p (Same.refl _) r (.int _)⟩
    · cases hv
      exact .inr (.inl ⟨z, rfl, hz, le _ _ _ _ _ p (Same.refl _) r (.int _)⟩)
    · obtain ⟨a, kvs, rfl, rd, kp⟩ := h.at r hv
      exact .inr (.inr ⟨a, kvs, rfl, rd, by rw [kp.len]; exact le _ _ _ _ _ p (Same.refl _) r (.int _)⟩)⟩
/-- int(..) of a number or a truth -/
def rInt1 : List V → Hp → VK → Prop := fun xs H Q => (∃ i, xs = [.int i] ∧ Q (.int i) H) ∨ ∃ k, xs = [.bl k] ∧ Q (.int (if k then 1 else 0)) H
inductive IntOf : D → Int → Prop
  | int (i : Int) : IntOf (.int i) i
  | bl (k : Bool) : IntOf (.bl k) (if k then 1 else 0)
def dInt1 : List D → Sto → PV → Prop := fun xs S P => ∃ x i, xs = [x] ∧ IntOf x i ∧ P (.int i) S
instance : UpC K F0 rInt1 dInt1 := ⟨fun r hv ⟨x, i, e, h, p⟩ le => by
  subst e
  cases hv with
  | cons hv b =>
    cases b
    cases h with
    | int i => cases hv; exact .inl ⟨i, rfl, le _ _ _ _ _ p (Same.refl _) r (.int _)⟩
    | bl k => cases hv; exact .inr ⟨k, rfl, le _ _ _ _ _ p (Same.refl _) r (.int _)⟩⟩
def rMin2 : List V → Hp → VK → Prop := fun xs H Q => ∃ i j, xs = [.int i, .int j] ∧ Q (.int (if j < i then j else i)) H
def rMax2 : List V → Hp → VK → Prop := fun xs H Q => ∃ i j, xs = [.int i, .int j] ∧ Q (.int (if j > i then j else i)) H
def dMin2 : List D → Sto → PV → Prop := fun xs S P => ∃ i j, xs = [.int i, .int j] ∧ P (.int (if j < i then j else i)) S
def dMax2 : List D → Sto → PV → Prop := fun xs S P => ∃ i j, xs = [.int i, .int j] ∧ P (.int (if j > i then j else i)) S
instance : UpC K F0 rMin2 dMin2 := ⟨fun r hv ⟨i, j, e, p⟩ le => by
  subst e
  cases hv with
  | cons a b => cases b with | cons c d => cases d; cases a; cases c; exact ⟨i, j, rfl, le _ _ _ _ _ p (Same.refl _) r (.int _)⟩⟩
instance : UpC K F0 rMax2 dMax2 := ⟨fun r hv ⟨i, j, e, p⟩ le => by
  subst e
  cases hv with
  | cons a b => cases b with | cons c d => cases d; cases a; cases c; exact ⟨i, j, rfl, le _ _ _ _ _ p (Same.refl _) r (.int _)⟩⟩
/-- tuple(..), list(..) of a list or a tuple -/
def rTupOf (K : PySem.W.Frag) : List V → Hp → VK → Prop := fun xs H Q => ∃ p ys, xs = [.ref p] ∧ ((SqL K H p ys ∧ ∀ l, H l = none → Q (.ref l) (upd H l (.tup ys))) ∨ (SqT K H p ys ∧ Q (.ref p) H))
def SqS (S : Sto) (x : D) (ds : List D) : Prop := SeqL S x ds ∨ x = .tup ds
def dTupOf : List D → Sto → PV → Prop := fun xs S P => ∃ x ds, xs = [x] ∧ SqS S x ds ∧ P (.tup ds) S
instance : UpC K F0 (rTupOf K) dTupOf := ⟨fun r hv ⟨x, ds, e, h, p⟩ le => by
  subst e
  cases hv with
  | cons hv b =>
    cases b
    rcases h with h | rfl
    · obtain ⟨a, xs, rfl, hq, hx⟩ := h.at r hv
      refine ⟨a, xs, rfl, .inl ⟨hq, fun q hq => ?_⟩⟩
      obtain ⟨s2, r2⟩ := r.newF (ho := .tup xs) hq
      exact le _ _ _ _ _ p s2 r2 (.tup upd_same (hx.mono s2))
    · obtain ⟨a, xs, rfl, hq, hx⟩ := tup_at r hv
      exact ⟨a, xs, rfl, .inr ⟨hq, le _ _ _ _ _ p (Same.refl _) r hv⟩⟩⟩
def rLstOf (K : PySem.W.Frag) : List V → Hp → VK → Prop := fun xs H Q => (∃ p ys, xs = [.ref p] ∧ (SqL K H p ys ∨ SqT K H p ys) ∧ ∀ l, H l = none → Q (.ref l) (upd H l (.lst ys))) ∨ ∃ (a : Addr) (kvs : List (Key × V)), xs = [.ref a] ∧ Rd H a (.dK kvs) ∧ ∀ p, H p = none → Q (.ref p) (upd H p (.lst (kvs.map fun kv => kV kv.1)))
def LstS (S : Sto) (x : D) (ds : List D) : Prop := SeqL S x ds ∨ x = .tup ds ∨ ∃ kds, DicK S x kds ∧ ds = kds.map fun kd => kD kd.1
def dLstOf : List D → Sto → PV → Prop := fun xs S P => ∃ x ds, xs = [x] ∧ LstS S x ds ∧ ∀ p, S p = none → P (.ref p) (sup S p (.lst ds))
theorem vd_keyL {F : Hp} {κ : Type} : ∀ {kvs : List (Key × V)} {kds : List (Key × κ)}, kvs.map (·.1) = kds.map (·.1) → VdAll K F (kvs.map fun kv => kV kv.1) (kds.map fun kd => kD kd.1)
  | [], [], _ => .nil
  | [], _ :: _, e => by cases e
  | _ :: _, [], e => by cases e
  | p :: r, q :: t, e => by
    have e1 := List.cons.inj e
    exact .cons (by show Vd K F (kV p.1) (kD q.1); rw [show p.1 = q.1 from e1.1]; exact vd_keyV) (vd_keyL e1.2)
instance : UpC K F0 (rLstOf K) dLstOf := ⟨fun r hv ⟨x, ds, e, h, p⟩ le => by
  subst e
  cases hv with
  | cons hv b =>
    cases b
    rcases h with h | rfl | ⟨kds, h, rfl⟩
    · obtain ⟨a, xs, rfl, hq, hx⟩ := h.at r hv
      exact .inl ⟨a, xs, rfl, .inl hq, fun q hq => le _ _ _ _ _ (p q (r.free hq).2) (Same.refl _) (r.new hq (.lst hx)) (.ref q)⟩
    · obtain ⟨a, xs, rfl, hq, hx⟩ := tup_at r hv
      exact .inl ⟨a, xs, rfl, .inr hq, fun q hq => le _ _ _ _ _ (p q (r.free hq).2) (Same.refl _) (r.new hq (.lst hx)) (.ref q)⟩
    · obtain ⟨a, kvs, rfl, rd, kp⟩ := h.at r hv
      exact .inr ⟨a, kvs, rfl, rd, fun q hq => le _ _ _ _ _ (p q (r.free hq).2) (Same.refl _) (r.new hq (.lst (vd_keyL kp.keys))) (.ref q)⟩⟩
/-- dict(..) of a dict -/
def rDicOf : List V → Hp → VK → Prop := fun xs H Q => ∃ (a : Addr) (kvs : List (Key × V)), xs = [.ref a] ∧ Rd H a (.dK kvs) ∧ ∀ p, H p = none → Q (.ref p) (upd H p (.dK kvs))
def dDicOf : List D → Sto → PV → Prop := fun xs S P => ∃ x kds, xs = [x] ∧ DicK S x kds ∧ ∀ p, S p = none → P (.ref p) (sup S p (.dK kds))
instance : UpC K F0 rDicOf dDicOf := ⟨fun r hv ⟨x, kds, e, h, p⟩ le => by
  subst e
  cases hv with
  | cons hv b =>
    cases b
    obtain ⟨a, kvs, rfl, rd, kp⟩ := h.at r hv
    exact ⟨a, kvs, rfl, rd, fun q hq => le _ _ _ _ _ (p q (r.free hq).2) (Same.refl _) (r.new hq (.dK kp.keys kp.vals)) (.ref q)⟩⟩
theorem VdAll.bls {F : Hp} : ∀ {vs : List V} {bs : List Bool}, VdAll K F vs (bs.map D.bl) → vs = bs.map V.bl
  | _, [], h => by cases h; rfl
  | _, n :: r, h => by
    cases h with
    | cons a t => cases a; rw [VdAll.bls t]; rfl
def dAll : List D → Sto → PV → Prop := fun xs S P => ∃ (x : D) (bs : List Bool), xs = [x] ∧ SeqL S x (bs.map D.bl) ∧ P (.bl (bs.all id)) S
def dAny : List D → Sto → PV → Prop := fun xs S P => ∃ (x : D) (bs : List Bool), xs = [x] ∧ SeqL S x (bs.map D.bl) ∧ P (.bl (bs.any id)) S
instance : UpC K F0 (rAll K) dAll := ⟨fun r hv ⟨x, bs, e, h, p⟩ le => by
  subst e
  cases hv with
  | cons hv b =>
    cases b
    obtain ⟨a, xs, rfl, hq, hx⟩ := h.at r hv
    rw [hx.bls] at hq
    exact ⟨a, bs, rfl, hq, le _ _ _ _ _ p (Same.refl _) r (.bl _)⟩⟩
instance : UpC K F0 (rAny K) dAny := ⟨fun r hv ⟨x, bs, e, h, p⟩ le => by
  subst e
  cases hv with
  | cons hv b =>
    cases b
    obtain ⟨a, xs, rfl, hq, hx⟩ := h.at r hv
    rw [hx.bls] at hq
    exact ⟨a, bs, rfl, hq, le _ _ _ _ _ p (Same.refl _) r (.bl _)⟩⟩
/-! ### is None; == of data -/
def isNon : D → Bool
  | .non => true
  | _ => false
theorem vd_non {F : Hp} {v : V} {x : D} (h : Vd K F v x) : decide (v = .non) = isNon x := by cases h <;> simp [isNon]
def rIsN : R2 := fun x y H Q => y = .non ∧ Q (.bl (decide (x = .non))) H
def rNotN : R2 := fun x y H Q => y = .non ∧ Q (.bl (!decide (x = .non))) H
def dIsN : R2D := fun x y S P => y = .non ∧ P (.bl (isNon x)) S
def dNotN : R2D := fun x y S P => y = .non ∧ P (.bl (!isNon x)) S
instance : UpR K F0 rIsN dIsN := ⟨fun r hv hu ⟨e, p⟩ le => by
  subst e; cases hu
  exact ⟨rfl, by rw [vd_non hv]; exact le _ _ _ _ _ p (Same.refl _) r (.bl _)⟩⟩
instance : UpR K F0 rNotN dNotN := ⟨fun r hv hu ⟨e, p⟩ le => by
  subst e; cases hu
  exact ⟨rfl, by rw [vd_non hv]; exact le _ _ _ _ _ p (Same.refl _) r (.bl _)⟩⟩
/-- what a value is as data, here -/
def pyS (S : Sto) (x : D) : Option PyData := match x with
  | .ref a => (match S a with
    | some (.lst ds) => (pyAll ds).map .list
    | _ => none)
  | x => py x
theorem pyS.at {F : Hp} {S : Sto} {H : Hp} {v : V} {x : D} {p : PyData} (r : RelH K F0 F S H) (hv : Vd K F v x) (h : pyS S x = some p) : Dp K H v p := by
  have go : ∀ {x : D} {v : V} {p : PyData}, Vd K F v x → py x = some p → Dp K H v p := fun hv h => by
    have := dp_of h hv
    exact (dp_monoS r.fr this)
  cases x with
  | ref a =>
    have h : (match S a with
      | some (.lst ds) => (pyAll ds).map PyData.list
      | _ => none) = some p := h
    cases e : S a with
    | none => rw [e] at h; cases h
    | some o =>
      rw [e] at h
      cases o with
      | lst ds =>
        have h : (pyAll ds).map PyData.list = some p := h
        cases q : pyAll ds with
        | none => rw [q] at h; cases h
        | some ps =>
          rw [q] at h; cases h
          cases hv
          obtain ⟨xs, e1, hx⟩ := r.lst e
          exact .lst (.inl (.inl e1)) (dpAll_monoS r.fr (dpAll_of q hx))
      | _ => cases h
  | _ => exact go hv h
where
  dp_monoS {F H : Hp} (s : Same F H) : ∀ {v : V} {d : PyData}, Dp K F v d → Dp K H v d
    | _, _, .non => .non
    | _, _, .bl b => .bl b
    | _, _, .int i => .int i
    | _, _, .str x => .str x
    | _, _, .lst h a => .lst (s.seq h) (dpAll_monoS s a)
    | _, _, .tup h a => .tup (sqT_mono s h) (dpAll_monoS s a)
  dpAll_monoS {F H : Hp} (s : Same F H) : ∀ {vs : List V} {ds : List PyData}, DpAll K F vs ds → DpAll K H vs ds
    | _, _, .nil => .nil
    | _, _, .cons a t => .cons (dp_monoS s a) (dpAll_monoS s t)
/-! ### a < b < c -/
def dChain (rd rd' : R2D) (da db dc : TED) : TED := fun env S P => da env S fun x S1 => db env S1 fun y S2 => rd x y S2 fun z S3 => ∃ k, z = .bl k ∧ (if k = true then dc env S3 fun w S4 => rd' y w S4 P else P (.bl false) S3)
instance {r r' : R2} {rd rd' : R2D} {ta tb tc : TE} {da db dc : TED} [UpE K F0 ta da] [UpE K F0 tb db] [UpE K F0 tc dc] [UpR K F0 r rd] [UpR K F0 r' rd'] : UpE K F0 (tChain r r' ta tb tc) (dChain rd rd' da db dc) := ⟨fun r0 h le =>
  UpE.up (t := ta) (td := da) r0 h fun x S1 F1 H1 v h1 s1 r1 v1 => UpE.up (t := tb) (td := db) (r0.at s1 r1) h1 fun y S2 F2 H2 u h2 s2 r2 v2 => UpR.up (r := r) (rd := rd) r2 (v1.mono s2) v2 h2 fun z S3 F3 H3 w ⟨k, e, h3⟩ s3 r3 v3 => by
    subst e; cases v3
    refine ⟨k, rfl, ?_⟩
    cases k with
    | false => exact le _ _ _ _ _ h3 ((s1.trans s2).trans s3) r3 (.bl _)
    | true => exact UpE.up (t := tc) (td := dc) (r0.at ((s1.trans s2).trans s3) r3) h3 fun w S4 F4 H4 q h4 s4 r4 v4 => UpR.up (r := r') (rd := rd') r4 ((v2.mono s3).mono s4) v4 h4 (le.mono (((s1.trans s2).trans s3).trans s4))⟩
end
end L2.VW

/-! ## the rules by these readings -/
namespace L2.VW
open PySem PySem.Spec PyProof.Rows
section
variable {X : Cx}
theorem call_lenA : CallR X (.builtin "len") (rLenA X.K) := by
  intro pins s σ H xs us Q I r h
  rcases h with h | h | ⟨a, kvs, rfl, rd, q⟩
  · exact call_len_seq pins s σ H xs us Q I r h
  · exact call_len_str pins s σ H xs us Q I r h
  · obtain ⟨u, rfl, ru⟩ := vals1 r
    cases ru
    exact d_len I rd fun t s' I' => ⟨.int kvs.length, H, I', ⟨t, rfl⟩, q⟩
theorem call_int1A : CallR X (.type "int") rInt1 := call_int1
theorem call_min2A (hc : X.calm = true) : CallR X (.builtin "min") rMin2 := call_min2 hc
theorem call_max2A (hc : X.calm = true) : CallR X (.builtin "max") rMax2 := call_max2 hc
theorem call_tupA : CallR X (.type "tuple") (rTupOf X.K) := call_tuple_of
theorem call_lstA (hc : X.calm = true) : CallR X (.type "list") (rLstOf X.K) := by
  intro pins s σ H xs us Q I r h
  rcases h with h | h
  · exact call_list_of pins s σ H xs us Q I r h
  · exact call_listD hc pins s σ H xs us Q I r h
theorem call_dicA : CallR X (.type "dict") rDicOf := call_dictD
theorem op_isNA : OpR X (compareOp .Is) rIsN := op_isN
theorem op_notNA : OpR X (compareOp .IsNot) rNotN := op_notN
end
end L2.VW

/-! ## ==, in, isinstance, repr, displays -/
namespace L2.VW
open PySem PySem.Spec PyProof.Rows
theorem pass0F {X : Cx} : Passes CX0 X (fun _ _ _ => False) := pass0
section
variable {K : PySem.W.Frag} {F0 : Hp}
instance : XLe K F0 (fun _ _ _ => False) noX := ⟨fun _ _ _ _ _ _ h => h.elim⟩
/-- promises of other forms, lifted -/
class UpSp (K : PySem.W.Frag) (F0 : Hp) (sp : Sp) (E : XK) (spd : outParam (List D → Sto → PV → Prop)) : Prop where
  up : ∀ {vs : List V} {ds : List D} {F : Hp} {S : Sto} {H : Hp} {Q : VK} {P : PV}, RelH K F0 F S H → VdAll K F vs ds → spd ds S P → LeV K F0 F P Q → sp vs H Q E
def dCallS (spd : List D → Sto → PV → Prop) (dvs : List V) (da : TAD) : TED := fun env S P => da env S fun xs S1 => spd (xs ++ dvs.map toD) S1 P
instance (priority := 500) {sp : Sp} {spd : List D → Sto → PV → Prop} {dvs : List V} {E : XK} {ta : TA} {da : TAD} [UpA K F0 ta da] [UpSp K F0 sp E spd] : UpE K F0 (tCall sp dvs E ta) (dCallS spd dvs da) := ⟨fun r0 h le =>
  UpA.up (t := ta) (td := da) r0 h fun xs S1 F1 H1 vs h1 s1 r1 v1 => UpSp.up (sp := sp) (spd := spd) r1 (v1.app (.to dvs)) h1 (le.mono s1)⟩
/-! ### == -/
def eqP : Option PyData → Option PyData → Bool
  | some p, some q => PyData.eqv p q
  | _, _ => false
def okP : Option PyData → Bool
  | some p => p.plain && decide (p.depth ≤ 60)
  | none => false
theorem okP_some {p : PyData} (h : okP (some p) = true) : p.plain = true ∧ p.depth ≤ 60 := by
  have h : (p.plain && decide (p.depth ≤ 60)) = true := h
  rw [Bool.and_eq_true] at h
  exact ⟨h.1, of_decide_eq_true h.2⟩
def rEqPl (K : PySem.W.Frag) : R2 := fun x y H Q => ∃ d e, Dp K H x d ∧ Dp K H y e ∧ d.plain = true ∧ e.plain = true ∧ d.depth ≤ 60 ∧ Q (.bl (PyData.eqv d e)) H
def rNePl (K : PySem.W.Frag) : R2 := fun x y H Q => ∃ d e, Dp K H x d ∧ Dp K H y e ∧ d.plain = true ∧ e.plain = true ∧ d.depth ≤ 60 ∧ Q (.bl (!PyData.eqv d e)) H
theorem op_eqPl {X : Cx} (hu : X.A.units + 64 < cLine) : OpR X (compareOp .Eq) (rEqPl X.K) := by
  intro pins s σ H x y v u Q I rx ry h
  obtain ⟨d, e, hd, he, sd, se, dd, q⟩ := h
  obtain ⟨as, r1⟩ := Dp.reads I d x v hd rx
  obtain ⟨bs, r2⟩ := Dp.reads I e y u he ry
  exact SeqAt.eq_plain r1 r2 sd se (by have := Nat.min_le_left d.depth e.depth; omega) ⟨.bl _, H, I, rfl, q⟩
theorem op_nePl {X : Cx} (hu : X.A.units + 64 < cLine) : OpR X (compareOp .NotEq) (rNePl X.K) := by
  intro pins s σ H x y v u Q I rx ry h
  obtain ⟨d, e, hd, he, sd, se, dd, q⟩ := h
  obtain ⟨as, r1⟩ := Dp.reads I d x v hd rx
  obtain ⟨bs, r2⟩ := Dp.reads I e y u he ry
  exact SeqAt.ne_plain r1 r2 sd se (by have := Nat.min_le_left d.depth e.depth; omega) ⟨.bl _, H, I, rfl, q⟩
def dEqD : R2D := fun x y S P => okP (pyS S x) = true ∧ okP (pyS S y) = true ∧ P (.bl (eqP (pyS S x) (pyS S y))) S
def dNeD : R2D := fun x y S P => okP (pyS S x) = true ∧ okP (pyS S y) = true ∧ P (.bl (!eqP (pyS S x) (pyS S y))) S
instance : UpR K F0 (rEqPl K) dEqD := ⟨fun {v u x y H Q F S P} r hv hu ⟨h1, h2, p⟩ le => by
  cases e1 : pyS S x with
  | none => rw [e1] at h1; cases h1
  | some d =>
    cases e2 : pyS S y with
    | none => rw [e2] at h2; cases h2
    | some e =>
      rw [e1] at h1 p; rw [e2] at h2 p
      exact ⟨d, e, pyS.at r hv e1, pyS.at r hu e2, (okP_some h1).1, (okP_some h2).1, (okP_some h1).2, le _ _ _ _ _ p (Same.refl _) r (.bl _)⟩⟩
instance : UpR K F0 (rNePl K) dNeD := ⟨fun {v u x y H Q F S P} r hv hu ⟨h1, h2, p⟩ le => by
  cases e1 : pyS S x with
  | none => rw [e1] at h1; cases h1
  | some d =>
    cases e2 : pyS S y with
    | none => rw [e2] at h2; cases h2
    | some e =>
      rw [e1] at h1 p; rw [e2] at h2 p
      exact ⟨d, e, pyS.at r hv e1, pyS.at r hu e2, (okP_some h1).1, (okP_some h2).1, (okP_some h1).2, le _ _ _ _ _ p (Same.refl _) r (.bl _)⟩⟩
/-- scalars of one kind -/
inductive EqS : D → D → Bool → Prop
  | int (i j : Int) : EqS (.int i) (.int j) (decide (i = j))
  | str (i j : Str) : EqS (.str i) (.str j) (decide (i = j))
  | bl (i j : Bool) : EqS (.bl i) (.bl j) (decide (i = j))
def dEqS : R2D := fun x y S P => ∃ r, EqS x y r ∧ P (.bl r) S
def dNeS : R2D := fun x y S P => ∃ r, EqS x y r ∧ P (.bl (!r)) S
instance : UpR K F0 rEq dEqS := ⟨fun r hv hu ⟨b, h, p⟩ le => by
  cases h with
  | int i j =>
    cases hv; cases hu
    have e : decide (V.int i = V.int j) = decide (i = j) := by simp
    exact ⟨rfl, by rw [e]; exact le _ _ _ _ _ p (Same.refl _) r (.bl _)⟩
  | str i j =>
    cases hv; cases hu
    have e : decide (V.str i = V.str j) = decide (i = j) := by simp
    exact ⟨rfl, by rw [e]; exact le _ _ _ _ _ p (Same.refl _) r (.bl _)⟩
  | bl i j =>
    cases hv; cases hu
    have e : decide (V.bl i = V.bl j) = decide (i = j) := by simp
    exact ⟨rfl, by rw [e]; exact le _ _ _ _ _ p (Same.refl _) r (.bl _)⟩⟩
instance : UpR K F0 rNe dNeS := ⟨fun r hv hu ⟨b, h, p⟩ le => by
  cases h with
  | int i j =>
    cases hv; cases hu
    have e : decide (V.int i = V.int j) = decide (i = j) := by simp
    exact ⟨rfl, by rw [e]; exact le _ _ _ _ _ p (Same.refl _) r (.bl _)⟩
  | str i j =>
    cases hv; cases hu
    have e : decide (V.str i = V.str j) = decide (i = j) := by simp
    exact ⟨rfl, by rw [e]; exact le _ _ _ _ _ p (Same.refl _) r (.bl _)⟩
  | bl i j =>
    cases hv; cases hu
    have e : decide (V.bl i = V.bl j) = decide (i = j) := by simp
    exact ⟨rfl, by rw [e]; exact le _ _ _ _ _ p (Same.refl _) r (.bl _)⟩⟩
/-! ### in -/
def flatD : D → Bool
  | .non => true
  | .bl _ => true
  | .int _ => true
  | .str _ => true
  | _ => false
def eqF : D → D → Bool
  | .non, .non => true
  | .bl a, .bl b => a == b
  | .bl a, .int b => (if a then 1 else 0) == b
  | .int a, .bl b => a == (if b then 1 else 0)
  | .int a, .int b => a == b
  | .str a, .str b => a == b
  | _, _ => false
theorem flat_of {F : Hp} {v : V} {x : D} (h : Vd K F v x) (f : flatD x = true) : flatV v = true := by cases h <;> first | rfl | cases f
theorem eqF_of {F : Hp} {v u : V} {x y : D} (h : Vd K F v x) (g : Vd K F u y) (f : flatD x = true) (f' : flatD y = true) : eqV v u = eqF x y := by
  cases h <;> cases g <;> first | rfl | cases f | cases f'
def inD (x : D) (ds : List D) : Bool := ds.any fun y => eqF y x
theorem inD_of {F : Hp} {v : V} {x : D} (hv : Vd K F v x) (f : flatD x = true) : ∀ {xs : List V} {ds : List D}, VdAll K F xs ds → ds.all flatD = true → inV v xs = inD x ds ∧ xs.all flatV = true
  | _, _, .nil, _ => ⟨rfl, rfl⟩
  | _, _, .cons (d := d) a t, h => by
    have h' := h
    rw [List.all_cons, Bool.and_eq_true] at h'
    obtain ⟨i1, i2⟩ := inD_of hv f t h'.2
    refine ⟨?_, ?_⟩
    · unfold inV inD at i1 ⊢
      rw [List.any_cons, List.any_cons, eqF_of a hv h'.1 f, i1]
    · rw [List.all_cons, flat_of a h'.1, i2]; rfl
def dIn (neg : Bool) : R2D := fun x y S P => ∃ ds, SqS S y ds ∧ flatD x = true ∧ ds.all flatD = true ∧ P (.bl (if neg then !inD x ds else inD x ds)) S
instance (neg : Bool) : UpR K F0 (rIn K neg) (dIn neg) := ⟨fun r hv hu ⟨ds, hs, f, fa, p⟩ le => by
  rcases hs with hs | rfl
  · obtain ⟨a, xs, rfl, hq, hx⟩ := hs.at r hu
    obtain ⟨i1, i2⟩ := inD_of hv f hx fa
    exact ⟨a, xs, rfl, .inl hq, flat_of hv f, i2, by rw [i1]; exact le _ _ _ _ _ p (Same.refl _) r (.bl _)⟩
  · obtain ⟨a, xs, rfl, hq, hx⟩ := tup_at r hu
    obtain ⟨i1, i2⟩ := inD_of hv f hx fa
    exact ⟨a, xs, rfl, .inr hq, flat_of hv f, i2, by rw [i1]; exact le _ _ _ _ _ p (Same.refl _) r (.bl _)⟩⟩
theorem inD_str (z : Str) (ws : List Str) : inD (.str z) (ws.map D.str) = decide (z ∈ ws) := by
  unfold inD
  rw [Bool.eq_iff_iff, decide_eq_true_iff, List.any_eq_true]
  constructor
  · rintro ⟨y, hy, e⟩
    obtain ⟨a, ha, rfl⟩ := List.mem_map.mp hy
    have e : (a == z) = true := e
    rw [← eq_of_beq e]; exact ha
  · intro h
    exact ⟨.str z, List.mem_map_of_mem h, beq_self_eq_true z⟩
theorem inD_int (z : Int) (ws : List Int) : inD (.int z) (ws.map D.int) = decide (z ∈ ws) := by
  unfold inD
  rw [Bool.eq_iff_iff, decide_eq_true_iff, List.any_eq_true]
  constructor
  · rintro ⟨y, hy, e⟩
    obtain ⟨a, ha, rfl⟩ := List.mem_map.mp hy
    have e : (a == z) = true := e
    rw [← eq_of_beq e]; exact ha
  · intro h
    exact ⟨.int z, List.mem_map_of_mem h, beq_self_eq_true z⟩
/-! ### isinstance, a built-in class -/
def tyH : Option HD → String
  | some (.lst _) => "list"
  | some (.dK _) => "dict"
  | _ => "?"
def tyN (S : Sto) : D → String
  | .non => "NoneType"
  | .bl _ => "bool"
  | .int _ => "int"
  | .str _ => "str"
  | .lst _ => "list"
  | .seq _ => "list"
  | .tup _ => "tuple"
  | .dK _ => "dict"
  | .ref a => tyH (S a)
  | _ => "?"
def isT (T t : String) : Bool := t == T || (T == "int" && t == "bool")
def okTy (t : String) : Bool := t == "NoneType" || t == "bool" || t == "int" || t == "str" || t == "list" || t == "tuple" || t == "dict"
def okTn (T : String) : Bool := T == "int" || T == "bool" || T == "tuple" || T == "str" || T == "dict" || T == "list"
def rIsT (K : PySem.W.Frag) : List V → Hp → VK → Prop := fun xs H Q => ∃ (x : V) (T t : String), xs = [x, .ty T] ∧ okTn T = true ∧ okTy t = true ∧ TyX K H x (.type t) ∧ Q (.bl (isT T t)) H
def dIsT : List D → Sto → PV → Prop := fun xs S P => ∃ (x : D) (T : String), xs = [x, .ty T] ∧ okTn T = true ∧ okTy (tyN S x) = true ∧ P (.bl (isT T (tyN S x))) S
theorem tyX_seq {H : Hp} {a : Addr} {xs : List V} (h : SqL K H a xs) : TyX K H (.ref a) (.type "list") := by
  rcases h with (e | ⟨o, e⟩) | ⟨o, _, _, e, c, _⟩
  · exact .base (.lst e)
  · exact .base (.frz e)
  · exact .kList e c
theorem tyX_D {F : Hp} {S : Sto} {H : Hp} {v : V} {x : D} (r : RelH K F0 F S H) (hv : Vd K F v x) (h : okTy (tyN S x) = true) : TyX K H v (.type (tyN S x)) := by
  cases hv with
  | non => exact .base .non
  | bl b => exact .base (.bl b)
  | int b => exact .base (.int b)
  | str b => exact .base (.str b)
  | lst h1 _ => exact .base (.lst (r.fr _ _ h1))
  | seq h1 _ => exact tyX_seq (r.fr.seq h1)
  | tup h1 _ => exact .base (.tup (r.fr _ _ h1))
  | dK h1 _ _ => exact .fDict (r.fr _ _ h1)
  | ref a =>
    have h : okTy (tyH (S a)) = true := h
    show TyX K H (.ref a) (.type (tyH (S a)))
    cases e : S a with
    | none => rw [e] at h; exact absurd h (by decide)
    | some o =>
      rw [e] at h
      cases o with
      | lst ds => obtain ⟨xs, e1, _⟩ := r.lst e; exact .base (.lst e1)
      | dK ds => obtain ⟨xs, e1, _⟩ := r.dK e; exact .base (.dK e1)
      | dT ds => exact absurd (show okTy "?" = true from h) (by decide)
      | ins C ds => exact absurd (show okTy "?" = true from h) (by decide)
      | frK _ _ _ => exact absurd (show okTy "?" = true from h) (by decide)
      | tpN _ => exact absurd (show okTy "?" = true from h) (by decide)
  | _ => exact absurd (show okTy "?" = true from h) (by decide)
instance : UpC K F0 (rIsT K) dIsT := ⟨fun {vs xs H Q F S P} r hv ⟨x, T, e, hT, ht, p⟩ le => by
  subst e
  cases hv with
  | cons hv b =>
    cases b with
    | cons hu b =>
      cases b; cases hu
      exact ⟨_, T, _, rfl, hT, ht, tyX_D r hv ht, le _ _ _ _ _ p (Same.refl _) r (.bl _)⟩⟩
/-! ### repr -/
def rReprP (K : PySem.W.Frag) : List V → Hp → VK → Prop := fun xs H Q => ∃ (x : V) (d : PyData), xs = [x] ∧ Dp K H x d ∧ d.showable = true ∧ d.hasDict = false ∧ d.depth ≤ 60 ∧ d.shown.length ≤ 16000000 ∧ Q (.str d.shown) H
def dRepr : List D → Sto → PV → Prop := fun xs S P => ∃ (x : D) (d : PyData), xs = [x] ∧ pyS S x = some d ∧ d.showable = true ∧ d.hasDict = false ∧ d.depth ≤ 60 ∧ d.shown.length ≤ 16000000 ∧ P (.str d.shown) S
instance : UpC K F0 (rReprP K) dRepr := ⟨fun r hv ⟨x, d, e, hd, h1, h2, h3, h4, p⟩ le => by
  subst e
  cases hv with
  | cons hv b => cases b; exact ⟨_, d, rfl, pyS.at r hv hd, h1, h2, h3, h4, le _ _ _ _ _ p (Same.refl _) r (.str _)⟩⟩
/-! ### displays of dicts -/
class UpPs (K : PySem.W.Frag) (F0 : Hp) (trs : List (TE × TE)) (dp : outParam (EnvD → Sto → (List (D × D) → Sto → Prop) → Prop)) : Prop where
  up : ∀ {σ : L2.St} {H : Hp} {Q : List (V × V) → Hp → Prop} {F : Hp} {S : Sto} {env : EnvD} {P : List (D × D) → Sto → Prop}, Rel K F0 F S env σ H → dp env S P →
    (∀ ps S' F' H' vs, P ps S' → Same F F' → RelH K F0 F' S' H' → Paired (fun p q => Vd K F' p.1 q.1 ∧ Vd K F' p.2 q.2) vs ps → Q vs H') → tPairs trs σ H Q
instance : UpPs K F0 [] (fun _ S P => P [] S) := ⟨fun r0 h le => le _ _ _ _ _ h (Same.refl _) r0.h .nil⟩
instance {tk tv : TE} {dk dv : TED} {trs : List (TE × TE)} {dp : EnvD → Sto → (List (D × D) → Sto → Prop) → Prop} [UpE K F0 tk dk] [UpE K F0 tv dv] [UpPs K F0 trs dp] :
    UpPs K F0 ((tk, tv) :: trs) (fun env S P => dk env S fun x S1 => dv env S1 fun y S2 => dp env S2 fun ps S3 => P ((x, y) :: ps) S3) := ⟨fun r0 h le =>
  UpE.up (t := tk) (td := dk) r0 h fun x S1 F1 H1 v h1 s1 r1 v1 => UpE.up (t := tv) (td := dv) (r0.at s1 r1) h1 fun y S2 F2 H2 u h2 s2 r2 v2 => UpPs.up (trs := trs) (dp := dp) (r0.at (s1.trans s2) r2) h2 fun ps S3 F3 H3 vs h3 s3 r3 v3 =>
    le _ _ _ _ _ h3 ((s1.trans s2).trans s3) r3 (.cons ⟨(v1.mono s2).mono s3, v2.mono s3⟩ v3)⟩
def mergeD (kds more : List (Key × D)) : List (Key × D) := more.foldl (fun acc kd => putD acc kd.1 kd.2) kds
theorem KP.merge {F : Hp} : ∀ {more : List (Key × V)} {mored : List (Key × D)} {kvs : List (Key × V)} {kds : List (Key × D)}, KP K F kvs kds → KP K F more mored → KP K F (mergeK kvs more) (mergeD kds mored)
  | _, _, _, _, h, .nil => h
  | p :: r, q :: t, kvs, kds, h, .cons a b => by
    have h1 : KP K F (putK kvs p.1 p.2) (putD kds q.1 q.2) := by rw [a.1]; exact h.put a.2
    show KP K F (mergeK (putK kvs p.1 p.2) r) (mergeD (putD kds q.1 q.2) t)
    exact KP.merge h1 b
def dDisp (dp : EnvD → Sto → (List (D × D) → Sto → Prop) → Prop) : TED := fun env S P => ∀ p, S p = none → dp env (sup S p (.dK [])) fun ps S2 => S2 p = some (.dK []) ∧ ∃ kds : List (Key × D), ps = kds.map (fun kd => (kD kd.1, kd.2)) ∧ kds.length ≤ 15 ∧ P (.ref p) (sup S2 p (.dK (mergeD [] kds)))
theorem kp_of_pairs {F : Hp} : ∀ {vs : List (V × V)} {kds : List (Key × D)}, Paired (fun p q => Vd K F p.1 q.1 ∧ Vd K F p.2 q.2) vs (kds.map fun kd => (kD kd.1, kd.2)) → ∃ kvs : List (Key × V), vs = kvs.map (fun kv => (kV kv.1, kv.2)) ∧ KP K F kvs kds
  | _, [], .nil => ⟨[], rfl, .nil⟩
  | p :: r, q :: t, .cons a b => by
    obtain ⟨kvs, e, k⟩ := kp_of_pairs b
    refine ⟨(q.1, p.2) :: kvs, ?_, .cons ⟨rfl, a.2⟩ k⟩
    rw [List.map_cons, ← e]
    have : p.1 = kV q.1 := vd_key a.1
    rw [← this]
instance {trs : List (TE × TE)} {dp : EnvD → Sto → (List (D × D) → Sto → Prop) → Prop} [UpPs K F0 trs dp] : UpE K F0 (tDisp trs) (dDisp dp) := ⟨fun r0 h le => fun p hp => by
  have r1 := r0.h.new hp (.dK (kvs := []) (kds := []) rfl .nil)
  refine UpPs.up (trs := trs) (dp := dp) (r0.at (Same.refl _) r1) (h p (r0.h.free hp).2) fun ps S2 F2 H2 vs ⟨e2, kds, e3, hl, p2⟩ s2 r2 v2 => ?_
  subst e3
  obtain ⟨kvs0, e4, e5, e6⟩ := r2.dK e2
  have e7 : kvs0 = [] := by cases kvs0 with
    | nil => rfl
    | cons _ _ => cases e5
  subst e7
  obtain ⟨kvs, rfl, kp⟩ := kp_of_pairs v2
  have km := KP.merge (kvs := []) (kds := []) (.nil : KP K F2 [] []) kp
  exact ⟨e4, kvs, rfl, by rw [kp.len]; exact hl, le _ _ _ _ _ p2 s2 (r2.put e2 (.dK km.keys km.vals)) (.ref p)⟩⟩
/-! ### a, *b = t -/
def kStar (n k : Nat) (u : TGsD) : TGD := fun x env S P => ∃ ds, x = .tup ds ∧ n ≤ ds.length + 1 ∧ ∀ p, S p = none → u (ds.take k ++ [.ref p] ++ ds.drop (ds.length - (n - 1 - k))) env (sup S p (.lst ((ds.drop k).take (ds.length - (n - 1))))) P
end
end L2.VW

/-! ## more rules by these readings -/
namespace L2.VW
open PySem PySem.Spec PyProof.Rows
theorem isT_int {t : String} : isT "int" t = (t == "int" || t == "bool") := by simp [isT]
theorem kit_isT {K : PySem.W.Frag} {T t : String} (h : okTn T = true) (ht : okTy t = true) : PySem.W.kitOne K (.type t) (.type T) = some (isT T t) := by
  have c : T = "int" ∨ T = "bool" ∨ T = "tuple" ∨ T = "str" ∨ T = "dict" ∨ T = "list" := by
    unfold okTn at h
    simpa [or_assoc] using h
  have c2 : t = "NoneType" ∨ t = "bool" ∨ t = "int" ∨ t = "str" ∨ t = "list" ∨ t = "tuple" ∨ t = "dict" := by
    unfold okTy at ht
    simpa [or_assoc] using ht
  rcases c with rfl | rfl | rfl | rfl | rfl | rfl <;> rcases c2 with rfl | rfl | rfl | rfl | rfl | rfl | rfl <;> exact kit_ty (by decide +kernel)
section
variable {X : Cx}
theorem call_isA : CallR X (.builtin "isinstance") (rIsT X.K) := by
  intro pins s σ H xs us Q I r h
  obtain ⟨x, T, t, rfl, hT, ht, ty, q⟩ := h
  exact call_isi pins s σ H _ us Q I r ⟨x, .ty T, _, _, _, rfl, .ty T, ty, kit_isT hT ht, q⟩
theorem call_reprA (hgd : X.A.guards = some []) (hu : X.A.units + 64 < cLine) : CallR X (.builtin "repr") (rReprP X.K) := by
  intro pins s σ H xs us Q I r h
  obtain ⟨x, d, rfl, hd, hs, hn, hdp, hz, q⟩ := h
  obtain ⟨u, rfl, rx⟩ := vals1 r
  have hsz : d.shown.length ≤ sizeLine := Nat.le_trans hz (by rw [sizeLine_eq]; decide)
  cases hd with
  | non =>
    obtain rfl : u = Value.none := rx
    exact PySem.P.repr_of_none ⟨.str _, H, I.tok _, ⟨_, rfl⟩, q⟩
  | bl b =>
    obtain rfl : u = Value.bool b := rx
    exact PySem.P.repr_of_bool ⟨.str _, H, I.tok _, ⟨_, rfl⟩, q⟩
  | int i =>
    obtain ⟨t, rfl⟩ := rx
    exact PySem.P.repr_of_int (by simpa [PyData.showable] using hs) ⟨.str _, H, I.tok _, ⟨_, rfl⟩, q⟩
  | str z =>
    obtain ⟨t, rfl⟩ := rx
    exact PySem.P.repr_of_str (hsz := hsz) ⟨.str _, H, I.tok _, ⟨_, rfl⟩, q⟩
  | lst h1 h2 =>
    rename_i a ys es
    obtain rfl : u = Value.ref a := rx
    obtain ⟨as, rd⟩ := Dp.reads I _ _ _ (Dp.lst h1 h2) (show RelV (V.ref a) (Value.ref a) from rfl)
    refine repr_of_reads' rd hs (fun e => by rw [hn] at e; cases e) hgd (by omega) (fun _ _ e => e) (fun h' u' tk hk => ?_) hsz
    exact ⟨.str _, H, I.kept (t' := tk) hk, ⟨_, rfl⟩, q⟩
  | tup h1 h2 =>
    rename_i a ys es
    obtain rfl : u = Value.ref a := rx
    obtain ⟨as, rd⟩ := Dp.reads I _ _ _ (Dp.tup h1 h2) (show RelV (V.ref a) (Value.ref a) from rfl)
    refine repr_of_reads' rd hs (fun e => by rw [hn] at e; cases e) hgd (by omega) (fun _ _ e => e) (fun h' u' tk hk => ?_) hsz
    exact ⟨.str _, H, I.kept (t' := tk) hk, ⟨_, rfl⟩, q⟩
/-- name = [..] on one line, data -/
theorem ps_setLcK {i : Nat} {y : Str} {py : Pos} {elt tg iter : Expr} {ifs : List Expr} {scope : Scope} {own : List (Str × Nat)} {pos spos : Pos} {wi : TI} {g : TG} {tt : TT} {te : TE} (hc : X.calm = true) (hN : X.N.Nodup) (hy : X.N[i]? = some y) (hyl : X.env.scope.names.lookup y = some .local)
    (hsw : swapsWith (.ListComp elt [⟨tg, iter, ifs, 0⟩] scope pos) (some (.Name y py)) spos.line X.env = pure true) (hi : PI X tg iter wi) (ok : BlkOk X.N X.env.scope scope own)
    (hg : ∀ (s : Shared) (H : Hp) (C : Addr) (cl : List (Str × Addr)) (fp : List Addr), PG (X.blk s H scope (compEnvC scope cl C X.env) fp) tg g) (ht : ∀ (s : Shared) (H : Hp) (C : Addr) (cl : List (Str × Addr)) (fp : List Addr), PTs (X.blk s H scope (compEnvC scope cl C X.env) fp) ifs tt)
    (he : ∀ (s : Shared) (H : Hp) (C : Addr) (cl : List (Str × Addr)) (fp : List Addr), PE (X.blk s H scope (compEnvC scope cl C X.env) fp) elt te) (hs : ∀ x, foldedSetIterable iter X.env x = pure x := by intro _; rfl) :
    PS X (.Assign [.Name y py] (.ListComp elt [⟨tg, iter, ifs, 0⟩] scope pos) spos) (tAsg (tKp (tLc wi g tt te (own.map (·.2)))) (gName i)) := ps_setLc hc hN hy hyl hsw hi ok hg ht he hs
end
end L2.VW

/-! ## new lists that never change: data from the start -/
namespace L2.VW
open PySem PySem.Spec PyProof.Rows
section
variable {K : PySem.W.Frag} {F0 : Hp}
def dLstD (da : TAD) : TED := fun env S P => da env S fun xs S1 => xs.length ≤ sizeLine ∧ P (.lst xs) S1
instance (priority := 2000) {ta : TA} {da : TAD} [UpA K F0 ta da] : UpE K F0 (tKp (tLst ta)) (dLstD da) := ⟨fun r0 h le => by
  show tLst ta _ _ _
  exact UpA.up (t := ta) (td := da) r0 h fun xs S1 F1 H1 vs ⟨h0, h1⟩ s1 r1 v1 => ⟨by rw [v1.len]; exact h0, fun p hp => by
    obtain ⟨s2, r2⟩ := r1.newF (ho := .lst vs) hp
    exact le _ _ _ _ _ h1 (s1.trans s2) r2 (.lst upd_same (v1.mono s2))⟩⟩
def dSlLD : RSlD := fun x lo hi S P => ∃ ds, SeqL S x ds ∧ P (.lst (cutD ds lo hi)) S
instance (priority := 2000) {te : TE} {de : TED} {tl th : TO} {dl dh : TOD} [UpE K F0 te de] [UpO K F0 tl dl] [UpO K F0 th dh] : UpE K F0 (tKp (tSl (rSlL K) te tl th)) (dSl dSlLD de dl dh) := ⟨fun r0 h le => by
  show tSl (rSlL K) te tl th _ _ _
  exact UpE.up (t := te) (td := de) r0 h fun x S1 F1 H1 v h1 s1 r1 v1 => UpO.up (t := tl) (td := dl) (r0.at s1 r1) h1 fun l S2 F2 H2 h2 s2 r2 => UpO.up (t := th) (td := dh) (r0.at (s1.trans s2) r2) h2 fun u S3 F3 H3 ⟨ds, hs, p⟩ s3 r3 => by
    obtain ⟨a, xs, e, hq, ha⟩ := hs.at r3 ((v1.mono s2).mono s3)
    refine ⟨a, xs, e, hq, fun q hq => ?_⟩
    obtain ⟨s4, r4⟩ := r3.newF (ho := .lst (cutV xs l u)) hq
    exact le _ _ _ _ _ p (((s1.trans s2).trans s3).trans s4) r4 (.lst upd_same ((ha.cut _ _).mono s4))⟩
def dCatD : R2D := fun x y S P => ∃ ds es, SeqW S x ds ∧ SeqW S y es ∧ ds.length + es.length ≤ sizeLine ∧ P (.lst (ds ++ es)) S
instance (priority := 2000) {ta tb : TE} {da db : TED} [UpE K F0 ta da] [UpE K F0 tb db] : UpE K F0 (tKp (tOp rCat ta tb)) (dOp dCatD da db) := ⟨fun r0 h le => by
  show tOp rCat ta tb _ _ _
  exact UpE.up (t := ta) (td := da) r0 h fun x S1 F1 H1 v h1 s1 r1 v1 => UpE.up (t := tb) (td := db) (r0.at s1 r1) h1 fun y S2 F2 H2 u ⟨ds, es, g1, g2, hl, p⟩ s2 r2 v2 => by
    obtain ⟨a, xs, rfl, e1, hx⟩ := g1.at r2 (v1.mono s2)
    obtain ⟨b, ys, rfl, e2, hy⟩ := g2.at r2 v2
    refine ⟨a, b, xs, ys, rfl, rfl, e1, e2, by rw [hx.len, hy.len]; exact hl, fun q hq => ?_⟩
    obtain ⟨s3, r3⟩ := r2.newF (ho := .lst (xs ++ ys)) hq
    exact le _ _ _ _ _ p ((s1.trans s2).trans s3) r3 (.lst upd_same ((hx.app hy).mono s3))⟩
def dRepD : R2D := fun x y S P => ∃ ds k, SeqW S x ds ∧ y = .int k ∧ (-(2 ^ 63) ≤ k ∧ k < 2 ^ 63) ∧ ds.length * k.toNat ≤ sizeLine ∧ P (.lst (List.replicate k.toNat ds).flatten) S
instance (priority := 2000) {ta tb : TE} {da db : TED} [UpE K F0 ta da] [UpE K F0 tb db] : UpE K F0 (tKp (tOp rRep ta tb)) (dOp dRepD da db) := ⟨fun r0 h le => by
  show tOp rRep ta tb _ _ _
  exact UpE.up (t := ta) (td := da) r0 h fun x S1 F1 H1 v h1 s1 r1 v1 => UpE.up (t := tb) (td := db) (r0.at s1 r1) h1 fun y S2 F2 H2 u ⟨ds, k, g1, e, ⟨b1, b2⟩, hl, p⟩ s2 r2 v2 => by
    subst e; cases v2
    obtain ⟨a, xs, rfl, e1, hx⟩ := g1.at r2 (v1.mono s2)
    refine ⟨a, k, xs, rfl, rfl, e1, b1, b2, by rw [hx.len]; exact hl, fun q hq => ?_⟩
    obtain ⟨s3, r3⟩ := r2.newF (ho := .lst (List.replicate k.toNat xs).flatten) hq
    exact le _ _ _ _ _ p ((s1.trans s2).trans s3) r3 (.lst upd_same ((hx.rep _).mono s3))⟩
def dLstOfD : List D → Sto → PV → Prop := fun xs S P => ∃ x ds, xs = [x] ∧ LstS S x ds ∧ P (.lst ds) S
instance (priority := 2000) {ta : TA} {da : TAD} [UpA K F0 ta da] : UpE K F0 (tKp (tCB (rLstOf K) ta)) (dCB dLstOfD da) := ⟨fun r0 h le => by
  show tCB (rLstOf K) ta _ _ _
  exact UpA.up (t := ta) (td := da) r0 h fun xs S1 F1 H1 vs ⟨x, ds, e, h, p⟩ s1 r1 v1 => by
    subst e
    cases v1 with
    | cons hv b =>
      cases b
      rcases h with h | rfl | ⟨kds, h, rfl⟩
      · obtain ⟨a, xs, rfl, hq, hx⟩ := h.at r1 hv
        refine .inl ⟨a, xs, rfl, .inl hq, fun q hq => ?_⟩
        obtain ⟨s4, r4⟩ := r1.newF (ho := .lst xs) hq
        exact le _ _ _ _ _ p (s1.trans s4) r4 (.lst upd_same (hx.mono s4))
      · obtain ⟨a, xs, rfl, hq, hx⟩ := tup_at r1 hv
        refine .inl ⟨a, xs, rfl, .inr hq, fun q hq => ?_⟩
        obtain ⟨s4, r4⟩ := r1.newF (ho := .lst xs) hq
        exact le _ _ _ _ _ p (s1.trans s4) r4 (.lst upd_same (hx.mono s4))
      · obtain ⟨a, kvs, rfl, rd, kp⟩ := h.at r1 hv
        refine .inr ⟨a, kvs, rfl, rd, fun q hq => ?_⟩
        obtain ⟨s4, r4⟩ := r1.newF (ho := .lst (kvs.map fun kv => kV kv.1)) hq
        exact le _ _ _ _ _ p (s1.trans s4) r4 (.lst upd_same ((vd_keyL kp.keys).mono s4))⟩
/-- what a comprehension asks, once what it walks is known -/
structure LcD (w : WD) (gd : TGD) (ttd : TTD) (ed : TED) (vs : List Nat) (env : EnvD) (P : PV) (S1 : Sto) : Prop where
  ex : ∀ L, S1 L = none → ∃ I : Nat → List D → Sto → Prop, I 0 [] (sup S1 L (.lst [])) ∧
    (∀ i acc S, i ≤ w.n → I i acc S → S L = some (.lst acc) ∧ w.ok S) ∧
    (∀ i d acc S, i < w.n → w.item i d → I i acc S → gd d (wipeD env vs) S fun env2 S2 => ttd env2 S2 fun b S3 => if b = true then ed env2 S3 fun y S4 => S4 L = some (.lst acc) ∧ acc.length < sizeLine ∧ I (i + 1) (acc ++ [y]) (sup S4 L (.lst (acc ++ [y]))) else I (i + 1) acc S3) ∧
    ∀ acc S, I w.n acc S → P (.lst acc) (sdel S L)
def dLcD (wd : TID) (gd : TGD) (ttd : TTD) (ed : TED) (vs : List Nat) : TED := fun env S P => wd env S fun w S1 => LcD w gd ttd ed vs env P S1
instance (priority := 2000) {wi : TI} {wd : TID} {g : TG} {gd : TGD} {tt : TT} {ttd : TTD} {te : TE} {ed : TED} {vs is : List Nat} [UpI K F0 wi wd] [UpG K F0 g gd] [UpT K F0 tt ttd] [UpE K F0 te ed] [GFr g is] [Sub is vs] : UpE K F0 (tKp (tLc wi g tt te vs)) (dLcD wd gd ttd ed vs) := ⟨fun {σ H Q F S env P} r0 h le => by
  show tLc wi g tt te vs _ _ _
  refine UpI.up (t := wi) (td := wd) r0 h fun w S1 F1 H1 J q s1 r1 lk => fun L hL => ?_
  obtain ⟨I, i0, hok, hs, hd⟩ := q.ex L (r1.free hL).2
  have rD := r1.new hL (.lst (xs := []) (ds := []) .nil)
  refine ⟨fun i m H => m = w.n - i ∧ i ≤ w.n ∧ ∃ F S acc, Same F1 F ∧ RelH K F0 F S H ∧ I i acc S, ⟨_, rfl, Nat.zero_le _, F1, _, [], Same.refl _, rD, i0⟩, ?_⟩
  rintro i m H ⟨rfl, hi, F, S, acc, s2, r2, p⟩
  obtain ⟨eD, ok⟩ := hok i acc S hi p
  by_cases c : i < w.n
  · refine .inr ⟨lk.goes i F S H c s2 r2 ok, fun H' => ∃ F S acc, Same F1 F ∧ RelH K F0 F S H' ∧ I (i + 1) acc S, fun H' q => ⟨w.n - (i + 1), by omega, rfl, c, q⟩, fun x H' hy => ?_⟩
    obtain ⟨F3, d, s3, r3, _, v3, hit⟩ := lk.yields i F S H x H' c s2 r2 ok hy
    have s03 := s1.trans (s2.trans s3)
    refine GFr.mono (g := g) (is := is) (fun σ' H' ⟨q, l1, f1⟩ => ⟨wipe_fr (is := is) (Sub.sub) l1 f1, q⟩) (GFr.fr (g := g) (is := is) (UpG.up (t := g) (td := gd) (F := F3) (env := wipeD env vs) ⟨r3, wipe_rel (r0.s.mono s03) vs⟩ v3 (hs i d acc S c hit p) fun env4 S4 F4 σ4 H4 h4 s4 r4 =>
      UpT.up (t := tt) (td := ttd) r4 h4 fun b S5 F5 H5 h5 s5 r5 => ?_))
    cases b with
    | false => exact ⟨F5, S5, acc, ((s2.trans s3).trans s4).trans s5, r5, h5⟩
    | true =>
      refine UpE.up (t := te) (td := ed) (r4.at s5 r5) h5 fun y S6 F6 H6 u ⟨e6, hl, p6⟩ s6 r6 v6 => ?_
      obtain ⟨xs, e7, h7⟩ := r6.lst e6
      exact ⟨xs, e7, by rw [h7.len]; exact hl, F6, _, _, (((s2.trans s3).trans s4).trans s5).trans s6, r6.put e6 (.lst (h7.app (.cons v6 .nil))), p6⟩
  · have e : i = w.n := by omega
    subst e
    obtain ⟨xs, e2, h2⟩ := r2.lst eD
    obtain ⟨s3, r3⟩ := r2.keep eD e2
    exact .inl ⟨lk.stops F S H s2 r2 ok, le _ _ _ _ _ (hd acc S p) ((s1.trans s2).trans s3) r3 (.lst upd_same (h2.mono s3))⟩⟩
/-- a comprehension that leaves all as it was: f tells what is made of each item -/
theorem lcD_pure {w : WD} {gd : TGD} {ttd : TTD} {ed : TED} {vs : List Nat} {env : EnvD} {S1 : Sto} {P : PV} (xs : List D) (f : D → Option D) (hn : w.n = xs.length) (hi : ∀ i d, w.item i d → xs[i]? = some d) (hl : xs.length < sizeLine)
    (hok : ∀ L acc, S1 L = none → w.ok (sup S1 L (.lst acc)))
    (ht : ∀ (d : D) (S : Sto) (Zy : D → Sto → Prop) (Zn : Sto → Prop), d ∈ xs → (∀ a o, S1 a = some o → S a = some o) → (∀ y, f d = some y → Zy y S) → (f d = none → Zn S) →
      gd d (wipeD env vs) S fun env2 S2 => ttd env2 S2 fun b S3 => if b = true then ed env2 S3 Zy else Zn S3)
    (hp : P (.lst (xs.filterMap f)) S1) :
    LcD w gd ttd ed vs env P S1 := ⟨fun L hL => by
  refine ⟨fun i acc S => acc = (xs.take i).filterMap f ∧ S = sup S1 L (.lst acc), ⟨rfl, rfl⟩, fun i acc S _ ⟨_, e⟩ => ?_, fun i d acc S hlt hit ⟨e1, e2⟩ => ?_, fun acc S ⟨e1, e2⟩ => ?_⟩
  · subst e
    exact ⟨sup_same, hok L _ hL⟩
  · have hx := hi i d hit
    have ht1 : xs.take (i + 1) = xs.take i ++ [d] := by rw [List.take_add_one, hx]; rfl
    have hal : acc.length < sizeLine := by
      rw [e1]
      refine Nat.lt_of_le_of_lt (List.length_filterMap_le _ _) ?_
      rw [List.length_take]; omega
    refine ht d S _ _ (List.mem_of_getElem? hx) (fun a o e => by rw [e2, sup_ne (sne_of e hL)]; exact e) (fun y hy => ?_) (fun hy => ?_)
    · subst e2
      refine ⟨sup_same, hal, ?_, by rw [sup_sup]⟩
      rw [ht1, List.filterMap_append, ← e1, List.filterMap_cons, hy]; rfl
    · refine ⟨?_, e2⟩
      rw [ht1, List.filterMap_append, ← e1, List.filterMap_cons, hy]
      simp
  · subst e2
    rw [sdel_sup hL, e1, hn, List.take_length]
    exact hp⟩
end
/-! ### pools: lists of two numbers from which is drawn -/
def PoolS (S : Sto) (q : Addr) : Prop := ∃ c s : Int, S q = some (.lst [.int c, .int s]) ∧ 0 ≤ c ∧ 0 ≤ s ∧ s < 2147483648
/-- all as it was but the pool at q, which is one -/
def Drawn (S : Sto) (q : Addr) (S' : Sto) : Prop := ∃ c s : Int, S' = sup S q (.lst [.int c, .int s]) ∧ 0 ≤ c ∧ 0 ≤ s ∧ s < 2147483648
section
variable {S S' S'' S2 : Sto} {q b L : Addr} {o : HD}
theorem Drawn.pool (d : Drawn S q S') : PoolS S' q := by
  obtain ⟨c, s, rfl, h⟩ := d
  exact ⟨c, s, sup_same, h⟩
theorem Drawn.trans (d : Drawn S q S') (e : Drawn S' q S'') : Drawn S q S'' := by
  obtain ⟨c, s, rfl, h⟩ := d
  obtain ⟨c', s', rfl, h'⟩ := e
  exact ⟨c', s', sup_sup, h'⟩
theorem Drawn.at (d : Drawn S q S') (h : S b = some o) (n : b ≠ q) : S' b = some o := by
  obtain ⟨c, s, rfl, _⟩ := d
  rw [sup_ne n]; exact h
theorem Drawn.gone (d : Drawn S q S') (h : S b = none) (n : b ≠ q) : S' b = none := by
  obtain ⟨c, s, rfl, _⟩ := d
  rw [sup_ne n]; exact h
theorem Drawn.back (d : Drawn S q S') (h : S' b = none) (hq : PoolS S q) : S b = none := by
  obtain ⟨c, s, rfl, _⟩ := d
  by_cases e : b = q
  · rw [e, sup_same] at h; cases h
  · rw [sup_ne e] at h; exact h
theorem Drawn.refl (h : PoolS S q) : Drawn S q S := by
  obtain ⟨c, s, e, h⟩ := h
  exact ⟨c, s, (sup_self e).symm, h⟩
theorem PoolS.ne (h : PoolS S q) (e : S b = none) : b ≠ q := fun z => by
  obtain ⟨_, _, h, _⟩ := h
  rw [← z, e] at h; cases h
theorem sup_comm {u : HD} (n : b ≠ q) : sup (sup S b o) q u = sup (sup S q u) b o := by
  funext x; unfold sup
  by_cases h1 : x = q
  · by_cases h2 : x = b
    · exact absurd (h2.symm.trans h1) n
    · rw [if_pos h1, if_neg h2, if_pos h1]
  · by_cases h2 : x = b
    · rw [if_neg h1, if_pos h2, if_pos h2]
    · rw [if_neg h1, if_neg h2, if_neg h2, if_neg h1]
theorem Drawn.under (d : Drawn (sup S L o) q S2) (n : L ≠ q) : ∃ S', S2 = sup S' L o ∧ Drawn S q S' := by
  obtain ⟨c, s, rfl, h⟩ := d
  exact ⟨sup S q (.lst [.int c, .int s]), sup_comm n, c, s, rfl, h⟩
theorem PoolS.over (h : PoolS S q) (n : L ≠ q) : PoolS (sup S L o) q := by
  obtain ⟨c, s, e, h⟩ := h
  exact ⟨c, s, by rw [sup_ne n.symm]; exact e, h⟩
theorem PoolS.new (h : PoolS S q) (e : S L = none) : PoolS (sup S L o) q := h.over (h.ne e)
end
/-- a comprehension whose turns draw from the pool at q -/
theorem lcD_drawn {w : WD} {gd : TGD} {ttd : TTD} {ed : TED} {vs : List Nat} {env : EnvD} {S1 : Sto} {P : PV} {q : Addr} (xs : List D) (Inv : Nat → List D → Prop) (hn : w.n = xs.length) (hi : ∀ i d, w.item i d → xs[i]? = some d) (hq : PoolS S1 q)
    (hok : ∀ L acc S, S1 L = none → (∀ a o, S1 a = some o → a ≠ q → S a = some o) → w.ok (sup S L (.lst acc))) (h0 : Inv 0 []) (hl : ∀ i acc, Inv i acc → acc.length < sizeLine)
    (ht : ∀ (i : Nat) (d : D) (acc : List D) (S : Sto) (Zy : D → Sto → Prop) (Zn : Sto → Prop), xs[i]? = some d → Inv i acc → PoolS S q → (∀ a o, S1 a = some o → a ≠ q → S a = some o) →
      (∀ y S', Drawn S q S' → Inv (i + 1) (acc ++ [y]) → Zy y S') → (∀ S', Drawn S q S' → Inv (i + 1) acc → Zn S') →
      gd d (wipeD env vs) S fun env2 S2 => ttd env2 S2 fun b S3 => if b = true then ed env2 S3 Zy else Zn S3)
    (hp : ∀ acc S', Inv xs.length acc → Drawn S1 q S' → P (.lst acc) S') :
    LcD w gd ttd ed vs env P S1 := ⟨fun L hL => by
  have nL := hq.ne hL
  refine ⟨fun i acc S => Inv i acc ∧ ∃ S', S = sup S' L (.lst acc) ∧ Drawn S1 q S', ⟨h0, S1, rfl, .refl hq⟩, fun i acc S _ ⟨_, S', e, d⟩ => ?_, fun i x acc S hlt hit ⟨iv, S', e, d⟩ => ?_, fun acc S ⟨iv, S', e, d⟩ => ?_⟩
  · subst e
    exact ⟨sup_same, hok L _ _ hL fun a o e n => d.at e n⟩
  · subst e
    refine ht i x acc _ _ _ (hi i x hit) iv (d.pool.over nL) (fun a o e n => by rw [sup_ne (sne_of e hL)]; exact d.at e n) (fun y S2 d2 iv2 => ?_) (fun S2 d2 iv2 => ?_)
    · obtain ⟨S3, rfl, d3⟩ := d2.under nL
      exact ⟨sup_same, hl i acc iv, iv2, S3, by rw [sup_sup], d.trans d3⟩
    · obtain ⟨S3, rfl, d3⟩ := d2.under nL
      exact ⟨iv2, S3, rfl, d.trans d3⟩
  · subst e
    rw [sdel_sup (d.gone hL nL)]
    rw [hn] at iv
    exact hp acc S' iv d⟩
/-! ### which slots a target stores to, by instances -/
class Mem (i : Nat) (vs : List Nat) : Prop where
  mem : i ∈ vs
instance {i : Nat} {vs : List Nat} : Mem i (i :: vs) := ⟨List.mem_cons_self⟩
instance {i j : Nat} {vs : List Nat} [h : Mem i vs] : Mem i (j :: vs) := ⟨List.mem_cons_of_mem _ h.mem⟩
instance {vs : List Nat} : Sub [] vs := ⟨fun _ h => absurd h List.not_mem_nil⟩
instance {i : Nat} {is vs : List Nat} [h : Mem i vs] [t : Sub is vs] : Sub (i :: is) vs := ⟨fun j hj => by
  rcases List.mem_cons.mp hj with rfl | hj
  · exact h.mem
  · exact t.sub j hj⟩
instance {is js vs : List Nat} [h : Sub is vs] [t : Sub js vs] : Sub (is ++ js) vs := ⟨fun j hj => by
  rcases List.mem_append.mp hj with hj | hj
  · exact h.sub j hj
  · exact t.sub j hj⟩
end L2.VW

/-! ## errors: raised, let out, taken -/
namespace L2
open PySem PySem.Spec PyProof.Rows
/-- an own class of errors with one field, with two: its starter -/
def spErr (C : Addr) (f : Str) : Sp := fun vs H Q _ => ∃ (a : Addr) (v : V), vs = [.ref a, v] ∧ H a = some (exo a C none) ∧ ∀ dx, H dx = none → dx ≠ a → Q .non (upd (upd H dx (exd dx [(f, v)])) a (exo a C (some dx)))
def spErr2 (C : Addr) (f g : Str) : Sp := fun vs H Q _ => ∃ (a : Addr) (v z : V), vs = [.ref a, v, z] ∧ H a = some (exo a C none) ∧ ∀ dx, H dx = none → dx ≠ a → Q .non (upd (upd (upd H dx (exd dx [(f, v)])) a (exo a C (some dx))) dx (exd dx [(g, z), (f, v)]))
theorem err_end {H : Hp} {a d : Addr} {o1 o2 o3 o : HO} (ha : H a = none) (n : d ≠ a) : upd (del (upd (upd (upd H a o1) d o2) a o3) a) d o = upd H d o := by
  funext b
  unfold upd del
  by_cases e : b = d
  · subst e; simp
  · by_cases e2 : b = a
    · subst e2; simp [e, ha]
    · simp [e, e2]
theorem err_end2 {H : Hp} {a d : Addr} {o1 o2 o3 o4 o : HO} (ha : H a = none) (n : d ≠ a) : upd (del (upd (upd (upd (upd H a o1) d o2) a o3) d o4) a) d o = upd H d o := by
  funext b
  unfold upd del
  by_cases e : b = d
  · subst e; simp
  · by_cases e2 : b = a
    · subst e2; simp [e, ha]
    · simp [e, e2]
end L2
namespace L2.VW
open PySem PySem.Spec PyProof.Rows
/-- what is wanted of an error, with the slots -/
abbrev WXD := Addr → Option (List (Str × D)) → EnvD → Sto → Prop
structure WB (K : PySem.W.Frag) (F0 : Hp) (WD : WXD) where
  W : WX
  le : ∀ C ods env S F' σ H od, WD C ods env S → Same F0 F' → Rel K F0 F' S env σ H → XdAt K F' H od ods → W (.ref C) od σ H
/-- an error's dict, known from here on -/
structure XB (K : PySem.W.Frag) (F0 : Hp) (ods : Option (List (Str × D))) where
  od : Option Addr
  at_ : XdAt K F0 F0 od ods
theorem XdAt.mono {K : PySem.W.Frag} {F F' H H' : Hp} {od : Option Addr} {ods : Option (List (Str × D))} (s : Same F F') (t : Same H H') (h : XdAt K F H od ods) : XdAt K F' H' od ods := by
  cases h with
  | none => exact .none
  | some h1 h2 h3 => exact .some (t _ _ h1) h2 (h3.mono s)
/-! ### raise -/
def tRaise (C : Addr) (sp : Sp) (dvs : List V) (ta : TA) (W : WX) : TS := fun _ σ H => tMkO C sp dvs ta σ H fun cls d H' => W cls d σ H'
def tRaiseP (C : Addr) (W : WX) : TS := fun _ σ H => W (.ref C) none σ H
theorem ps_raiseV {X : Cx} {W : WX} {e : Expr} {C : Addr} {sp : Sp} {dvs : List V} {ta : TA} {pos : Pos} (hc : X.calm = true) (tk : Takes X W) (he : PMk X e (tMkO C sp dvs ta)) : PS X (.Raise (some e) none pos) (tRaise C sp dvs ta W) := ps_raise hc tk he
theorem ps_raisePV {X : Cx} {W : WX} {e : Expr} {C : Addr} {pos : Pos} (hc : X.calm = true) (tk : Takes X W) (he : PMk X e (fun _ H Q => Q (.ref C) none H)) : PS X (.Raise (some e) none pos) (tRaiseP C W) := ps_raise hc tk he
section
variable {K : PySem.W.Frag} {F0 : Hp}
/-- the entry's own wish, with the slots -/
class WLe (K : PySem.W.Frag) (F0 : Hp) (W : WX) (WD : outParam WXD) : Prop where
  le : ∀ C ods env S F' σ H od, WD C ods env S → Same F0 F' → Rel K F0 F' S env σ H → XdAt K F' H od ods → W (.ref C) od σ H
instance {E : XK} {PE : XD} [x : XLe K F0 E PE] : WLe K F0 (fun cls d _ H => E cls d H) (fun C ods _ S => PE C ods S) := ⟨fun C ods _ S F' _ H od p s r h => x.le C ods S F' H od p s r.h h⟩
instance {WD : WXD} {b : WB K F0 WD} : WLe K F0 b.W WD := ⟨b.le⟩
def dRaiseP (C : Addr) (WD : WXD) : TSD := fun _ env S => WD C none env S
instance {C : Addr} {W : WX} {WD : WXD} [x : WLe K F0 W WD] : UpS K F0 (tRaiseP C W) (dRaiseP C WD) := ⟨fun r0 h _ => x.le _ _ _ _ _ _ _ _ h r0.h.s0 r0 .none⟩
def dRaise1 (C : Addr) (f : Str) (WD : WXD) (da : TAD) : TSD := fun _ env S => da env S fun xs S1 => ∃ x, xs = [x] ∧ WD C (some [(f, x)]) env S1
theorem RelH.xd {F : Hp} {S : Sto} {H : Hp} {d : Addr} {fs : List (Str × V)} (r : RelH K F0 F S H) (h : H d = none) : RelH K F0 F S (upd H d (.xd fs)) :=
  r.grow fun b u e => by rw [upd_ne (ne_of_none e h)]; exact e
instance {C : Addr} {f : Str} {W : WX} {WD : WXD} {ta : TA} {da : TAD} [UpA K F0 ta da] [x : WLe K F0 W WD] : UpS K F0 (tRaise C (spErr C f) [] ta W) (dRaise1 C f WD da) := ⟨fun r0 h _ =>
  UpA.up (t := ta) (td := da) r0 h fun xs S1 F1 H1 vs ⟨x1, e, p⟩ s1 r1 v1 => by
    subst e
    obtain ⟨v, rfl, hv⟩ : ∃ v, vs = [v] ∧ Vd K F1 v x1 := by cases v1 with | cons hv b => cases b; exact ⟨_, rfl, hv⟩
    refine ⟨by simp, fun a ha => ⟨a, v, rfl, upd_same, fun dx hd ne => ⟨rfl, dx, [(f, v)], upd_same, ?_, ?_, ?_⟩⟩⟩
    · rw [upd_ne ne]; exact upd_same
    · rw [upd_ne ne] at hd; exact hd
    · rw [err_end ha ne]
      rw [upd_ne ne] at hd
      exact x.le _ _ _ _ F1 _ _ _ p r1.s0 (r0.at s1 (r1.xd hd)) (.some upd_same rfl (.cons hv .nil))⟩
def dRaise2 (C : Addr) (f g : Str) (WD : WXD) (da : TAD) : TSD := fun _ env S => da env S fun xs S1 => ∃ x y, xs = [x, y] ∧ WD C (some [(g, y), (f, x)]) env S1
instance {C : Addr} {f g : Str} {W : WX} {WD : WXD} {ta : TA} {da : TAD} [UpA K F0 ta da] [x : WLe K F0 W WD] : UpS K F0 (tRaise C (spErr2 C f g) [] ta W) (dRaise2 C f g WD da) := ⟨fun r0 h _ =>
  UpA.up (t := ta) (td := da) r0 h fun xs S1 F1 H1 vs ⟨x1, x2, e, p⟩ s1 r1 v1 => by
    subst e
    obtain ⟨v, z, rfl, hv, hw⟩ : ∃ v z, vs = [v, z] ∧ Vd K F1 v x1 ∧ Vd K F1 z x2 := by cases v1 with | cons hv b => cases b with | cons hw b => cases b; exact ⟨_, _, rfl, hv, hw⟩
    refine ⟨by simp, fun a ha => ⟨a, v, z, rfl, upd_same, fun dx hd ne => ⟨rfl, dx, [(g, z), (f, v)], ?_, upd_same, ?_, ?_⟩⟩⟩
    · rw [upd_ne (Ne.symm ne)]; exact upd_same
    · rw [upd_ne ne] at hd; exact hd
    · rw [err_end2 ha ne]
      rw [upd_ne ne] at hd
      exact x.le _ _ _ _ F1 _ _ _ p r1.s0 (r0.at s1 (r1.xd hd)) (.some upd_same rfl (.cons hw (.cons hv .nil)))⟩
/-! ### a call in a try's body -/
def tMethW (C : Addr) (m : Str) (sp : Sp) (dvs : List V) (W : WX) (ta : TE) (t : TA) : TE := MX.tMethE C m sp dvs (WE W) ta t
def dMethW (K : PySem.W.Frag) (C : Addr) (m : Str) (spd : SpD) (dvs : List V) (WD : WXD) (da : TED) (dt : TAD) : TED := fun env S P => da env S fun x S1 => ∃ ds, Ins S1 x C ds ∧ ds.lookup m = none ∧ dt env S1 fun xs S2 => spd (x :: (xs ++ dvs.map toD)) S2 P fun C ods S3 => WD C ods env S3
theorem upSp.atW {sp : SpD} {vs : List V} {ds : List D} {F F1 : Hp} {S S1 : Sto} {σ : L2.St} {env : EnvD} {H H1 : Hp} {Q : VK} {W : WX} {WD : WXD} {P : PV} [x : WLe K F0 W WD] (r0 : Rel K F0 F S env σ H) (s1 : Same F F1) (r : RelH K F0 F1 S1 H1) (hv : VdAll K F1 vs ds) (h : sp ds S1 P fun C ods S3 => WD C ods env S3) (le : LeV K F0 F1 P Q) : upSp K sp vs H1 Q (WE W σ) :=
  ⟨F1, S1, ds, P, _, r.base, hv, h, le.sub r.s0, fun C ods S3 F' H' od p t r' hx => x.le C ods env S3 F' σ H' od p (r.s0.trans t) (r0.at (s1.trans t) (r'.from r.s0)) hx⟩
instance {C : Addr} {m : Str} {spd : SpD} {dvs : List V} {W : WX} {WD : WXD} {ta : TE} {da : TED} {t : TA} {dt : TAD} [UpE K F0 ta da] [UpA K F0 t dt] [WLe K F0 W WD] : UpE K F0 (tMethW C m (upSp K spd) dvs W ta t) (dMethW K C m spd dvs WD da dt) := ⟨fun r0 h le =>
  UpE.up (t := ta) (td := da) r0 h fun x S1 F1 H1 v ⟨ds, hi, hl, h1⟩ s1 r1 v1 => by
    obtain ⟨a, dx, fs, e, e1, kp⟩ := hi.at r1 v1
    refine ⟨a, dx, fs, e, e1, kp.lookupN hl, UpA.up (t := t) (td := dt) (r0.at s1 r1) h1 fun xs S2 F2 H2 vs h2 s2 r2 v2 => ?_⟩
    have hv := v1.mono s2
    rw [e] at hv
    exact upSp.atW (W := W) (WD := WD) (r0.at s1 r1) s2 r2 (.cons hv (v2.app (.to dvs))) h2 (le.mono (s1.trans s2))⟩
theorem pe_methW {X : Cx} {W : WX} {k : Nat} {f C : Addr} {fd : FuncData} {ps : List Str} {sp : Sp} {dvs : List V} {ds : List Value} {m : Str} {pos apos : Pos} {e o : Expr} {es : List Expr} {ta : TE} {t : TA} {pl : Sem Bool} (he : PE X o ta) (c : Cls X.K C) (hm : Meth X.K C m f) (F : FnOk X.prog X.w X.K X.mg X.base (L2.CX X.prog X.w) k f fd ps sp) (hr : Room k X.A) (hb : Binds X.K fd ps ds) (hd : Vals dvs ds) (tk : Takes X W) (ha : PA X (e :: es) t)
    (hst : starEach (e :: es) X.env = (false, eval e X.env) :: starEach es X.env := by rfl) (hpl : (backTo pos (starEach es X.env)).any (·.1) = false := by rfl)
    (ht : eval (.Call (.Attribute o m apos) (e :: es) [] pos) X.env = (do
      let ov ← eval o X.env
      standAt apos.atName
      let (f, first) ← holding [ov] (getMethod ov m pl)
      callWith pos f first (backTo pos (starEach (e :: es) X.env)) (backToKw pos (keywordEach [] X.env))) := by rfl) :
    PE X (.Call (.Attribute o m apos) (e :: es) [] pos) (tMethW C m sp dvs W ta t) := MX.pe_methE he c hm F hr hb hd (fun σ => passAt tk σ) ha hst hpl ht
/-! ### an error's field -/
def dXf (a C' : Addr) (ods : Option (List (Str × D))) (C : Addr) (f : Str) (de : TED) : TED := fun env S P => de env S fun x S1 => x = .ref a ∧ C' = C ∧ ∃ ds v, ods = some ds ∧ ds.lookup f = some v ∧ P v S1
instance {a C' C : Addr} {ods : Option (List (Str × D))} {b : XB K F0 ods} {f : Str} {te : TE} {de : TED} [UpE K F0 te de] : UpE K F0 (tXf a (.ref C') b.od C f te) (dXf a C' ods C f de) := ⟨fun r0 h le =>
  UpE.up (t := te) (td := de) r0 h fun x S1 F1 H1 v ⟨e, ec, ds, v', eo, l, p⟩ s1 r1 v1 => by
    subst e; subst ec; cases v1
    have hx := b.at_
    generalize b.od = od at hx ⊢
    rw [eo] at hx
    cases hx with
    | some h1 h2 h3 =>
      obtain ⟨w, hw, hv⟩ := (KP.of h2 h3).lookup l
      exact ⟨rfl, rfl, _, _, w, rfl, r1.fr _ _ (r1.s0 _ _ h1), hw, le _ _ _ _ _ p s1 r1 (hv.mono r1.s0)⟩⟩
/-! ### try -/
/-- a clause: its class, the slot of its name, its suite -/
structure ClD (K : PySem.W.Frag) where
  c : Addr
  oi : Option Nat
  ts : (F0 : Hp) → (a C : Addr) → (ods : Option (List (Str × D))) → XB K F0 ods → TSD
def endsD : Option Nat → EndsD → EndsD
  | none, P => P
  | some i, P => { nx := fun env S => P.nx (env.set i none) S, rt := P.rt, bk := fun env S => P.bk (env.set i none) S, ct := fun env S => P.ct (env.set i none) S }
def envD : Option Nat → EnvD → Addr → EnvD
  | none, env, _ => env
  | some i, env, a => env.set i (some (.ref a))
/-- how a suite goes -/
structure SuiteD (K : PySem.W.Frag) (q : ClD K) (C : Addr) (ods : Option (List (Str × D))) (P : EndsD) (env : EnvD) (S : Sto) : Prop where
  ex : ∀ (a : Addr) (F0 : Hp) (x : XB K F0 ods), q.ts F0 a C ods x (endsD q.oi P) (envD q.oi env a) S
def mixD (K : PySem.W.Frag) (Wout : WXD) (P : EndsD) : List (ClD K) → WXD
  | [] => Wout
  | q :: r => fun C ods env S => ∃ b, PySem.W.exmOne K (.ref C) (.ref q.c) = some b ∧ if b = true then SuiteD K q C ods P env S else mixD K Wout P r C ods env S
class UpHs (K : PySem.W.Frag) (l : List MX.Cl) (ld : outParam (List (ClD K))) : Prop where
  up : ∀ {F0 F1 F : Hp} {P : EndsD} {Q : Ends} {Wout : WX} {WoutD : WXD} {C : Addr} {ods : Option (List (Str × D))} {od : Option Addr} {env : EnvD} {S : Sto} {σ : L2.St} {H : Hp},
    LeE K F0 F1 P Q → Same F1 F → Rel K F0 F S env σ H → XdAt K F H od ods → (WoutD C ods env S → Wout (.ref C) od σ H) → mixD K WoutD P ld C ods env S → MX.wMix K Wout Q l (.ref C) od σ H
instance : UpHs K [] [] := ⟨fun _ _ _ _ hw h => hw h⟩
theorem RelH.know {F : Hp} {S : Sto} {H : Hp} {d : Addr} {fs : List (Str × V)} (r : RelH K F0 F S H) (h : H d = some (.xd fs)) : Same F (upd F d (.xd fs)) ∧ RelH K F0 (upd F d (.xd fs)) S H := by
  have s : Same F (upd F d (.xd fs)) := fun b u e => by
    by_cases c : b = d
    · subst c
      have := r.fr _ _ e
      rw [h] at this
      rw [upd_same]; exact this
    · rw [upd_ne c]; exact e
  refine ⟨s, r.s0.trans s, fun b u e => ?_, fun b u e => ?_⟩
  · by_cases c : b = d
    · subst c; rw [upd_same] at e; rw [h]; exact e
    · rw [upd_ne c] at e; exact r.fr _ _ e
  · obtain ⟨h1, u2, h2, h3⟩ := r.tr b u e
    have c : b ≠ d := fun z => by
      subst z
      rw [h] at h2; cases h2; cases h3
    exact ⟨by rw [upd_ne c]; exact h1, u2, h2, h3.mono s⟩
theorem Rel.xb {F : Hp} {S : Sto} {env : EnvD} {σ : L2.St} {H : Hp} {od : Option Addr} {ods : Option (List (Str × D))} (r : Rel K F0 F S env σ H) (h : XdAt K F H od ods) : ∃ F', Same F F' ∧ Rel K F0 F' S env σ H ∧ XdAt K F' F' od ods := by
  cases h with
  | none => exact ⟨F, Same.refl _, r, .none⟩
  | some h1 h2 h3 =>
    obtain ⟨s, r'⟩ := r.h.know h1
    exact ⟨_, s, r.at s r', .some upd_same h2 (h3.mono s)⟩
theorem Rel.base {F : Hp} {S : Sto} {env : EnvD} {σ : L2.St} {H : Hp} (r : Rel K F0 F S env σ H) : Rel K F F S env σ H := ⟨r.h.base, r.s⟩
theorem LeN.sub {F : Hp} {P : EnvD → Sto → Prop} {Q : L2.St → Hp → Prop} (s : Same F0 F) (h : LeN K F0 F P Q) : LeN K F F P Q := fun env S F' σ H p t r => h env S F' σ H p t ⟨r.h.from s, r.s⟩
theorem LeE.sub {F : Hp} {P : EndsD} {Q : Ends} (s : Same F0 F) (h : LeE K F0 F P Q) : LeE K F F P Q := ⟨h.nx.sub s, h.rt.sub s, h.bk.sub s, h.ct.sub s⟩
theorem LeN.unset {F : Hp} {P : EnvD → Sto → Prop} {Q : L2.St → Hp → Prop} (i : Nat) (h : LeN K F0 F P Q) : LeN K F0 F (fun env S => P (env.set i none) S) (fun σ H => Q (σ.set i none) H) := fun env S F' σ H p s r => h _ S F' _ H p s ⟨r.h, r.s.unset i none⟩
theorem LeE.ends {F : Hp} {P : EndsD} {Q : Ends} (oi : Option Nat) (h : LeE K F0 F P Q) : LeE K F0 F (endsD oi P) (MX.wEnds oi Q) := by
  cases oi with
  | none => exact h
  | some i => exact ⟨h.nx.unset i, h.rt, h.bk.unset i, h.ct.unset i⟩
instance {c : Addr} {oi : Option Nat} {ts : Addr → Value → Option Addr → TS} {tsd : (F0 : Hp) → (a C : Addr) → (ods : Option (List (Str × D))) → XB K F0 ods → TSD} {l : List MX.Cl} {ld : List (ClD K)}
    [u : ∀ (F0 : Hp) (a C : Addr) (ods : Option (List (Str × D))) (b : XB K F0 ods), UpS K F0 (ts a (.ref C) b.od) (tsd F0 a C ods b)] [UpHs K l ld] : UpHs K ((.ref c, oi, ts) :: l) (⟨c, oi, tsd⟩ :: ld) := ⟨fun {F0 F1 F P Q Wout WoutD C ods od env S σ H} le s1 r hx hw ⟨b, hb, h⟩ => by
  refine ⟨b, hb, fun e a ha => ?_, fun e => ?_⟩
  · subst e
    obtain ⟨F2, s2, r2, x2⟩ := r.xb hx
    have h := (show SuiteD K ⟨c, oi, tsd⟩ C ods P env S from h).ex a F2 ⟨od, x2⟩
    have up := (u F2 a C ods ⟨od, x2⟩).up (σ := MX.wSt oi σ a) (H := H) (Q := MX.wEnds oi Q) (F := F2) (S := S) (env := envD oi env a) (P := endsD oi P)
    refine up ?_ h ?_
    · have r3 := r2.base
      cases oi with
      | none => exact r3
      | some i => exact ⟨r3.h, r3.s.set (.ref a) i⟩
    · exact ((le.mono (s1.trans s2)).sub r2.h.s0).ends oi
  · subst e
    exact UpHs.up (l := l) (ld := ld) le s1 r hx hw h⟩
def tTry (K : PySem.W.Frag) (Wout : WX) (l : List MX.Cl) (tb : WX → TS) : TS := fun D σ H => tb (MX.wMix K Wout D l) D σ H
def noW : WX := fun _ _ _ _ => False
def noWD : WXD := fun _ _ _ _ => False
structure dTry (K : PySem.W.Frag) (WoutD : WXD) (ld : List (ClD K)) (tbd : (F0 : Hp) → (WD : WXD) → WB K F0 WD → TSD) (P : EndsD) (env : EnvD) (S : Sto) : Prop where
  ex : ∀ (F0 : Hp) (b : WB K F0 (mixD K WoutD P ld)), tbd F0 _ b P env S
instance : WLe K F0 noW noWD := ⟨fun _ _ _ _ _ _ _ _ h => h.elim⟩
instance {Wout : WX} {WoutD : WXD} {l : List MX.Cl} {ld : List (ClD K)} {tb : WX → TS} {tbd : (F0 : Hp) → (WD : WXD) → WB K F0 WD → TSD} [x : WLe K F0 Wout WoutD] [UpHs K l ld] [u : ∀ (F0 : Hp) (WD : WXD) (b : WB K F0 WD), UpS K F0 (tb b.W) (tbd F0 WD b)] :
    UpS K F0 (tTry K Wout l tb) (dTry K WoutD ld tbd) := ⟨fun {σ H Q F S env P} r0 h le => by
  have lw := ((le.sub r0.h.s0))
  let b : WB K F (mixD K WoutD P ld) := ⟨MX.wMix K Wout Q l, fun C ods env S F' σ H od p s r hx => UpHs.up (l := l) (ld := ld) (F0 := F) (F1 := F) (F := F') (Wout := Wout) (WoutD := WoutD) lw s r hx (fun q => x.le C ods env S F' σ H od q (r0.h.s0.trans s) ⟨r.h.from r0.h.s0, r.s⟩ hx) p⟩
  exact (u F _ b).up r0.base (h.ex F b) lw⟩
theorem ps_tryV {X : Cx} {body : List Stmt} {h₀ : ExceptHandler} {hds : List ExceptHandler} {l : List MX.Cl} {pos : Pos} {tb : WX → TS} {Wout : WX} (hs : X.stack = X.env :: X.outer) (hf : X.env.frame = some X.env.locals) (tk : Takes X Wout)
    (hb : ∀ (W : WX) (pn : List (Addr × Obj)) (xe : Value → Shared → Prop), Takes (X.tr pn xe) W → PassesOwn (model X.prog X.w) X.A X.env xe → PSs (X.tr pn xe) body (tb W))
    (hh : MX.HdsM X (h₀ :: hds) l) : PS X (.Try body (h₀ :: hds) [] [] pos) (tTry X.K Wout l tb) := MX.ps_try_mix hs hf tk hb hh
theorem takesN {X : Cx} : Takes X noW := takes0
end
end L2.VW

/-! ## dicts compared; promises by their number of values; len of an own object -/
namespace L2.VW
open PySem PySem.Spec PyProof.Rows
/-- every value of ks by a key of ls is as e tells -/
def HitK (K : PySem.W.Frag) (H : Hp) (ks ls : List (Key × V)) (e : Key → Bool) : Prop := ∀ p ∈ ks, ∀ z, valV ls p.1 = some z → ∃ d d', Dp K H p.2 d ∧ Dp K H z d' ∧ (d.plain = true ∧ d.depth ≤ 60) ∧ (d'.plain = true ∧ d'.depth ≤ 60) ∧ e p.1 = PyData.eqv d d'
def rEqKK (K : PySem.W.Frag) (neg : Bool) : R2 := fun x y H Q => ∃ (a b : Addr) (ks ls : List (Key × V)) (e : Key → Bool), x = .ref a ∧ y = .ref b ∧ Rd H a (.dK ks) ∧ Rd H b (.dK ls) ∧ HitK K H ks ls e ∧
  Q (.bl (if neg then !(ks.length == ls.length && ks.all fun p => (valV ls p.1).isSome && e p.1) else (ks.length == ls.length && ks.all fun p => (valV ls p.1).isSome && e p.1))) H
section
variable {X : Cx}
theorem hitsKK {pins : List (Addr × Obj)} {σ : L2.St} {H : Hp} {s : Shared} (I : Inv X pins σ H s) {A : Around} (hu : A.units + 64 < cLine) {kvs : List (Key × V)} {vb : List (Key × Value)} (rb : KV kvs vb) {e : Key → Bool} :
    ∀ {ks : List (Key × V)} {va : List (Key × Value)}, KV ks va → HitK X.K H ks kvs e → PySem.W.KeqHits A s vb va (ks.all fun p => (valV kvs p.1).isSome && e p.1) := by
  intro ks va ra
  unfold KV at ra
  induction ra with
  | nil => intro _; exact .nil
  | @cons p q ps qs h t ih =>
    intro hp
    have ih' := ih fun p' hm => hp p' (List.mem_cons_of_mem _ hm)
    obtain ⟨h1, h2⟩ := h
    have rr : RelO (valV kvs p.1) (valueAt vb p.1) := rb.val p.1
    obtain ⟨k, v⟩ := q
    have h1' : p.1 = k := h1
    rw [List.all_cons]
    cases c : valV kvs p.1 with
    | none =>
      rw [c] at rr
      have : valueAt vb k = none := by rw [← h1']; exact rr.none_of
      exact .miss this
    | some z =>
      rw [c] at rr
      obtain ⟨y, hy, ry⟩ := rr.some_of
      rw [h1'] at hy
      obtain ⟨d, d', hd, hd', s1, s2, e1⟩ := hp p List.mem_cons_self z c
      obtain ⟨as, r1⟩ := Dp.reads I d _ v hd h2
      obtain ⟨bs, r2⟩ := Dp.reads I d' _ y hd' ry
      have ea := SeqAt.eqAt_plain d d' A s _ _ _ _ r1 r2 s1.1 s2.1 (by have := Nat.min_le_left d.depth d'.depth; have := s1.2; omega)
      rw [← e1] at ea
      exact .hit hy ea ih'
theorem op_eqKK (hu : X.A.units + 65 < cLine) : OpR X (compareOp .Eq) (rEqKK X.K false) := by
  intro pins s σ H x y v u Q I rx ry h
  obtain ⟨a, b, ks, ls, e, rfl, rfl, ea, eb, hp, q⟩ := h
  obtain rfl : v = Value.ref a := rx
  obtain rfl : u = Value.ref b := ry
  obtain ⟨_, ya, va, ra, da⟩ := dk_rd I.hok ea
  obtain ⟨_, yb, vb, rb, db⟩ := dk_rd I.hok eb
  refine PySem.W.keq_eq (knd := mixKind X.prog X.w) (r := ks.all fun p => (valV ls p.1).isSome && e p.1) ya yb da db (by omega) (fun _ => hitsKK I (A := X.A.in1) (by show X.A.units + 1 + 64 < cLine; omega) rb ra hp) ?_
  rw [← ra.length, ← rb.length]
  exact ⟨.bl _, H, I, rfl, q⟩
theorem op_neKK (hu : X.A.units + 65 < cLine) : OpR X (compareOp .NotEq) (rEqKK X.K true) := by
  intro pins s σ H x y v u Q I rx ry h
  obtain ⟨a, b, ks, ls, e, rfl, rfl, ea, eb, hp, q⟩ := h
  obtain rfl : v = Value.ref a := rx
  obtain rfl : u = Value.ref b := ry
  obtain ⟨_, ya, va, ra, da⟩ := dk_rd I.hok ea
  obtain ⟨_, yb, vb, rb, db⟩ := dk_rd I.hok eb
  refine PySem.W.keq_ne (knd := mixKind X.prog X.w) (r := ks.all fun p => (valV ls p.1).isSome && e p.1) ya yb da db (by omega) (fun _ => hitsKK I (A := X.A.in1) (by show X.A.units + 1 + 64 < cLine; omega) rb ra hp) ?_
  rw [← ra.length, ← rb.length]
  exact ⟨.bl _, H, I, rfl, q⟩
end
section
variable {K : PySem.W.Frag} {F0 : Hp}
/-- two dicts beside one another -/
def eqDic (kds les : List (Key × D)) : Bool := kds.length == les.length && kds.all fun p => match getD' les p.1 with
  | some z => eqP (py p.2) (py z)
  | none => false
def okDic (kds : List (Key × D)) : Prop := ∀ p ∈ kds, okP (py p.2) = true
theorem getD_mem {kds : List (Key × D)} {k : Key} {d : D} (h : getD' kds k = some d) : (k, d) ∈ kds := by
  unfold getD' at h
  cases e : kds.find? (fun kv => decide (kv.1 = k)) with
  | none => rw [e] at h; cases h
  | some q =>
    rw [e] at h; cases h
    have h1 := List.mem_of_find?_eq_some e
    have h2 : q.1 = k := by simpa using List.find?_some e
    rw [← h2]; exact h1
theorem KP.pair {κ : Type} {F : Hp} : ∀ {kvs : List (κ × V)} {kds : List (κ × D)}, KP K F kvs kds → ∀ p ∈ kvs, ∃ q ∈ kds, p.1 = q.1 ∧ Vd K F p.2 q.2
  | _, _, .nil, p, h => absurd h List.not_mem_nil
  | _, _, .cons a t, p, h => by
    rcases List.mem_cons.mp h with rfl | h
    · exact ⟨_, List.mem_cons_self, a.1, a.2⟩
    · obtain ⟨q, hq, e⟩ := KP.pair t p h
      exact ⟨q, List.mem_cons_of_mem _ hq, e⟩
theorem KP.all {κ : Type} {F : Hp} {f : κ × V → Bool} {g : κ × D → Bool} : ∀ {kvs : List (κ × V)} {kds : List (κ × D)}, KP K F kvs kds → (∀ p q, p ∈ kvs → q ∈ kds → p.1 = q.1 → Vd K F p.2 q.2 → f p = g q) → kvs.all f = kds.all g
  | _, _, .nil, _ => rfl
  | _, _, .cons a t, h => by
    rw [List.all_cons, List.all_cons, h _ _ List.mem_cons_self List.mem_cons_self a.1 a.2, KP.all t fun p q hp hq => h p q (List.mem_cons_of_mem _ hp) (List.mem_cons_of_mem _ hq)]
def dEqK (neg : Bool) : R2D := fun x y S P => ∃ kds les, DicK S x kds ∧ DicK S y les ∧ (kds.map (·.1)).Nodup ∧ okDic kds ∧ okDic les ∧ P (.bl (if neg then !eqDic kds les else eqDic kds les)) S
theorem dp_up {F H : Hp} {v : V} {x : D} {p : PyData} (s : Same F H) (h : py x = some p) (hv : Vd K F v x) : Dp K H v p := pyS.at.dp_monoS s (dp_of h hv)
instance (neg : Bool) : UpR K F0 (rEqKK K neg) (dEqK neg) := ⟨fun {v u x y H Q F S P} r hv hu ⟨kds, les, hx, hy, nd, ox, oy, p⟩ le => by
  obtain ⟨a, kvs, rfl, ra, ka⟩ := hx.at r hv
  obtain ⟨b, lvs, rfl, rb, kb⟩ := hy.at r hu
  let e : Key → Bool := fun k => match getD' kds k, getD' les k with
    | some d, some z => eqP (py d) (py z)
    | _, _ => false
  have at1 : ∀ q ∈ kds, getD' kds q.1 = some q.2 := fun q hq => by
    unfold getD'
    have : kds.find? (fun kv => decide (kv.1 = q.1)) = some q := by
      clear ra ka rb kb hx ox p e
      induction kds with
      | nil => cases hq
      | cons w t ih =>
        rw [List.map_cons, List.nodup_cons] at nd
        rw [List.find?_cons]
        rcases List.mem_cons.mp hq with rfl | hq
        · simp
        · have : w.1 ≠ q.1 := fun e => nd.1 (by rw [e]; exact List.mem_map_of_mem hq)
          simp [this]
          exact ih nd.2 hq
    rw [this]; rfl
  refine ⟨a, b, kvs, lvs, e, rfl, rfl, ra, rb, fun p1 hp1 z hz => ?_, ?_⟩
  · obtain ⟨q, hq, e1, vq⟩ := ka.pair p1 hp1
    rcases kb.getO (k := p1.1) with ⟨_, c⟩ | ⟨w, d, c1, c2, vd⟩
    · rw [c] at hz; cases hz
    · rw [c2] at hz; cases hz
      have o1 := ox q hq
      have o2 := oy _ (getD_mem c1)
      cases g1 : py q.2 with
      | none => rw [g1] at o1; cases o1
      | some d1 =>
        cases g2 : py d with
        | none => rw [g2] at o2; cases o2
        | some d2 =>
          rw [g1] at o1
          have o2' : okP (py d) = true := o2
          rw [g2] at o2'
          refine ⟨d1, d2, dp_up r.fr g1 vq, dp_up r.fr g2 vd, okP_some o1, okP_some o2', ?_⟩
          show (match getD' kds p1.1, getD' les p1.1 with
            | some d, some z => eqP (py d) (py z)
            | _, _ => false) = _
          rw [c1, e1, at1 q hq]
          show eqP (py q.2) (py d) = _
          rw [g1, g2]; rfl
  · have e2 : (kvs.length == lvs.length && kvs.all fun p => (valV lvs p.1).isSome && e p.1) = eqDic kds les := by
      unfold eqDic
      rw [ka.len, kb.len]
      congr 1
      refine ka.all fun p1 q hp hq e1 _ => ?_
      rcases kb.getO (k := p1.1) with ⟨c1, c2⟩ | ⟨w, d, c1, c2, _⟩
      · rw [c2, ← e1, c1]; rfl
      · rw [c2, ← e1, c1]
        show (true && (match getD' kds p1.1, getD' les p1.1 with
            | some d, some z => eqP (py d) (py z)
            | _, _ => false)) = eqP (py q.2) (py d)
        rw [c1, e1, at1 q hq]; rfl
    rw [e2]
    exact le _ _ _ _ _ p (Same.refl _) r (.bl _)⟩
theorem eqP_self {d : D} (h : okP (py d) = true) : eqP (py d) (py d) = true := by
  cases e : py d with
  | none => rw [e] at h; cases h
  | some p => rw [e] at h; exact SeqAt.eqv_refl_plain p (okP_some h).1
/-- the same entries, whatever their order -/
structure ToldD (kds les : List (Key × D)) : Prop where
  len : kds.length = les.length
  get : ∀ k d, (k, d) ∈ kds → getD' les k = some d
theorem eqDic_told {kds les : List (Key × D)} (h : ToldD kds les) (ok : okDic kds) : eqDic kds les = true := by
  unfold eqDic
  rw [h.len, beq_self_eq_true, Bool.true_and, List.all_eq_true]
  rintro ⟨k, d⟩ hm
  rw [h.get k d hm]
  exact eqP_self (ok _ hm)
/-! ### promises by their values -/
def sp0 (f : Sto → PV → XD → Prop) : SpD := fun ds S P PE => ds = [] ∧ f S P PE
def sp1 (f : D → Sto → PV → XD → Prop) : SpD := fun ds S P PE => ∃ x, ds = [x] ∧ f x S P PE
def sp2 (f : D → D → Sto → PV → XD → Prop) : SpD := fun ds S P PE => ∃ x y, ds = [x, y] ∧ f x y S P PE
def sp3 (f : D → D → D → Sto → PV → XD → Prop) : SpD := fun ds S P PE => ∃ x y z, ds = [x, y, z] ∧ f x y z S P PE
def sp4 (f : D → D → D → D → Sto → PV → XD → Prop) : SpD := fun ds S P PE => ∃ x y z u, ds = [x, y, z, u] ∧ f x y z u S P PE
def sp5 (f : D → D → D → D → D → Sto → PV → XD → Prop) : SpD := fun ds S P PE => ∃ x y z u v, ds = [x, y, z, u, v] ∧ f x y z u v S P PE
def sp6 (f : D → D → D → D → D → D → Sto → PV → XD → Prop) : SpD := fun ds S P PE => ∃ x y z u v w, ds = [x, y, z, u, v, w] ∧ f x y z u v w S P PE
theorem sp0_len {f : Sto → PV → XD → Prop} : ∀ ds S P PE, sp0 f ds S P PE → ds.length = 0 := fun _ _ _ _ ⟨e, _⟩ => by rw [e]; rfl
theorem sp1_len {f : D → Sto → PV → XD → Prop} : ∀ ds S P PE, sp1 f ds S P PE → ds.length = 1 := fun _ _ _ _ ⟨_, e, _⟩ => by rw [e]; rfl
theorem sp2_len {f : D → D → Sto → PV → XD → Prop} : ∀ ds S P PE, sp2 f ds S P PE → ds.length = 2 := fun _ _ _ _ ⟨_, _, e, _⟩ => by rw [e]; rfl
theorem sp3_len {f : D → D → D → Sto → PV → XD → Prop} : ∀ ds S P PE, sp3 f ds S P PE → ds.length = 3 := fun _ _ _ _ ⟨_, _, _, e, _⟩ => by rw [e]; rfl
theorem sp4_len {f : D → D → D → D → Sto → PV → XD → Prop} : ∀ ds S P PE, sp4 f ds S P PE → ds.length = 4 := fun _ _ _ _ ⟨_, _, _, _, e, _⟩ => by rw [e]; rfl
theorem sp5_len {f : D → D → D → D → D → Sto → PV → XD → Prop} : ∀ ds S P PE, sp5 f ds S P PE → ds.length = 5 := fun _ _ _ _ ⟨_, _, _, _, _, e, _⟩ => by rw [e]; rfl
theorem sp6_len {f : D → D → D → D → D → D → Sto → PV → XD → Prop} : ∀ ds S P PE, sp6 f ds S P PE → ds.length = 6 := fun _ _ _ _ ⟨_, _, _, _, _, _, e, _⟩ => by rw [e]; rfl
/-! ### len of an own object -/
def dLenO (C : Addr) (spd : SpD) : List D → Sto → PV → Prop := fun xs S P => ∃ x ds, xs = [x] ∧ Ins S x C ds ∧ spd [x] S (fun v S2 => ∃ n : Int, v = .int n ∧ (0 ≤ n ∧ n < 2 ^ 63) ∧ P (.int n) S2) noX
instance {C : Addr} {spd : SpD} : UpC K F0 (MX.rLenO C (upSp K spd)) (dLenO C spd) := ⟨fun {vs xs H Q F S P} r hv ⟨x, ds, e, hi, h⟩ le => by
  subst e
  cases hv with
  | cons hv b =>
    cases b
    obtain ⟨a, dx, fs, rfl, e1, kp⟩ := hi.at r hv
    refine ⟨a, dx, fs, rfl, e1, upSp.at (F0 := F0) (PE := noX) r (.cons hv .nil) h fun y S2 F2 H2 v2 ⟨n, en, hn, p⟩ s2 r2 vv => ?_⟩
    subst en; cases vv
    exact ⟨n, rfl, hn, le _ _ _ _ _ p s2 r2 (.int n)⟩⟩
end
end L2.VW
namespace L2
theorem Room.units65 {k : Nat} {A : PySem.Around} (r : Room k A) : A.units + 65 < PySem.cLine := by have := r.un; omega
end L2
/-! ## dicts whose keys are numbers -/
namespace L2.VW
open PySem PySem.Spec PyProof.Rows
def iK (m : List (Int × D)) : List (Key × D) := m.map fun p => (Sum.inl p.1, p.2)
def getI (m : List (Int × D)) (i : Int) : Option D := (m.find? fun p => decide (p.1 = i)).map (·.2)
def putI (m : List (Int × D)) (i : Int) (d : D) : List (Int × D) := if (m.any fun p => decide (p.1 = i)) = true then m.map (fun p => if p.1 = i then (p.1, d) else p) else m ++ [(i, d)]
def dropI (m : List (Int × D)) (i : Int) : List (Int × D) := m.filter fun p => decide (p.1 ≠ i)
theorem inl_dec (i j : Int) : decide ((Sum.inl i : Key) = Sum.inl j) = decide (i = j) := by
  by_cases c : i = j
  · subst c; simp
  · have : ¬ (Sum.inl i : Key) = Sum.inl j := fun e => c (Sum.inl.inj e)
    rw [decide_eq_false c, decide_eq_false this]
theorem iK_len (m : List (Int × D)) : (iK m).length = m.length := List.length_map ..
theorem iK_get (m : List (Int × D)) (i : Int) : getD' (iK m) (.inl i) = getI m i := by
  unfold getD' getI iK
  rw [List.find?_map]
  have : ((fun kv : Key × D => decide (kv.1 = Sum.inl i)) ∘ fun p : Int × D => (Sum.inl p.1, p.2)) = fun p => decide (p.1 = i) := by
    funext p; exact inl_dec _ _
  rw [this, Option.map_map]; rfl
theorem iK_getS (m : List (Int × D)) (z : Str) : getD' (iK m) (.inr z) = none := by
  unfold getD' iK
  rw [List.find?_map]
  have : ((fun kv : Key × D => decide (kv.1 = Sum.inr z)) ∘ fun p : Int × D => (Sum.inl p.1, p.2)) = fun _ => false := by
    funext p; simp
  rw [this]
  have h : ∀ l : List (Int × D), l.find? (fun _ => false) = none := fun l => by induction l <;> simp_all
  rw [h]; rfl
theorem iK_put (m : List (Int × D)) (i : Int) (d : D) : putD (iK m) (.inl i) d = iK (putI m i d) := by
  unfold putD putI iK
  have e1 : ((m.map fun p : Int × D => ((Sum.inl p.1 : Key), p.2)).any fun kv => decide (kv.1 = Sum.inl i)) = m.any fun p => decide (p.1 = i) := by
    rw [List.any_map]
    congr 1
    funext p; exact inl_dec _ _
  rw [e1]
  split
  · rw [List.map_map, List.map_map]
    apply List.map_congr_left
    intro p _
    show (if (Sum.inl p.1 : Key) = Sum.inl i then _ else _) = _
    by_cases c : p.1 = i
    · simp [c]
    · have : ¬ (Sum.inl p.1 : Key) = Sum.inl i := fun e => c (Sum.inl.inj e)
      simp [c]
  · rw [List.map_append]; rfl
theorem iK_drop (m : List (Int × D)) (i : Int) : dropD (iK m) (.inl i) = iK (dropI m i) := by
  unfold dropD dropI iK
  rw [List.filter_map]
  congr 1
  apply List.filter_congr
  intro p _
  show decide ((Sum.inl p.1 : Key) ≠ Sum.inl i) = decide (p.1 ≠ i)
  by_cases c : p.1 = i
  · simp [c]
  · simp [c]
theorem iK_keys (m : List (Int × D)) : (iK m).map (·.1) = m.map fun p => (Sum.inl p.1 : Key) := by
  unfold iK; rw [List.map_map]; rfl
theorem iK_nodup {m : List (Int × D)} (h : (m.map (·.1)).Nodup) : ((iK m).map (·.1)).Nodup := by
  rw [iK_keys]
  unfold List.Nodup at h ⊢
  rw [List.pairwise_map] at h ⊢
  exact h.imp fun n e => n (Sum.inl.inj e)
theorem getI_nil (i : Int) : getI [] i = none := rfl
theorem getI_cons (p : Int × D) (m : List (Int × D)) (i : Int) : getI (p :: m) i = if p.1 = i then some p.2 else getI m i := by
  unfold getI
  rw [List.find?_cons]
  by_cases c : p.1 = i
  · simp [c]
  · simp [c]
theorem getI_app (m l : List (Int × D)) (i : Int) : getI (m ++ l) i = (getI m i).or (getI l i) := by
  induction m with
  | nil => rfl
  | cons p m ih =>
    rw [List.cons_append, getI_cons, getI_cons, ih]
    split <;> rfl
theorem getI_mem {m : List (Int × D)} {i : Int} {d : D} (h : getI m i = some d) : (i, d) ∈ m := by
  induction m with
  | nil => cases h
  | cons p m ih =>
    rw [getI_cons] at h
    by_cases c : p.1 = i
    · rw [if_pos c] at h; cases h; rw [← c]; exact List.mem_cons_self
    · rw [if_neg c] at h; exact List.mem_cons_of_mem _ (ih h)
theorem getI_of_mem {m : List (Int × D)} {i : Int} {d : D} (nd : (m.map (·.1)).Nodup) (h : (i, d) ∈ m) : getI m i = some d := by
  induction m with
  | nil => cases h
  | cons p m ih =>
    rw [List.map_cons, List.nodup_cons] at nd
    rw [getI_cons]
    rcases List.mem_cons.mp h with rfl | h
    · rw [if_pos rfl]
    · have : p.1 ≠ i := fun e => nd.1 (by rw [e]; exact List.mem_map_of_mem (f := Prod.fst) h)
      rw [if_neg this]; exact ih nd.2 h
theorem getI_none {m : List (Int × D)} {i : Int} : getI m i = none ↔ i ∉ m.map (·.1) := by
  induction m with
  | nil => simp [getI_nil]
  | cons p m ih =>
    rw [getI_cons, List.map_cons, List.mem_cons]
    by_cases c : p.1 = i
    · rw [if_pos c]; simp [c]
    · rw [if_neg c, ih]
      have : ¬ i = p.1 := fun e => c e.symm
      simp [this]
theorem getI_any (m : List (Int × D)) (i : Int) : (m.any fun p => decide (p.1 = i)) = (getI m i).isSome := by
  induction m with
  | nil => rfl
  | cons p m ih =>
    rw [List.any_cons, getI_cons, ih]
    by_cases c : p.1 = i
    · simp [c]
    · simp [c]
theorem getI_put (m : List (Int × D)) (i j : Int) (d : D) : getI (putI m i d) j = if i = j then some d else getI m j := by
  unfold putI
  rw [getI_any]
  cases e : (getI m i).isSome with
  | true =>
    rw [if_pos rfl]
    induction m with
    | nil => simp [getI_nil] at e
    | cons p m ih =>
      rw [List.map_cons, getI_cons]
      rw [getI_cons] at e ⊢
      by_cases c : p.1 = i
      · rw [if_pos c]
        by_cases c2 : i = j
        · simp [c, c2]
        · have c3 : ¬ p.1 = j := fun z => c2 (c.symm.trans z)
          simp only [c3, if_false, c2]
          have : getI (m.map fun p => if p.1 = i then (p.1, d) else p) j = getI m j := by
            clear ih e
            induction m with
            | nil => rfl
            | cons q m ih =>
              rw [List.map_cons, getI_cons, getI_cons, ih]
              by_cases g : q.1 = i
              · have g3 : ¬ q.1 = j := fun z => c2 (g.symm.trans z)
                simp [g, c2]
              · simp [g]
          rw [this]
      · rw [if_neg c] at e ⊢
        rw [ih e]
        by_cases c2 : i = j
        · have c3 : ¬ p.1 = j := fun z => c (z.trans c2.symm)
          simp [c2, c3]
        · simp [c2]
  | false =>
    rw [if_neg (by simp), getI_app, getI_cons, getI_nil]
    by_cases c2 : i = j
    · subst c2
      have : getI m i = none := by cases g : getI m i with | none => rfl | some _ => rw [g] at e; cases e
      rw [this]; simp
    · simp only [c2, if_false]
      cases getI m j <;> rfl
theorem getI_drop (m : List (Int × D)) (i j : Int) : getI (dropI m i) j = if i = j then none else getI m j := by
  unfold dropI
  induction m with
  | nil => simp [getI_nil]
  | cons p m ih =>
    rw [List.filter_cons]
    by_cases c : p.1 = i
    · rw [if_neg (by simp [c]), ih, getI_cons]
      by_cases c2 : i = j
      · simp [c2]
      · have c3 : ¬ p.1 = j := fun z => c2 (c.symm.trans z)
        simp [c2, c3]
    · rw [if_pos (by simp [c]), getI_cons, getI_cons, ih]
      by_cases c2 : i = j
      · have c3 : ¬ p.1 = j := fun z => c (z.trans c2.symm)
        simp [c2, c3]
      · simp [c2]
theorem putI_len {m : List (Int × D)} {i : Int} {d : D} (h : getI m i = none) : (putI m i d).length = m.length + 1 := by
  unfold putI
  rw [getI_any, h, if_neg (by simp), List.length_append]; rfl
theorem putI_new {m : List (Int × D)} {i : Int} {d : D} (h : getI m i = none) : putI m i d = m ++ [(i, d)] := by
  unfold putI
  rw [getI_any, h, if_neg (by simp)]
theorem putI_nodup {m : List (Int × D)} {i : Int} {d : D} (h : (m.map (·.1)).Nodup) : ((putI m i d).map (·.1)).Nodup := by
  cases e : getI m i with
  | none =>
    rw [putI_new e, List.map_append, List.nodup_append]
    refine ⟨h, by simp, fun a ha b hb => ?_⟩
    rw [List.map_cons, List.map_nil, List.mem_singleton] at hb
    subst hb
    intro e2
    subst e2
    exact getI_none.mp e ha
  | some x =>
    unfold putI
    rw [getI_any, e, if_pos (show (some x).isSome = true from rfl), List.map_map]
    have : ((fun p : Int × D => p.1) ∘ fun p : Int × D => if p.1 = i then (p.1, d) else p) = fun p => p.1 := by
      funext p
      show (if p.1 = i then (p.1, d) else p).1 = p.1
      split <;> rfl
    rw [this]; exact h
theorem putI_over_len {m : List (Int × D)} {i : Int} {d : D} (h : (getI m i).isSome = true) : (putI m i d).length = m.length := by
  unfold putI
  rw [getI_any, h, if_pos rfl, List.length_map]
theorem dropI_nodup {m : List (Int × D)} {i : Int} (h : (m.map (·.1)).Nodup) : ((dropI m i).map (·.1)).Nodup := h.sublist ((List.filter_sublist).map _)
theorem dropI_len {m : List (Int × D)} {i : Int} (nd : (m.map (·.1)).Nodup) (h : (getI m i).isSome = true) : (dropI m i).length + 1 = m.length := by
  induction m with
  | nil => simp [getI_nil] at h
  | cons p m ih =>
    rw [List.map_cons, List.nodup_cons] at nd
    rw [getI_cons] at h
    unfold dropI
    rw [List.filter_cons]
    by_cases c : p.1 = i
    · rw [if_neg (by simp [c])]
      have : m.filter (fun p => decide (p.1 ≠ i)) = m := by
        apply List.filter_eq_self.mpr
        intro q hq
        have : q.1 ≠ i := fun e => nd.1 (by rw [c, ← e]; exact List.mem_map_of_mem (f := Prod.fst) hq)
        simp [this]
      rw [this]; rfl
    · rw [if_neg c] at h
      rw [if_pos (by simp [c]), List.length_cons]
      have := ih nd.2 h
      unfold dropI at this
      rw [this]; rfl
theorem dropI_le (m : List (Int × D)) (i : Int) : (dropI m i).length ≤ m.length := List.length_filter_le _ _
theorem getI_perm {m l : List (Int × D)} (nd : (m.map (·.1)).Nodup) (p : l.Perm m) (i : Int) : getI l i = getI m i := by
  have nl : (l.map (·.1)).Nodup := (p.map _).nodup_iff.mpr nd
  cases e : getI m i with
  | none => exact getI_none.mpr fun h => getI_none.mp e ((p.map (·.1)).mem_iff.mp h)
  | some d => exact getI_of_mem nl (p.mem_iff.mpr (getI_mem e))
/-- the least number that is no key -/
def LeastI (m : List (Int × D)) (n : Nat) : Prop := getI m (n : Int) = none ∧ ∀ j : Nat, j < n → (getI m (j : Int)).isSome = true
theorem holesI : ∀ (n : Nat) (l : List Int), (∀ j : Nat, j < n → (j : Int) ∈ l) → n ≤ l.length
  | 0, _, _ => Nat.zero_le _
  | n + 1, l, h => by
    have h1 := h n (Nat.lt_succ_self n)
    have h2 := holesI n (l.erase (n : Int)) (fun m hm => (List.mem_erase_of_ne (by omega)).mpr (h m (by omega)))
    rw [List.length_erase_of_mem h1] at h2
    have : 0 < l.length := List.length_pos_of_mem h1
    omega
theorem least_leI {m : List (Int × D)} {n : Nat} (h : ∀ j : Nat, j < n → (getI m (j : Int)).isSome = true) : n ≤ m.length := by
  have h1 := holesI n (m.map (·.1)) (fun j hj => by
    obtain ⟨v, e⟩ := Option.isSome_iff_exists.mp (h j hj)
    exact List.mem_map_of_mem (f := Prod.fst) (getI_mem e))
  rwa [List.length_map] at h1
theorem LeastI.uniq {m : List (Int × D)} {n k : Nat} (h : LeastI m n) (g : LeastI m k) : n = k := by
  rcases Nat.lt_trichotomy n k with c | c | c
  · have := g.2 n c; rw [h.1] at this; cases this
  · exact c
  · have := h.2 k c; rw [g.1] at this; cases this
theorem ToldD.of_perm {m l : List (Int × D)} (nd : (m.map (·.1)).Nodup) (p : l.Perm m) : ToldD (iK l) (iK m) := by
  refine ⟨by rw [iK_len, iK_len, p.length_eq], fun k d h => ?_⟩
  unfold iK at h
  obtain ⟨⟨i, d'⟩, hm, e⟩ := List.mem_map.mp h
  cases e
  rw [iK_get]
  exact getI_of_mem nd (p.mem_iff.mp hm)
end L2.VW

/-! ## sorted; dict comprehensions -/
namespace L2.VW
open PySem PySem.Spec PyProof.Rows
section
variable {K : PySem.W.Frag} {F0 : Hp}
/-- sorted(d), a dict of fewer than 64 numbers -/
def rSortDI : List V → Hp → VK → Prop := fun xs H Q => ∃ (a : Addr) (kvs : List (Key × V)) (ks : List Int), xs = [.ref a] ∧ Rd H a (.dK kvs) ∧ kvs.map (·.1) = ks.map Sum.inl ∧ ks.length < 64 ∧
  ∀ (ys : List Int) (p : Addr), ys.Perm ks → ys.Pairwise (· ≤ ·) → H p = none → Q (.ref p) (upd H p (.lst (ys.map V.int)))
theorem call_sortDI {X : Cx} (hcalm : X.calm = true) : CallR X (.builtin "sorted") rSortDI := call_sortedDI hcalm
theorem call_sortI {X : Cx} : CallR X (.builtin "sorted") (rSortedI X.K) := cr_sortedI
structure SortedI (ns ys : List Int) : Prop where
  pm : ys.Perm ns
  pw : ys.Pairwise (· ≤ ·)
def dSortDI : List D → Sto → PV → Prop := fun xs S P => ∃ x m, xs = [x] ∧ DicK S x (iK m) ∧ m.length < 64 ∧ ∀ ys, SortedI (m.map (·.1)) ys → P (.lst (ys.map D.int)) S
instance (priority := 2000) {ta : TA} {da : TAD} [UpA K F0 ta da] : UpE K F0 (tKp (tCB rSortDI ta)) (dCB dSortDI da) := ⟨fun {σ H Q F S env P} r0 h le => by
  show tCB rSortDI ta _ _ _
  refine UpA.up (t := ta) (td := da) r0 h fun xs S1 F1 H1 vs ⟨x, m, e, hd, hl, p⟩ s1 r1 v1 => ?_
  subst e
  cases v1 with
  | cons hv b =>
    cases b
    obtain ⟨a, kvs, rfl, rd, kp⟩ := hd.at r1 hv
    refine ⟨a, kvs, m.map (·.1), rfl, rd, ?_, by rw [List.length_map]; exact hl, fun ys q hp hs hq => ?_⟩
    · rw [kp.keys, iK_keys, List.map_map]; rfl
    · obtain ⟨s4, r4⟩ := r1.newF (ho := .lst (ys.map V.int)) hq
      exact le _ _ _ _ _ (p ys ⟨hp, hs⟩) (s1.trans s4) r4 (.lst upd_same (.ofInts ys))⟩
def dSortI : List D → Sto → PV → Prop := fun xs S P => ∃ x ns, xs = [x] ∧ SeqL S x (ns.map D.int) ∧ ∀ ys, SortedI ns ys → P (.lst (ys.map D.int)) S
instance (priority := 2000) {ta : TA} {da : TAD} [UpA K F0 ta da] : UpE K F0 (tKp (tCB (rSortedI K) ta)) (dCB dSortI da) := ⟨fun {σ H Q F S env P} r0 h le => by
  show tCB (rSortedI K) ta _ _ _
  refine UpA.up (t := ta) (td := da) r0 h fun xs S1 F1 H1 vs ⟨x, ns, e, hd, p⟩ s1 r1 v1 => ?_
  subst e
  cases v1 with
  | cons hv b =>
    cases b
    obtain ⟨a, xs, rfl, hq, hx⟩ := hd.at r1 hv
    rw [hx.ints] at hq
    refine ⟨a, ns, rfl, hq, fun ys q hp hs hq => ?_⟩
    obtain ⟨s4, r4⟩ := r1.newF (ho := .lst (ys.map V.int)) hq
    exact le _ _ _ _ _ (p ys ⟨hp, hs⟩) (s1.trans s4) r4 (.lst upd_same (.ofInts ys))⟩
/-! ### dict comprehensions -/
structure DcD (w : WD) (gd : TGD) (ttd : TTD) (kd vd : TED) (vs : List Nat) (env : EnvD) (P : PV) (S1 : Sto) : Prop where
  ex : ∀ L, S1 L = none → ∃ I : Nat → List (Key × D) → Sto → Prop, I 0 [] (sup S1 L (.dK [])) ∧
    (∀ i acc S, i ≤ w.n → I i acc S → S L = some (.dK acc) ∧ w.ok S) ∧
    (∀ i d acc S, i < w.n → w.item i d → I i acc S → gd d (wipeD env vs) S fun env2 S2 => ttd env2 S2 fun b S3 => if b = true then kd env2 S3 fun y S4 => vd env2 S4 fun z S5 => ∃ k, y = kD k ∧ S5 L = some (.dK acc) ∧ acc.length < sizeLine ∧ I (i + 1) (putD acc k z) (sup S5 L (.dK (putD acc k z))) else I (i + 1) acc S3) ∧
    ∀ acc S, I w.n acc S → P (.dK acc) (sdel S L)
def dDcD (wd : TID) (gd : TGD) (ttd : TTD) (kd vd : TED) (vs : List Nat) : TED := fun env S P => wd env S fun w S1 => DcD w gd ttd kd vd vs env P S1
instance (priority := 2000) {wi : TI} {wd : TID} {g : TG} {gd : TGD} {tt : TT} {ttd : TTD} {tk tv : TE} {kd vd : TED} {vs is : List Nat} [UpI K F0 wi wd] [UpG K F0 g gd] [UpT K F0 tt ttd] [UpE K F0 tk kd] [UpE K F0 tv vd] [GFr g is] [Sub is vs] : UpE K F0 (tSl2 (tDc wi g tt tk tv vs)) (dDcD wd gd ttd kd vd vs) := ⟨fun {σ H Q F S env P} r0 h le => by
  show tDc wi g tt tk tv vs _ _ _
  refine UpI.up (t := wi) (td := wd) r0 h fun w S1 F1 H1 J q s1 r1 lk => fun L hL => ?_
  obtain ⟨I, i0, hok, hs, hd⟩ := q.ex L (r1.free hL).2
  have rD := r1.new hL (.dK (kvs := []) (kds := []) rfl .nil)
  refine ⟨fun i m H => m = w.n - i ∧ i ≤ w.n ∧ ∃ F S acc, Same F1 F ∧ RelH K F0 F S H ∧ I i acc S, ⟨_, rfl, Nat.zero_le _, F1, _, [], Same.refl _, rD, i0⟩, ?_⟩
  rintro i m H ⟨rfl, hi, F, S, acc, s2, r2, p⟩
  obtain ⟨eD, ok⟩ := hok i acc S hi p
  by_cases c : i < w.n
  · refine .inr ⟨lk.goes i F S H c s2 r2 ok, fun H' => ∃ F S acc, Same F1 F ∧ RelH K F0 F S H' ∧ I (i + 1) acc S, fun H' q => ⟨w.n - (i + 1), by omega, rfl, c, q⟩, fun x H' hy => ?_⟩
    obtain ⟨F3, d, s3, r3, _, v3, hit⟩ := lk.yields i F S H x H' c s2 r2 ok hy
    have s03 := s1.trans (s2.trans s3)
    refine GFr.mono (g := g) (is := is) (fun σ' H' ⟨q, l1, f1⟩ => ⟨wipe_fr (is := is) (Sub.sub) l1 f1, q⟩) (GFr.fr (g := g) (is := is) (UpG.up (t := g) (td := gd) (F := F3) (env := wipeD env vs) ⟨r3, wipe_rel (r0.s.mono s03) vs⟩ v3 (hs i d acc S c hit p) fun env4 S4 F4 σ4 H4 h4 s4 r4 =>
      UpT.up (t := tt) (td := ttd) r4 h4 fun b S5 F5 H5 h5 s5 r5 => ?_))
    cases b with
    | false => exact ⟨F5, S5, acc, ((s2.trans s3).trans s4).trans s5, r5, h5⟩
    | true =>
      refine UpE.up (t := tk) (td := kd) (r4.at s5 r5) h5 fun y S6 F6 H6 u h6 s6 r6 v6 => ?_
      refine UpE.up (t := tv) (td := vd) (r4.at (s5.trans s6) r6) h6 fun z S7 F7 H7 u7 ⟨k, ek, e7, hl, p7⟩ s7 r7 v7 => ?_
      subst ek
      obtain ⟨kvs, e8, h8, h9⟩ := r7.dK e7
      have kp : KP K F7 kvs acc := .of h8 h9
      have kq := kp.put (k := k) v7
      exact ⟨kvs, k, vd_key v6, e8, by rw [kp.len]; exact hl, F7, _, _, ((((s2.trans s3).trans s4).trans s5).trans s6).trans s7, r7.put e7 (.dK kq.keys kq.vals), p7⟩
  · have e : i = w.n := by omega
    subst e
    obtain ⟨xs, e2, h2, h3⟩ := r2.dK eD
    refine .inl ⟨lk.stops F S H s2 r2 ok, L, _, rfl, e2, .inl ⟨_, rfl⟩, fun od => ?_⟩
    obtain ⟨s3, r3⟩ := r2.seal (ho := .dK xs) (ho' := .frz od (.dK xs)) eD
    exact le _ _ _ _ _ (hd acc S p) ((s1.trans s2).trans s3) r3 (.dK upd_same h2 (h3.mono s3))⟩
structure DcM (w : WD) (gd : TGD) (ttd : TTD) (kd vd : TED) (vs : List Nat) (env : EnvD) (P : PV) (S1 : Sto) : Prop where
  ex : ∀ L, S1 L = none → ∃ I : Nat → List (Key × D) → Sto → Prop, I 0 [] (sup S1 L (.dK [])) ∧
    (∀ i acc S, i ≤ w.n → I i acc S → S L = some (.dK acc) ∧ w.ok S) ∧
    (∀ i d acc S, i < w.n → w.item i d → I i acc S → gd d (wipeD env vs) S fun env2 S2 => ttd env2 S2 fun b S3 => if b = true then kd env2 S3 fun y S4 => vd env2 S4 fun z S5 => ∃ k, y = kD k ∧ S5 L = some (.dK acc) ∧ acc.length < sizeLine ∧ I (i + 1) (putD acc k z) (sup S5 L (.dK (putD acc k z))) else I (i + 1) acc S3) ∧
    ∀ acc S, I w.n acc S → P (.ref L) S
def dDcM (wd : TID) (gd : TGD) (ttd : TTD) (kd vd : TED) (vs : List Nat) : TED := fun env S P => wd env S fun w S1 => DcM w gd ttd kd vd vs env P S1
instance {wi : TI} {wd : TID} {g : TG} {gd : TGD} {tt : TT} {ttd : TTD} {tk tv : TE} {kd vd : TED} {vs is : List Nat} [UpI K F0 wi wd] [UpG K F0 g gd] [UpT K F0 tt ttd] [UpE K F0 tk kd] [UpE K F0 tv vd] [GFr g is] [Sub is vs] : UpE K F0 (tDc wi g tt tk tv vs) (dDcM wd gd ttd kd vd vs) := ⟨fun {σ H Q F S env P} r0 h le => by
  show tDc wi g tt tk tv vs _ _ _
  refine UpI.up (t := wi) (td := wd) r0 h fun w S1 F1 H1 J q s1 r1 lk => fun L hL => ?_
  obtain ⟨I, i0, hok, hs, hd⟩ := q.ex L (r1.free hL).2
  have rD := r1.new hL (.dK (kvs := []) (kds := []) rfl .nil)
  refine ⟨fun i m H => m = w.n - i ∧ i ≤ w.n ∧ ∃ F S acc, Same F1 F ∧ RelH K F0 F S H ∧ I i acc S, ⟨_, rfl, Nat.zero_le _, F1, _, [], Same.refl _, rD, i0⟩, ?_⟩
  rintro i m H ⟨rfl, hi, F, S, acc, s2, r2, p⟩
  obtain ⟨eD, ok⟩ := hok i acc S hi p
  by_cases c : i < w.n
  · refine .inr ⟨lk.goes i F S H c s2 r2 ok, fun H' => ∃ F S acc, Same F1 F ∧ RelH K F0 F S H' ∧ I (i + 1) acc S, fun H' q => ⟨w.n - (i + 1), by omega, rfl, c, q⟩, fun x H' hy => ?_⟩
    obtain ⟨F3, d, s3, r3, _, v3, hit⟩ := lk.yields i F S H x H' c s2 r2 ok hy
    have s03 := s1.trans (s2.trans s3)
    refine GFr.mono (g := g) (is := is) (fun σ' H' ⟨q, l1, f1⟩ => ⟨wipe_fr (is := is) (Sub.sub) l1 f1, q⟩) (GFr.fr (g := g) (is := is) (UpG.up (t := g) (td := gd) (F := F3) (env := wipeD env vs) ⟨r3, wipe_rel (r0.s.mono s03) vs⟩ v3 (hs i d acc S c hit p) fun env4 S4 F4 σ4 H4 h4 s4 r4 =>
      UpT.up (t := tt) (td := ttd) r4 h4 fun b S5 F5 H5 h5 s5 r5 => ?_))
    cases b with
    | false => exact ⟨F5, S5, acc, ((s2.trans s3).trans s4).trans s5, r5, h5⟩
    | true =>
      refine UpE.up (t := tk) (td := kd) (r4.at s5 r5) h5 fun y S6 F6 H6 u h6 s6 r6 v6 => ?_
      refine UpE.up (t := tv) (td := vd) (r4.at (s5.trans s6) r6) h6 fun z S7 F7 H7 u7 ⟨k, ek, e7, hl, p7⟩ s7 r7 v7 => ?_
      subst ek
      obtain ⟨kvs, e8, h8, h9⟩ := r7.dK e7
      have kp : KP K F7 kvs acc := .of h8 h9
      have kq := kp.put (k := k) v7
      exact ⟨kvs, k, vd_key v6, e8, by rw [kp.len]; exact hl, F7, _, _, ((((s2.trans s3).trans s4).trans s5).trans s6).trans s7, r7.put e7 (.dK kq.keys kq.vals), p7⟩
  · have e : i = w.n := by omega
    subst e
    exact .inl ⟨lk.stops F S H s2 r2 ok, le _ _ _ _ _ (hd acc S p) (s1.trans s2) r2 (.ref L)⟩⟩
def foldK (l : List (Key × D)) : List (Key × D) := l.foldl (fun acc p => putD acc p.1 p.2) []
theorem foldK_snoc (l : List (Key × D)) (p : Key × D) : foldK (l ++ [p]) = putD (foldK l) p.1 p.2 := by unfold foldK; rw [List.foldl_append]; rfl
theorem putD_le (acc : List (Key × D)) (k : Key) (d : D) : (putD acc k d).length ≤ acc.length + 1 := by
  unfold putD
  split
  · rw [List.length_map]; exact Nat.le_succ _
  · rw [List.length_append]; exact Nat.le_refl _
theorem foldK_le : ∀ l : List (Key × D), (foldK l).length ≤ l.length := by
  intro l
  unfold foldK
  have : ∀ (l : List (Key × D)) (acc : List (Key × D)), (l.foldl (fun acc p => putD acc p.1 p.2) acc).length ≤ acc.length + l.length := fun l => by
    induction l with
    | nil => intro acc; exact Nat.le_refl _
    | cons p l ih => intro acc; rw [List.foldl_cons, List.length_cons]; have h1 := ih (putD acc p.1 p.2); have h2 := putD_le acc p.1 p.2; omega
  have := this l []
  simpa using this
/-- a dict comprehension that leaves all as it was: f tells what is made of each item -/
theorem dcD_pure {w : WD} {gd : TGD} {ttd : TTD} {kd vd : TED} {vs : List Nat} {env : EnvD} {S1 : Sto} {P : PV} (xs : List D) (f : D → Option (Key × D)) (hn : w.n = xs.length) (hi : ∀ i d, i < w.n → w.item i d → xs[i]? = some d) (hl : xs.length < sizeLine)
    (hok : ∀ L acc, S1 L = none → w.ok (sup S1 L (.dK acc)))
    (ht : ∀ (d : D) (L : Addr) (u : HD) (Zy : D → D → Sto → Prop) (Zn : Sto → Prop), d ∈ xs → S1 L = none → (∀ y, f d = some y → Zy (kD y.1) y.2 (sup S1 L u)) → (f d = none → Zn (sup S1 L u)) →
      gd d (wipeD env vs) (sup S1 L u) fun env2 S2 => ttd env2 S2 fun b S3 => if b = true then kd env2 S3 fun y S4 => vd env2 S4 (Zy y) else Zn S3)
    (hp : P (.dK (foldK (xs.filterMap f))) S1) :
    DcD w gd ttd kd vd vs env P S1 := ⟨fun L hL => by
  refine ⟨fun i acc S => acc = foldK ((xs.take i).filterMap f) ∧ S = sup S1 L (.dK acc), ⟨rfl, rfl⟩, fun i acc S _ ⟨_, e⟩ => ?_, fun i d acc S hlt hit ⟨e1, e2⟩ => ?_, fun acc S ⟨e1, e2⟩ => ?_⟩
  · subst e
    exact ⟨sup_same, hok L _ hL⟩
  · have hx := hi i d hlt hit
    have ht1 : xs.take (i + 1) = xs.take i ++ [d] := by rw [List.take_add_one, hx]; rfl
    have hal : acc.length < sizeLine := by
      rw [e1]
      refine Nat.lt_of_le_of_lt (foldK_le _) (Nat.lt_of_le_of_lt (List.length_filterMap_le _ _) ?_)
      rw [List.length_take]; omega
    subst e2
    refine ht d L _ (fun y z S5 => ∃ k, y = kD k ∧ S5 L = some (.dK acc) ∧ acc.length < sizeLine ∧ _) _ (List.mem_of_getElem? hx) hL (fun y hy => ?_) (fun hy => ?_)
    · refine ⟨y.1, rfl, sup_same, hal, ?_, by rw [sup_sup]⟩
      rw [ht1, List.filterMap_append, List.filterMap_cons, hy, e1]
      show _ = foldK (List.filterMap f (List.take i xs) ++ [y])
      rw [foldK_snoc]
    · refine ⟨?_, rfl⟩
      rw [ht1, List.filterMap_append, ← e1.symm, List.filterMap_cons, hy]
      simp
  · subst e2
    rw [sdel_sup hL, e1, hn, List.take_length]
    exact hp⟩
/-- .. a dict that may still change -/
theorem dcM_pure {w : WD} {gd : TGD} {ttd : TTD} {kd vd : TED} {vs : List Nat} {env : EnvD} {S1 : Sto} {P : PV} (xs : List D) (f : D → Option (Key × D)) (hn : w.n = xs.length) (hi : ∀ i d, i < w.n → w.item i d → xs[i]? = some d) (hl : xs.length < sizeLine)
    (hok : ∀ L acc, S1 L = none → w.ok (sup S1 L (.dK acc)))
    (ht : ∀ (d : D) (L : Addr) (u : HD) (Zy : D → D → Sto → Prop) (Zn : Sto → Prop), d ∈ xs → S1 L = none → (∀ y, f d = some y → Zy (kD y.1) y.2 (sup S1 L u)) → (f d = none → Zn (sup S1 L u)) →
      gd d (wipeD env vs) (sup S1 L u) fun env2 S2 => ttd env2 S2 fun b S3 => if b = true then kd env2 S3 fun y S4 => vd env2 S4 (Zy y) else Zn S3)
    (hp : ∀ L, S1 L = none → P (.ref L) (sup S1 L (.dK (foldK (xs.filterMap f))))) :
    DcM w gd ttd kd vd vs env P S1 := ⟨fun L hL => by
  refine ⟨fun i acc S => acc = foldK ((xs.take i).filterMap f) ∧ S = sup S1 L (.dK acc), ⟨rfl, rfl⟩, fun i acc S _ ⟨_, e⟩ => ?_, fun i d acc S hlt hit ⟨e1, e2⟩ => ?_, fun acc S ⟨e1, e2⟩ => ?_⟩
  · subst e
    exact ⟨sup_same, hok L _ hL⟩
  · have hx := hi i d hlt hit
    have ht1 : xs.take (i + 1) = xs.take i ++ [d] := by rw [List.take_add_one, hx]; rfl
    have hal : acc.length < sizeLine := by
      rw [e1]
      refine Nat.lt_of_le_of_lt (foldK_le _) (Nat.lt_of_le_of_lt (List.length_filterMap_le _ _) ?_)
      rw [List.length_take]; omega
    subst e2
    refine ht d L _ (fun y z S5 => ∃ k, y = kD k ∧ S5 L = some (.dK acc) ∧ acc.length < sizeLine ∧ _) _ (List.mem_of_getElem? hx) hL (fun y hy => ?_) (fun hy => ?_)
    · refine ⟨y.1, rfl, sup_same, hal, ?_, by rw [sup_sup]⟩
      rw [ht1, List.filterMap_append, List.filterMap_cons, hy, e1]
      show _ = foldK (List.filterMap f (List.take i xs) ++ [y])
      rw [foldK_snoc]
    · refine ⟨?_, rfl⟩
      rw [ht1, List.filterMap_append, ← e1.symm, List.filterMap_cons, hy]
      simp
  · subst e2
    rw [e1, hn, List.take_length]
    exact hp L hL⟩
/-- keys that are new each time -/
theorem foldK_new : ∀ {m : List (Int × D)}, (m.map (·.1)).Nodup → foldK (iK m) = iK m := by
  have gen : ∀ (m acc : List (Int × D)), ((acc ++ m).map (·.1)).Nodup → (iK m).foldl (fun acc p => putD acc p.1 p.2) (iK acc) = iK (acc ++ m) := fun m => by
    induction m with
    | nil => intro acc _; rw [List.append_nil]; rfl
    | cons p m ih =>
      intro acc nd
      show (iK m).foldl _ (putD (iK acc) (.inl p.1) p.2) = _
      have nd' := nd
      rw [List.map_append, List.nodup_append] at nd
      have hn : getI acc p.1 = none := getI_none.mpr fun hm => nd.2.2 _ hm p.1 (by simp) rfl
      rw [iK_put, putI_new hn]
      have e : acc ++ [(p.1, p.2)] ++ m = acc ++ p :: m := by simp
      rw [ih _ (by rw [e]; exact nd'), e]
  intro m nd
  exact gen m [] nd
/-! ### dicts whose keys are numbers: looked up, put, taken -/
theorem dgotI {S : Sto} {x : D} {m : List (Int × D)} {i : Int} (h : DicK S x (iK m)) : DGot S x (.int i) (getI m i) := .inl ⟨iK m, .inl i, h, rfl, (iK_get m i).symm⟩
theorem dputI {S : Sto} {a : Addr} {m : List (Int × D)} {i : Int} {v : D} (h : S a = some (.dK (iK m))) (hl : m.length < sizeLine) : DPutD S a (.int i) v (sup S a (.dK (iK (putI m i v)))) :=
  .inl ⟨iK m, .inl i, h, rfl, by rw [iK_len]; exact hl, by rw [iK_put]⟩
theorem dputI0 {S : Sto} {a : Addr} {i : Int} {v : D} (h : S a = some (.dK [])) : DPutD S a (.int i) v (sup S a (.dK (iK [(i, v)]))) :=
  .inl ⟨iK [], .inl i, h, rfl, by rw [iK_len]; decide, by rw [iK_put]; rfl⟩
def DPopD (S : Sto) (a : Addr) (y d : D) (S' : Sto) : Prop := ∃ kds k, S a = some (.dK kds) ∧ y = kD k ∧ getD' kds k = some d ∧ S' = sup S a (.dK (dropD kds k))
theorem dpopI {S : Sto} {a : Addr} {m : List (Int × D)} {i : Int} {d : D} (h : S a = some (.dK (iK m))) (hg : getI m i = some d) : DPopD S a (.int i) d (sup S a (.dK (iK (dropI m i)))) :=
  ⟨iK m, .inl i, h, rfl, by rw [iK_get]; exact hg, by rw [iK_drop]⟩
def zDPopD (dd dy : TED) : TED := fun env S P => dd env S fun x S1 => ∃ a, x = .ref a ∧ IsDic S1 x ∧ dy env S1 fun y S2 => ∃ d S3, DPopD S2 a y d S3 ∧ P d S3
instance (priority := 1500) {td ty : TE} {dd dy : TED} [UpE K F0 td dd] [UpE K F0 ty dy] : UpE K F0 (tDPop1 td ty) (zDPopD dd dy) := ⟨fun r0 h le =>
  UpE.up (t := td) (td := dd) r0 h fun x S1 F1 H1 v ⟨a, e, hi, h1⟩ s1 r1 v1 => by
    subst e
    obtain ⟨a', e', hd⟩ := hi.at r1 v1
    cases v1; cases e'
    refine ⟨a, rfl, hd, UpE.up (t := ty) (td := dy) (r0.at s1 r1) h1 fun y S2 F2 H2 u ⟨d, S3, ⟨kds, k, e2, ey, hg, e9⟩, p⟩ s2 r2 v2 => ?_⟩
    subst ey; subst e9
    obtain ⟨kvs, e3, h3, h4⟩ := r2.dK e2
    have kp : KP K F2 kvs kds := .of h3 h4
    obtain ⟨w, hw, hv⟩ := kp.get hg
    have kq := kp.drop (k := k)
    exact ⟨kvs, k, w, e3, vd_key v2, hw, le _ _ _ _ _ p (s1.trans s2) (r2.put e2 (.dK kq.keys kq.vals)) hv⟩⟩
def zDGet (dd dy : TED) : TED := fun env S P => dd env S fun x S1 => dy env S1 fun y S2 => ∃ o, DGot S2 x y o ∧ ∃ d, o = some d ∧ P d S2
instance (priority := 1500) {td ty : TE} {dd dy : TED} [UpE K F0 td dd] [UpE K F0 ty dy] : UpE K F0 (tDGet td ty) (zDGet dd dy) := ⟨fun r0 h le =>
  UpE.up (t := td) (td := dd) r0 h fun x S1 F1 H1 v h1 s1 r1 v1 => UpE.up (t := ty) (td := dy) (r0.at s1 r1) h1 fun y S2 F2 H2 u ⟨o, hg, d, eo, p⟩ s2 r2 v2 => by
    subst eo
    obtain ⟨a, ov, e, dg, _, hh⟩ := hg.at r2 (v1.mono s2) v2
    rcases hh with ⟨c, _⟩ | ⟨w, d', e1, e2, hv⟩
    · cases c
    · cases e2
      subst e1
      exact ⟨a, w, e, dg, le _ _ _ _ _ p (s1.trans s2) r2 hv⟩⟩
/-- the same, of items known within the walk alone: a comprehension that leaves all as it was: f tells what is made of each item -/
theorem lcD_pureR {w : WD} {gd : TGD} {ttd : TTD} {ed : TED} {vs : List Nat} {env : EnvD} {S1 : Sto} {P : PV} (xs : List D) (f : D → Option D) (hn : w.n = xs.length) (hi : ∀ i d, i < w.n → w.item i d → xs[i]? = some d) (hl : xs.length < sizeLine)
    (hok : ∀ L acc, S1 L = none → w.ok (sup S1 L (.lst acc)))
    (ht : ∀ (d : D) (S : Sto) (Zy : D → Sto → Prop) (Zn : Sto → Prop), d ∈ xs → (∀ a o, S1 a = some o → S a = some o) → (∀ y, f d = some y → Zy y S) → (f d = none → Zn S) →
      gd d (wipeD env vs) S fun env2 S2 => ttd env2 S2 fun b S3 => if b = true then ed env2 S3 Zy else Zn S3)
    (hp : P (.lst (xs.filterMap f)) S1) :
    LcD w gd ttd ed vs env P S1 := ⟨fun L hL => by
  refine ⟨fun i acc S => acc = (xs.take i).filterMap f ∧ S = sup S1 L (.lst acc), ⟨rfl, rfl⟩, fun i acc S _ ⟨_, e⟩ => ?_, fun i d acc S hlt hit ⟨e1, e2⟩ => ?_, fun acc S ⟨e1, e2⟩ => ?_⟩
  · subst e
    exact ⟨sup_same, hok L _ hL⟩
  · have hx := hi i d hlt hit
    have ht1 : xs.take (i + 1) = xs.take i ++ [d] := by rw [List.take_add_one, hx]; rfl
    have hal : acc.length < sizeLine := by
      rw [e1]
      refine Nat.lt_of_le_of_lt (List.length_filterMap_le _ _) ?_
      rw [List.length_take]; omega
    refine ht d S _ _ (List.mem_of_getElem? hx) (fun a o e => by rw [e2, sup_ne (sne_of e hL)]; exact e) (fun y hy => ?_) (fun hy => ?_)
    · subst e2
      refine ⟨sup_same, hal, ?_, by rw [sup_sup]⟩
      rw [ht1, List.filterMap_append, ← e1, List.filterMap_cons, hy]; rfl
    · refine ⟨?_, e2⟩
      rw [ht1, List.filterMap_append, ← e1, List.filterMap_cons, hy]
      simp
  · subst e2
    rw [sdel_sup hL, e1, hn, List.take_length]
    exact hp⟩
/-- {}, data -/
instance (priority := 2000) : UpE K F0 (tSl2 tDNewK) (dC (.dK [])) := ⟨fun {σ H Q F S env P} r0 h le => by
  intro p hp
  refine ⟨p, .dK [], rfl, upd_same, .inl ⟨_, rfl⟩, fun od => ?_⟩
  rw [upd_upd]
  obtain ⟨s2, r2⟩ := r0.h.newF (ho := .frz od (.dK [])) hp
  exact le _ _ _ _ _ h s2 r2 (.dK (kvs := []) upd_same rfl .nil)⟩
/-! ### x += .. -/
instance (f : Int → Int → Int) : UpR K F0 (ipI f) (dI0 fun i j => .int (f i j)) := ⟨fun r hv hu ⟨i, j, e1, e2, p⟩ le => by
  subst e1; subst e2; cases hv; cases hu
  exact ⟨i, j, rfl, rfl, le _ _ _ _ _ p (Same.refl _) r (.int _)⟩⟩
def zAug (i : Nat) (de : TED) (rd : R2D) : TSD := fun P env S => ∃ x, env[i]? = some (some x) ∧ de env S fun y S1 => rd x y S1 fun z S2 => P.nx (env.set i (some z)) S2
instance {i : Nat} {te : TE} {de : TED} {ti : TIp} {rd : R2D} [UpE K F0 te de] [UpR K F0 ti rd] : UpS K F0 (tAug i te ti) (zAug i de rd) := ⟨fun r0 ⟨x, e, h⟩ le => by
  obtain ⟨v, h1, h2⟩ := r0.s.get e
  exact ⟨v, h1, UpE.up (t := te) (td := de) r0 h fun y S1 F1 H1 u p s1 r1 v1 => UpR.up (r := ti) (rd := rd) r1 (h2.mono s1) v1 p fun z S2 F2 H2 q p2 s2 r2 v2 => le.nx _ _ _ _ _ p2 (s1.trans s2) ⟨r2, (r0.s.mono (s1.trans s2)).set v2 i⟩⟩⟩
/-! ### d.clear() -/
instance : UpM K F0 rDClear (fun x vs S P => ∃ a kds, x = .ref a ∧ vs = [] ∧ S a = some (.dK kds) ∧ P .non (sup S a (.dK []))) := ⟨fun r hv hvs ⟨a, ds, e1, e2, e3, p⟩ le => by
  subst e1; subst e2; cases hv; cases hvs
  obtain ⟨xs, e4, h3, h4⟩ := r.dK e3
  exact ⟨a, xs, rfl, rfl, e4, le _ _ _ _ _ p (Same.refl _) (r.put e3 (.dK (kvs := []) (kds := []) rfl .nil)) .non⟩⟩
def dDClear (da : TED) : TED := fun env S P => da env S fun x S1 => ∃ a kds, x = .ref a ∧ S1 a = some (.dK kds) ∧ P .non (sup S1 a (.dK []))
instance (priority := 1500) {to : TE} {da : TED} [UpE K F0 to da] : UpE K F0 (tBM0 K "dict" rDClear to) (dDClear da) := ⟨fun r0 h le =>
  UpE.up (t := to) (td := da) r0 h fun x S1 F1 H1 v ⟨a, kds, e, e3, p⟩ s1 r1 v1 => by
    subst e; cases v1
    obtain ⟨xs, e4, h3, h4⟩ := r1.dK e3
    exact ⟨.inr (.inr (.inl ⟨rfl, .inl ⟨_, e4⟩⟩)), a, xs, rfl, rfl, e4, le _ _ _ _ _ p s1 (r1.put e3 (.dK (kvs := []) (kds := []) rfl .nil)) .non⟩⟩
theorem sup_none {S : Sto} {a b : Addr} {o : HD} (h : sup S a o b = none) : b ≠ a ∧ S b = none := by
  have n : b ≠ a := fun e => by rw [e, sup_same] at h; cases h
  exact ⟨n, by rwa [sup_ne n] at h⟩
/-! ### fields of an object -/
theorem setF_eq {f : Str} {x v : D} {r : List (Str × D)} : setF f v ((f, x) :: r) = (f, v) :: r := by unfold setF; rw [if_pos rfl]
theorem setF_ne {f g : Str} {x v : D} {r : List (Str × D)} (h : (g == f) = false) : setF f v ((g, x) :: r) = (g, x) :: setF f v r := by
  have : ¬ g = f := fun e => by rw [e, beq_self_eq_true] at h; cases h
  show (if g = f then _ else _) = _
  rw [if_neg this]
theorem look_ne {f g : Str} {x : D} {r : List (Str × D)} (h : (f == g) = false) : List.lookup f ((g, x) :: r) = List.lookup f r := by rw [List.lookup_cons, h]
theorem look_eq {f : Str} {x : D} {r : List (Str × D)} : List.lookup f ((f, x) :: r) = some x := by rw [List.lookup_cons, beq_self_eq_true]
end
end L2.VW

/-! ## calls by keywords -/
namespace L2.VW
open PySem PySem.Spec PyProof.Rows
section
variable {K : PySem.W.Frag} {F0 : Hp}
/-- how values by places and by keywords are put together -/
class UpB (gV : List V → List V → List V) (gD : outParam (List D → List D → List D)) : Prop where
  up : ∀ {K : PySem.W.Frag} {F : Hp} {vs ws : List V} {ds es : List D}, VdAll K F vs ds → VdAll K F ws es → VdAll K F (gV vs ws) (gD ds es)
instance : UpB (fun us ws => us ++ ws) (fun us ws => us ++ ws) := ⟨fun a b => a.app b⟩
instance : UpB (fun us ws => us ++ ws.reverse) (fun us ws => us ++ ws.reverse) := ⟨fun a b => a.app b.rev⟩
instance : UpB (fun _ ws => ws) (fun _ ws => ws) := ⟨fun _ b => b⟩
def dCallN (n m : Nat) (spd : SpD) (gD : List D → List D → List D) (PE : XD) (dt dk : TAD) : TED := fun env S P => dt env S fun xs S1 => dk env S1 fun zs S2 => xs.length = n ∧ zs.length = m ∧ spd (gD xs zs) S2 P PE
instance {n m : Nat} {spd : SpD} {gV : List V → List V → List V} {gD : List D → List D → List D} {E : XK} {PE : XD} {t tk : TA} {dt dk : TAD} [UpA K F0 t dt] [UpA K F0 tk dk] [UpB gV gD] [XLe K F0 E PE] : UpE K F0 (L2.tCallN n m (upSp K spd) gV E t tk) (dCallN n m spd gD PE dt dk) := ⟨fun r0 h le =>
  UpA.up (t := t) (td := dt) r0 h fun xs S1 F1 H1 vs h1 s1 r1 v1 => UpA.up (t := tk) (td := dk) (r0.at s1 r1) h1 fun zs S2 F2 H2 ws ⟨l1, l2, h2⟩ s2 r2 v2 =>
    ⟨by rw [v1.len]; exact l1, by rw [v2.len]; exact l2, upSp.at (PE := PE) r2 (UpB.up (gV := gV) (gD := gD) (v1.mono s2) v2) h2 (le.mono (s1.trans s2))⟩⟩
def dMakeK (C : Addr) (n m : Nat) (spd : SpD) (gD : List D → List D → List D) (PE : XD) (dt dk : TAD) : TED := fun env S P => dt env S fun xs S1 => dk env S1 fun zs S2 => xs.length = n ∧ zs.length = m ∧ ∀ p, S2 p = none → spd (gD (.ref p :: xs) zs) (sup S2 p (.ins C [])) (fun v S3 => v = .non ∧ P (.ref p) S3) PE
instance {C : Addr} {n m : Nat} {spd : SpD} {gV : List V → List V → List V} {gD : List D → List D → List D} {E : XK} {PE : XD} {t tk : TA} {dt dk : TAD} [UpA K F0 t dt] [UpA K F0 tk dk] [UpB gV gD] [XLe K F0 E PE] : UpE K F0 (tMakeK C n m (upSp K spd) gV E t tk) (dMakeK C n m spd gD PE dt dk) := ⟨fun r0 h le =>
  UpA.up (t := t) (td := dt) r0 h fun xs S1 F1 H1 vs h1 s1 r1 v1 => UpA.up (t := tk) (td := dk) (r0.at s1 r1) h1 fun zs S2 F2 H2 ws ⟨l1, l2, h2⟩ s2 r2 v2 =>
    ⟨by rw [v1.len]; exact l1, by rw [v2.len]; exact l2, fun p dx hp hd hn => by
      have g : Same H2 (upd H2 dx (.own p)) := fun b u e => by rw [upd_ne (ne_of_none e hd)]; exact e
      have r3 := r2.grow g
      have hp2 : upd H2 dx (.own p) p = none := by rw [upd_ne (Ne.symm hn)]; exact hp
      have r4 := r3.new (o := .ins C []) hp2 (.ins (dx := dx) (fs := []) (ds := []) rfl .nil)
      exact upSp.at (PE := PE) r4 (UpB.up (gV := gV) (gD := gD) (.cons (.ref p) (v1.mono s2)) v2) (h2 p (r2.free hp).2) fun x S3 F3 H3 v ⟨e, p2⟩ s3 r5 v5 => by
        subst e; cases v5
        exact ⟨rfl, le _ _ _ _ _ p2 ((s1.trans s2).trans s3) r5 (.ref p)⟩⟩⟩
end
end L2.VW

/-! ## attributes as targets; one value for several targets; the fields of an object -/
namespace L2
open PySem PySem.Spec PyProof.Rows
section
variable {X : Cx}
/-- o.f = .. as a target -/
def gFld (K : PySem.W.Frag) (ta : TE) (f : Str) : TG := fun v σ H Q => ta σ H fun x H2 => ∃ a C dx fs, x = .ref a ∧ H2 a = some (.ins C dx fs) ∧ Cls K C ∧ NoAttr K C f ∧ fs.length < 1000 ∧ Q σ (upd H2 a (.ins C dx (putF f v fs)))
theorem pg_fldT {o : Expr} {f : Str} {pos : Pos} {ta : TE} (ha : PE X o ta)
    (he : ∀ v, assign (.Attribute o f pos) X.env v = (do
      let ov ← holding [v] (eval o X.env)
      standAt pos.atName
      holding [v, ov] (setAttr ov f v)
      release [v, ov] []) := by intro _; rfl) : PG X (.Attribute o f pos) (gFld X.K ta f) := by
  refine ⟨fun pins s σ H v u Q I r h => ?_⟩
  rw [he]
  refine wpAny_bind (wpAny_holding (thn (ha.run pins s σ H _ I h) fun ov s1 ⟨x, H1, I1, r1, a, C, dx, fs, ex, ea, c, n, hl, q⟩ => ?_))
  subst ex
  obtain rfl : ov = Value.ref a := r1
  refine wpAny_bind (wpAny_standAt (wpAny_bind (wpAny_holding (setattr_ok I1 ea c n hl r fun s3 I3 => ?_))))
  exact wpAny_release ⟨σ, _, I3, q⟩
/-- one value, several targets -/
def gAll : List TG → TG
  | [] => fun _ σ H Q => Q σ H
  | g :: r => fun v σ H Q => g v σ H fun σ1 H1 => gAll r v σ1 H1 Q
inductive PGA (X : Cx) : List Expr → List TG → Prop
  | nil : PGA X [] []
  | cons {e : Expr} {es : List Expr} {g : TG} {gs : List TG} : PG X e g → PGA X es gs → PGA X (e :: es) (g :: gs)
theorem pga_run {es : List Expr} {gs : List TG} (h : PGA X es gs) : ∀ {pins : List (Addr × Obj)} {s : Shared} {σ : St} {H : Hp} {v : V} {u : Value} {Q : St → Hp → Prop}, Inv X pins σ H s → RelV v u → gAll gs v σ H Q →
    wpAny (model X.prog X.w) X.A (assignAll u (es.map fun e => assign e X.env)) (fun _ s' => ∃ σ' H', Inv X pins σ' H' s' ∧ Q σ' H') X.xe s := by
  induction h with
  | nil => intro pins s σ H v u Q I r q; exact wpAny_pure ⟨σ, H, I, q⟩
  | @cons e es g gs hg t ih =>
    intro pins s σ H v u Q I r q
    have k := hg.run pins s σ H v u _ I r q
    cases t with
    | nil => exact thn k fun _ s1 ⟨σ1, H1, I1, q1⟩ => ⟨σ1, H1, I1, q1⟩
    | @cons e2 es2 g2 gs2 hg2 t2 =>
      show wpAny _ _ (do holding [u] (assign e X.env u); assignAll u (assign e2 X.env :: es2.map fun e => assign e X.env)) _ _ _
      exact wpAny_bind (wpAny_holding (thn k fun _ s1 ⟨σ1, H1, I1, q1⟩ => ih I1 r q1))
theorem ps_asgN {ts : List Expr} {e : Expr} {te : TE} {gs : List TG} {pos : Pos} (he : PE X e te) (hg : PGA X ts gs) (hs : swapsWithSole ts e pos.line X.env = pure false := by rfl) (hw : swappedStores ts e X.env = pure none := by rfl)
    (h1 : (assignEach ts X.env).map (·.2) = ts.map fun e => assign e X.env := by rfl) : PS X (.Assign ts e pos) (tAsg te (gAll gs)) := by
  refine ⟨fun pins s σ H D I h => ?_⟩
  refine wpAny_Assign_stores (thn (he.run pins s σ H _ I h) fun v s1 ⟨x, H1, I1, r1, q1⟩ => ?_) hs hw
  rw [h1]
  exact thn (pga_run hg I1 r1 q1) fun _ s2 q => q
end
end L2
namespace L2.VW
open PySem PySem.Spec PyProof.Rows
section
variable {K : PySem.W.Frag} {F0 : Hp}
/-- a field, set -/
def SetF (f : Str) (v : D) (ds ds' : List (Str × D)) : Prop := ds' = setF f v ds
def kFld (K : PySem.W.Frag) (da : TED) (f : Str) : TGD := fun y env S P => da env S fun x S2 => ∃ a C ds ds', x = .ref a ∧ S2 a = some (.ins C ds) ∧ Cls K C ∧ NoAttr K C f ∧ ds.length < 1000 ∧ SetF f y ds ds' ∧ P env (sup S2 a (.ins C ds'))
instance {ta : TE} {da : TED} {f : Str} [UpE K F0 ta da] : UpG K F0 (gFld K ta f) (kFld K da f) := ⟨fun r0 hv h le =>
  UpE.up (t := ta) (td := da) r0 h fun x S2 F2 H2 v ⟨a, C, ds, ds', e, e1, c, n, hl, es, p⟩ s2 r2 v2 => by
    subst e; cases v2
    obtain ⟨dx, fs, e2, h2, h3⟩ := r2.ins e1
    have kp : KP K F2 fs ds := .of h2 h3
    have kq := kp.putF (f := f) (hv.mono s2)
    rw [show ds' = setF f _ ds from es] at p
    exact ⟨a, C, dx, fs, rfl, e2, c, n, by rw [kp.len]; exact hl, le _ _ _ _ _ p s2 (r0.at s2 (r2.put e1 (.ins kq.keys kq.vals)))⟩⟩
def kAll : List TGD → TGD
  | [] => fun _ env S P => P env S
  | g :: r => fun v env S P => g v env S fun env1 S1 => kAll r v env1 S1 P
instance : UpG K F0 (gAll []) (kAll []) := ⟨fun r0 _ h le => le _ _ _ _ _ h (Same.refl _) r0⟩
instance {g : TG} {gd : TGD} {r : List TG} {rd : List TGD} [UpG K F0 g gd] [UpG K F0 (gAll r) (kAll rd)] : UpG K F0 (gAll (g :: r)) (kAll (gd :: rd)) := ⟨fun r0 hv h le =>
  UpG.up (t := g) (td := gd) r0 hv h fun env1 S1 F1 σ1 H1 h1 s1 r1 => UpG.up (t := gAll r) (td := kAll rd) r1 (hv.mono s1) h1 (le.mono s1)⟩
def yFld (K : PySem.W.Frag) (da dv : TED) (f : Str) : TSD := fun P env S => dv env S fun y S1 => da env S1 fun x S2 => ∃ a C ds ds', x = .ref a ∧ S2 a = some (.ins C ds) ∧ Cls K C ∧ NoAttr K C f ∧ ds.length < 1000 ∧ SetF f y ds ds' ∧ P.nx env (sup S2 a (.ins C ds'))
instance (priority := 1500) {ta tv : TE} {da dv : TED} {f : Str} [UpE K F0 ta da] [UpE K F0 tv dv] : UpS K F0 (sFld K ta tv f) (yFld K da dv f) := ⟨fun r0 h le =>
  UpE.up (t := tv) (td := dv) r0 h fun y S1 F1 H1 u h1 s1 r1 v1 => UpE.up (t := ta) (td := da) (r0.at s1 r1) h1 fun x S2 F2 H2 v ⟨a, C, ds, ds', e, e1, c, n, hl, es, p⟩ s2 r2 v2 => by
    subst e; cases v2
    obtain ⟨dx, fs, e2, h2, h3⟩ := r2.ins e1
    have kp : KP K F2 fs ds := .of h2 h3
    have kq := kp.putF (f := f) (v1.mono s2)
    rw [show ds' = setF f _ ds from es] at p
    exact ⟨a, C, dx, fs, rfl, e2, c, n, by rw [kp.len]; exact hl, le.nx _ _ _ _ _ p (s1.trans s2) ((r0.at (s1.trans s2) (r2.put e1 (.ins kq.keys kq.vals))))⟩⟩
def yFldAug (K : PySem.W.Frag) (da dv : TED) (rd : R2D) (f : Str) : TSD := fun P env S => da env S fun x S1 => ∃ a C ds d, x = .ref a ∧ S1 a = some (.ins C ds) ∧ Cls K C ∧ NoAttr K C f ∧ ds.lookup f = some d ∧
  dv env S1 fun y S2 => rd d y S2 fun z S3 => ∃ ds' ds'', S3 a = some (.ins C ds') ∧ ds'.length < 1000 ∧ SetF f z ds' ds'' ∧ P.nx env (sup S3 a (.ins C ds''))
instance (priority := 1500) {ta tv : TE} {da dv : TED} {r : R2} {rd : R2D} {f : Str} [UpE K F0 ta da] [UpE K F0 tv dv] [UpR K F0 r rd] : UpS K F0 (sFldAug K ta tv r f) (yFldAug K da dv rd f) := ⟨fun r0 h le =>
  UpE.up (t := ta) (td := da) r0 h fun x S1 F1 H1 v ⟨a, C, ds, d, e, e1, c, n, l, h1⟩ s1 r1 v1 => by
    subst e; cases v1
    obtain ⟨dx, fs, e2, h2, h3⟩ := r1.ins e1
    have kp : KP K F1 fs ds := .of h2 h3
    obtain ⟨w, lw, hw⟩ := kp.lookup l
    refine ⟨a, C, dx, fs, w, rfl, e2, c, n, lw, UpE.up (t := tv) (td := dv) (r0.at s1 r1) h1 fun y S2 F2 H2 u h4 s2 r2 v2 => UpR.up (r := r) (rd := rd) r2 (hw.mono s2) v2 h4 fun z S3 F3 H3 q ⟨ds', ds'', e3, hl, es, p⟩ s3 r3 v3 => ?_⟩
    obtain ⟨dx', fs', e4, h5, h6⟩ := r3.ins e3
    have kp' : KP K F3 fs' ds' := .of h5 h6
    have kq := kp'.putF (f := f) v3
    rw [show ds'' = setF f _ ds' from es] at p
    exact ⟨dx', fs', e4, by rw [kp'.len]; exact hl, le.nx _ _ _ _ _ p ((s1.trans s2).trans s3) (r0.at ((s1.trans s2).trans s3) (r3.put e3 (.ins kq.keys kq.vals)))⟩⟩
/-! ### an object that is told: data from here on -/
inductive Frz (P : PV) (x : D) (S : Sto) : Prop
  | mk (a C : Addr) (ds : List (Str × D)) : x = .ref a → S a = some (.ins C ds) → P (.ins C ds) (sdel S a) → Frz P x S
theorem body_frz {N : List Str} {t : TS} {td : TSD} {F : Hp} {S : Sto} {H : Hp} {vs : List V} {ds : List D} {P : PV} {Q : VK} [UpS K F t td] (r : RelH K F F S H) (hv : VdAll K F vs ds) (le : LeV K F F P Q)
    (h : td { nx := fun _ S' => P .non S', rt := Frz P } (ds.map some ++ List.replicate (N.length - ds.length) none) S) : t { nx := fun _ H' => Q .non H', rt := Q } (start N vs) H := by
  refine UpS.up (t := t) (td := td) (F0 := F) ⟨r, ?_⟩ h ⟨fun _ _ _ _ _ p s r1 => le _ _ _ _ _ p s r1.h .non, fun x S' F' H' v p s r1 vd => ?_, fun _ _ _ _ _ p => p.elim, fun _ _ _ _ _ p => p.elim⟩
  · unfold start
    rw [hv.len]
    exact starts hv
  · obtain ⟨a, C, fd, rfl, e1, p⟩ := p
    cases vd
    obtain ⟨dx, fs, e2, h2, h3⟩ := r1.ins e1
    obtain ⟨s2, r2⟩ := r1.keep e1 e2
    exact le _ _ _ _ _ p (s.trans s2) r2 (.ins upd_same h2 (h3.mono s2))
/-- .. and the objects that the body made itself need not be told of -/
theorem body_frzL {N : List Str} {t : TS} {td : TSD} {F : Hp} {S : Sto} {H : Hp} {vs : List V} {ds : List D} {P : PV} {Q : VK} [UpS K F t td] (r : RelH K F F S H) (hv : VdAll K F vs ds) (le : LeV K F F P Q)
    (h : td { nx := fun _ S' => Lss P .non S', rt := Frz (Lss P) } (ds.map some ++ List.replicate (N.length - ds.length) none) S) : t { nx := fun _ H' => Q .non H', rt := Q } (start N vs) H :=
  body_frz (P := Lss P) r hv (fun _ _ _ _ _ p s r1 v => by obtain ⟨S2, h2, p⟩ := p; exact le _ _ _ _ _ p s (r1.less h2) v) h
end
end L2.VW

/-! ## list(enumerate(xs)), list(zip(xs, ys)): a new list of new tuples -/
namespace LZ
open PySem PySem.Spec PyProof.Rows L2
/-- an iterator whose n items are new pairs, while at S a list is being filled -/
structure TSrc (P : Program) (w : World) (A : Around) (I S : Addr) (wr : List Addr) (n : Nat) (Rel : Nat → Value → Value → Prop) (St : Nat → Heap → Prop) : Prop where
  off : S ∉ wr
  low : ∀ b ∈ wr, b < S
  frame : ∀ i h h', St i h → (∀ b o, b ≠ S → h.get? b = some o → h'.get? b = some o) → St i h'
  item : ∀ i (s : Shared) (Q : Option Value → Shared → Prop) (E : Value → Shared → Prop), i < n → St i s.heap → S < s.heap.objs.size →
    (∀ k v h' tk, Rel i k v → h'.get? s.heap.objs.size = some { cls := .type "tuple", data := .seq #[k, v] } → St (i + 1) h' → (∀ b o, b ∉ wr → s.heap.get? b = some o → h'.get? b = some o) → Q (some (.ref s.heap.objs.size)) { s with heap := h', toks := tk }) →
    wpAny (model P w) A (pyNext (.ref I)) Q E s
  done : ∀ (s : Shared) (Q : Option Value → Shared → Prop) (E : Value → Shared → Prop), St n s.heap →
    (∀ h' tk, (∀ b o, b ∉ wr → s.heap.get? b = some o → h'.get? b = some o) → Q none { s with heap := h', toks := tk }) → wpAny (model P w) A (pyNext (.ref I)) Q E s
/-- the tuples given out so far -/
structure TG (Rel : Nat → Value → Value → Prop) (S : Addr) (h : Heap) (as : List Addr) : Prop where
  rise : as.Pairwise (· < ·)
  above : ∀ a ∈ as, S < a
  pairs : ∀ (j : Nat) (a : Addr), as[j]? = some a → ∃ k v, Rel j k v ∧ h.get? a = some { cls := .type "tuple", data := .seq #[k, v] }
theorem TG.there {Rel : Nat → Value → Value → Prop} {S : Addr} {h : Heap} {as : List Addr} (g : TG Rel S h as) {a : Addr} (ha : a ∈ as) : a < h.objs.size := by
  obtain ⟨j, hj⟩ := List.mem_iff_getElem?.mp ha
  obtain ⟨_, _, _, e⟩ := g.pairs j a hj
  exact Heap.lt_size e
section
variable {P : Program} {w : World} {A : Around} {s : Shared} {R : Result → Shared → Prop} {I S : Addr} {wr : List Addr} {n : Nat} {Rel : Nat → Value → Value → Prop} {St : Nat → Heap → Prop}
theorem loop (T : TSrc P w A.in1 I S wr n Rel St) (hn : n ≤ sizeLine) (res : Value) {h₁ : Heap}
    (hR : ∀ h' tk acc c as, (∀ b o, b ≠ S → b ∉ wr → h₁.get? b = some o → h'.get? b = some o) → h'.get? S = some { cls := .type "list", dict := none, data := .seq acc c, slots := #[] } → as.length = n → TG Rel S h' as →
      acc.toList = as.map Value.ref → R (.ok (.ret res)) { s with heap := h', toks := tk }) :
    ∀ (k i : Nat) (h : Heap) (tk c : Nat) (acc : Array Value) (as : List Addr), n - i = k → i ≤ n → St i h → (∀ b o, b ≠ S → b ∉ wr → h₁.get? b = some o → h.get? b = some o) →
      h.get? S = some { cls := .type "list", dict := none, data := .seq acc c, slots := #[] } → acc.toList = as.map Value.ref → as.length = i → TG Rel S h as →
      codeAny (model P w) A (.builtin "list.extend.loop" ⟨[.ref S, .ref I, res], []⟩) R { s with heap := h, toks := tk } := by
  intro k
  induction k with
  | zero =>
    intro i h tk c acc as hk hi hst hkeep hS hacc hal hG
    have hin : i = n := by omega
    subst hin
    refine codeAny_builtin PySem.F.entry_extend_loop ?_
    rw [Around.under_plainId PySem.F.plain_extend_loop _]
    show wpAny _ A.in1 (pyNext (.ref I) >>= _) _ _ _
    refine wpAny_bind (T.done { s with heap := h, toks := tk } _ _ hst fun h' tk' he => ?_)
    have nw : ∀ a ∈ as, a ∉ wr := fun a ha z => Nat.lt_asymm (T.low a z) (hG.above a ha)
    refine wpAny_pure (hR h' tk' acc c as (fun b o h1 h2 e => he b o h2 (hkeep b o h1 h2 e)) (he S _ T.off hS) hal ⟨hG.rise, hG.above, fun j a hj => ?_⟩ hacc)
    obtain ⟨k, v, e1, e2⟩ := hG.pairs j a hj
    exact ⟨k, v, e1, he a _ (nw a (List.mem_of_getElem? hj)) e2⟩
  | succ k ih =>
    intro i h tk c acc as hk hi hst hkeep hS hacc hal hG
    have hlt : i < n := by omega
    have hsz : acc.size = i := by rw [← Array.length_toList, hacc, List.length_map, hal]
    have hSl : S < h.objs.size := Heap.lt_size hS
    refine codeAny_builtin PySem.F.entry_extend_loop ?_
    rw [Around.under_plainId PySem.F.plain_extend_loop _]
    show wpAny _ A.in1 (pyNext (.ref I) >>= _) _ _ _
    refine wpAny_bind (T.item i { s with heap := h, toks := tk } _ _ hlt hst hSl fun k v h' tk' hrel ht hst' hkp => ?_)
    dsimp only at ht hkp ⊢
    have hS' := hkp S _ T.off hS
    have up : ∀ b o, b ≠ S → h'.get? b = some o → (h'.update S (Obj.mapSeq (·.push (Value.ref h.objs.size)))).get? b = some o := fun b o hb e => (Heap.get?_update_other _ _ (Ne.symm hb)).trans e
    show wpAny _ A.in1 (updateSeq S (·.push (Value.ref h.objs.size)) >>= _) _ _ _
    refine wpAny_bind ?_
    refine wpAny_updateSeq hS' rfl (wpAny_pure ⟨plainId_quiet PySem.F.plain_extend_loop _, ih (i + 1) _ tk' _ (acc.push (Value.ref h.objs.size)) (as ++ [h.objs.size]) (by omega) hlt (T.frame _ _ _ hst' up)
      (fun b o h1 h2 e => up b o h1 (hkp b o h2 (hkeep b o h1 h2 e))) (Heap.get?_update_self _ hS' rfl) (by rw [Array.toList_push, hacc, List.map_append]; rfl) (by rw [List.length_append, hal]; rfl) ⟨?_, ?_, ?_⟩⟩) (by rw [hsz]; omega) (by show (acc.push (Value.ref h.objs.size)).size ≤ sizeLine + 1; rw [Array.size_push, hsz]; omega)
    · refine List.pairwise_append.mpr ⟨hG.rise, List.pairwise_singleton _ _, fun a ha b hb => ?_⟩
      rw [List.mem_singleton.mp hb]
      exact hG.there ha
    · intro a ha
      rcases List.mem_append.mp ha with ha | ha
      · exact hG.above a ha
      · rw [List.mem_singleton.mp ha]; exact hSl
    · intro j b hj
      rcases Nat.lt_trichotomy j as.length with h1 | h1 | h1
      · rw [List.getElem?_append_left h1] at hj
        obtain ⟨k', v', e1, e2⟩ := hG.pairs j b hj
        have hb := hG.above b (List.mem_of_getElem? hj)
        exact ⟨k', v', e1, up b _ (Nat.ne_of_gt hb) (hkp b _ (fun z => Nat.lt_asymm (T.low b z) hb) e2)⟩
      · subst h1
        have hb : h.objs.size = b := by simpa using hj
        subst hb
        exact ⟨k, v, by rw [hal]; exact hrel, up _ _ (Nat.ne_of_gt hSl) ht⟩
      · have hnone : (as ++ [h.objs.size])[j]? = none := List.getElem?_eq_none (by rw [List.length_append, List.length_singleton]; omega)
        rw [hnone] at hj; cases hj
end
/-- an argument of list(..) that gives such an iterator: its type knows no length -/
structure TArg (P : Program) (w : World) (T : String) (a : Addr) (wr : List Addr) (n : Nat) (Rel : Nat → Value → Value → Prop) (OK : Heap → Prop) : Prop where
  type : ∀ s : Shared, OK s.heap → s.TypeIs (.ref a) T
  keep : ∀ h h', OK h → (∀ b o, h.get? b = some o → h'.get? b = some o) → OK h'
  low : ∀ h, OK h → (∀ b ∈ wr, b < h.objs.size) ∧ a < h.objs.size
  iter : ∀ (A : Around) (s : Shared) (Q : Value → Shared → Prop) (E : Value → Shared → Prop), OK s.heap → Q (.ref a) s → wpAny (model P w) A (pyIter (.ref a)) Q E s
  src : ∀ (A : Around) (S : Addr), A.handled = none → (∀ b ∈ wr, b < S) → ∃ St, TSrc P w A a S wr n Rel St ∧ ∀ h h', OK h → S = h.objs.size → (∀ b o, h.get? b = some o → h'.get? b = some o) → St 0 h'
  nl : (Value.type T == Value.type "list") = false
  nt : (Value.type T == Value.type "tuple") = false
  noLen : typeLookup (.type T) "__len__" = pure none
  noHint : typeLookup (.type T) "__length_hint__" = pure none
theorem call_list {P : Program} {w : World} {A : Around} {E : Value → Shared → Prop} {s : Shared} {Q : Value → Shared → Prop} {T : String} {a : Addr} {wr : List Addr} {n : Nat} {Rel : Nat → Value → Value → Prop} {OK : Heap → Prop} (G : TArg P w T a wr n Rel OK)
    (hh : A.handled = none) (ok : OK s.heap) (hn : n ≤ sizeLine)
    (hQ : ∀ h' tk acc c as, (∀ b o, b ∉ wr → s.heap.get? b = some o → h'.get? b = some o) → h'.get? s.heap.objs.size = some { cls := .type "list", dict := none, data := .seq acc c, slots := #[] } → as.length = n → TG Rel s.heap.objs.size h' as →
      acc.toList = as.map Value.ref → Q (.ref s.heap.objs.size) { s with heap := h', toks := tk }) :
    wpAny (model P w) A (call (.type "list") [.ref a]) Q E s := by
  obtain ⟨hwr, haS⟩ := G.low _ ok
  have hSa : s.heap.objs.size ≠ a := Nat.ne_of_gt haS
  refine callType_codes (Q₁ := fun obj s₁ => obj = .ref s.heap.objs.size ∧ s₁ = { s with heap := s.heap.push { cls := .type "list", data := .seq #[] } }) F.called_list (F.typeCall_list_1 _) F.entry_list_init
    (code_list_new _ ⟨rfl, rfl⟩) fun obj s₁ h₁ => ?_
  obtain ⟨rfl, rfl⟩ := h₁
  have hS : (s.heap.push { cls := .type "list", data := .seq #[] }).get? s.heap.objs.size = some { cls := .type "list", data := .seq #[] } := Heap.get?_push_size _ rfl
  refine ⟨⟨_, hS, rfl⟩, F.args_list_init_2 _ _, ?_⟩
  show wpAny _ A.in1.in1 (do let old ← Builtin.List.listItems (.ref s.heap.objs.size); Builtin.List.listUpdate (.ref s.heap.objs.size) (fun _ => #[]); letGo old.toList.reverse; Builtin.List.listExtendWith (.ref s.heap.objs.size) (.ref a) .none) _ _ _
  refine wpAny_bind ?_
  unfold Builtin.List.listItems
  refine wpAny_bind (wpAny_seqItems hS rfl (wpAny_pure ?_))
  show wpAny _ A.in1.in1 (updateSeq s.heap.objs.size (fun _ => #[]) >>= fun _ => letGo (#[] : Array Value).toList.reverse >>= fun _ => Builtin.List.listExtendWith (.ref s.heap.objs.size) (.ref a) .none) _ _ _
  refine wpAny_bind (wpAny_updateSeq hS rfl ?_)
  have hS2 := Heap.get?_update_self (Obj.mapSeq (fun _ => (#[] : Array Value))) hS rfl
  refine wpAny_bind (wpAny_letGo ?_)
  unfold Builtin.List.listExtendWith
  have up : ∀ (h : Heap) (f : Obj → Obj), (∀ b o, s.heap.get? b = some o → h.get? b = some o) → ∀ b o, s.heap.get? b = some o → (h.update s.heap.objs.size f).get? b = some o := fun h f q b o e =>
    (Heap.get?_update_other _ _ (Ne.symm (Nat.ne_of_lt (Heap.lt_size e)))).trans (q b o e)
  have k1 : ∀ b o, s.heap.get? b = some o → (s.heap.push { cls := .type "list", data := .seq #[] }).get? b = some o := fun b o e => Heap.get?_push_of_some _ e
  have k2 := up _ (Obj.mapSeq (fun _ => (#[] : Array Value))) k1
  refine wpAny_bind (wpAny_typeOf (G.type { s with heap := _ } (G.keep _ _ ok k2)) ?_)
  have h1 : Builtin.List.listSameRef (.ref s.heap.objs.size) (.ref a) = false := by simp [Builtin.List.listSameRef, hSa]
  simp only [h1, G.nl, G.nt, Bool.or_false, Bool.false_eq_true, if_false]
  refine wpAny_bind (G.iter _ { s with heap := _ } _ _ (G.keep _ _ ok k2) ?_)
  refine wpAny_bind (wpAny_holding ?_)
  unfold Builtin.List.listLengthHint
  refine wpAny_bind (wpAny_specialOf (G.type { s with heap := _ } (G.keep _ _ ok k2)) G.noLen ?_)
  show wpAny _ A.in1.in1 (specialOf (Value.ref a) (Str.ofString "__length_hint__") >>= _) _ _ _
  refine wpAny_bind (wpAny_specialOf (G.type { s with heap := _ } (G.keep _ _ ok k2)) G.noHint ?_)
  refine wpAny_pure ?_
  show wpAny _ A.in1.in1 (rule "list.extend.makes-room" >>= fun _ => Builtin.List.listTouch (.ref s.heap.objs.size) >>= fun _ =>
    again (.builtin "list.extend.loop" ⟨[.ref s.heap.objs.size, .ref a, .none], []⟩)) _ _ _
  refine wpAny_bind (wpAny_rule ?_)
  refine wpAny_bind ?_
  show wpAny _ A.in1.in1 (updateSeq s.heap.objs.size (·.push .none) >>= fun _ => updateSeq s.heap.objs.size (·.pop)) _ _ _
  refine wpAny_bind (wpAny_updateSeq hS2 rfl ?_)
  have hS3 := Heap.get?_update_self (Obj.mapSeq (·.push Value.none)) hS2 rfl
  refine wpAny_updateSeq (hz := by seq_fits) hS3 rfl ?_
  have hS4 := Heap.get?_update_self (Obj.mapSeq (·.pop)) hS3 rfl
  have k4 := up _ (Obj.mapSeq (·.pop)) (up _ (Obj.mapSeq (·.push Value.none)) k2)
  refine wpAny_pure ⟨plainId_quiet F.plain_extend_loop _, ?_⟩
  obtain ⟨St, src, st0⟩ := G.src A.in1.in1 s.heap.objs.size hh hwr
  refine loop (s := s) (h₁ := s.heap) src hn .none (fun h' tk acc c as q1 q2 q3 q4 q5 => ?_) n 0 _ s.toks _ #[] [] (Nat.sub_zero _) (Nat.zero_le _) (st0 _ _ ok rfl k4) (fun b o _ _ e => k4 b o e) hS4 rfl rfl
    ⟨List.Pairwise.nil, (fun _ ha => nomatch ha), (fun j a hj => by simp at hj)⟩
  exact ⟨rfl, hQ h' tk acc c as (fun b o hb e => q1 b o (Nat.ne_of_lt (Heap.lt_size e)) hb e) q2 q3 q4 q5⟩
theorem enum_no_len : typeLookup (.type "enumerate") "__len__" = pure none := by rw [typeLookup_type, builtinLookup_eq_fast]; kernel_rfl
theorem enum_no_hint : typeLookup (.type "enumerate") "__length_hint__" = pure none := by rw [typeLookup_type, builtinLookup_eq_fast]; kernel_rfl
theorem zip_no_len : typeLookup (.type "zip") "__len__" = pure none := by rw [typeLookup_type, builtinLookup_eq_fast]; kernel_rfl
theorem zip_no_hint : typeLookup (.type "zip") "__length_hint__" = pure none := by rw [typeLookup_type, builtinLookup_eq_fast]; kernel_rfl
theorem enum_arg {P : Program} {w : World} (e it l : Addr) (hei : e ≠ it) (hle : l ≠ e) (hli : l ≠ it) (items : Array Value) :
    TArg P w "enumerate" e [e, it] items.size (fun i k v => (∃ t, k = .int i t) ∧ items[i]? = some v) (fun h => (∃ old, IsEnum h e it 0 old) ∧ h.IsListIter it l 0 ∧ h.IsList l items) where
  type := fun s ok => let ⟨⟨_, he⟩, _⟩ := ok; ⟨_, he, rfl⟩
  keep := fun h h' ok hk => by
    obtain ⟨⟨old, he⟩, hit, hl⟩ := ok
    exact ⟨⟨old, hk _ _ he⟩, hit.at fun o x => hk _ o x, hl.at fun o x => hk _ o x⟩
  low := fun h ok => by
    obtain ⟨⟨old, he⟩, ⟨o1, h1, _⟩, ⟨o2, h2, _⟩⟩ := ok
    refine ⟨fun b hb => ?_, Heap.lt_size he⟩
    simp only [List.mem_cons, List.not_mem_nil, or_false] at hb
    rcases hb with rfl | rfl
    · exact Heap.lt_size he
    · exact Heap.lt_size h1
  iter := fun A s Q E ok h => let ⟨⟨_, he⟩, _⟩ := ok; wpAny_pyIter_enum he h
  nl := by decide
  nt := by decide
  noLen := enum_no_len
  noHint := enum_no_hint
  src := fun A S hA hwr => by
    have de : S ≠ e := Nat.ne_of_gt (hwr e (by simp))
    have dit : S ≠ it := Nat.ne_of_gt (hwr it (by simp))
    refine ⟨fun i h => l ≠ S ∧ h.IsListIter it l i ∧ h.IsList l items ∧ ((∃ old, IsEnum h e it i old) ∨ ∃ old T f oT, IsEnumHeld h e it i old T f ∧ h.get? T = some oT ∧ T ≠ e ∧ T ≠ it ∧ T ≠ S), ?_, fun h h' ok eS k => ?_⟩
    · exact {
      off := fun hm => by
        simp only [List.mem_cons, List.not_mem_nil, or_false] at hm
        rcases hm with x | x
        · exact de x
        · exact dit x
      low := hwr
      frame := fun i h₁ h₂ st hk => by
        obtain ⟨dl, hit, hl, he⟩ := st
        refine ⟨dl, hit.at fun o x => hk _ o (Ne.symm dit) x, hl.at fun o x => hk _ o dl x, ?_⟩
        rcases he with ⟨old, he⟩ | ⟨old, T, f, oT, he, hT, r1, r2, r3⟩
        · exact .inl ⟨old, hk _ _ (Ne.symm de) he⟩
        · exact .inr ⟨old, T, f, oT, hk _ _ (Ne.symm de) he, hk _ _ r3 hT, r1, r2, r3⟩
      item := fun i s₁ Q₁ E₁ hi st hds hQ => by
        obtain ⟨dl, hit, hl, he⟩ := st
        have ex := Array.getElem?_eq_getElem hi
        have ec : ((i + 1 : Nat) : Int) = (i : Int) + 1 := by omega
        have nit : s₁.heap.objs.size ≠ it := let ⟨_, x, _⟩ := hit; Nat.ne_of_gt (Heap.lt_size x)
        rcases he with ⟨old, he⟩ | ⟨old, T, f, oT, he, hT, r1, r2, r3⟩
        · refine wpAny_pyNext_enum_item he hit hl ex hei fun h' ho hit' hT hsz hk => ?_
          exact hQ _ _ h' (s₁.toks + 1) ⟨⟨_, rfl⟩, ex⟩ hT
            ⟨dl, hit', hl.at fun o x => hk l o hle hli x, .inr ⟨_, s₁.heap.objs.size, false, _, (by rw [ec]; exact ho), hT, Nat.ne_of_gt (Heap.lt_size he), nit, Nat.ne_of_gt hds⟩⟩
            fun b o hb x => hk b o (fun y => hb (by simp [y])) (fun y => hb (by simp [y])) x
        · refine wpAny_pyNext_enum_item_held he hT r1 r2 hit hl ex hei fun h' ho hit' hT' hsz hk => ?_
          exact hQ _ _ h' (s₁.toks + 1) ⟨⟨_, rfl⟩, ex⟩ hT'
            ⟨dl, hit', hl.at fun o x => hk l o hle hli x, .inr ⟨old, T, true, oT, (by rw [ec]; exact ho), hk _ _ r1 r2 hT, r1, r2, r3⟩⟩
            fun b o hb x => hk b o (fun y => hb (by simp [y])) (fun y => hb (by simp [y])) x
      done := fun s₁ Q₁ E₁ st hQ => by
        obtain ⟨dl, hit, hl, he⟩ := st
        have hx : items[items.size]? = none := Array.getElem?_eq_none (Nat.le_refl _)
        rcases he with ⟨old, he⟩ | ⟨old, T, f, oT, he, hT, r1, r2, r3⟩
        · exact wpAny_pyNext_enum_end hA he hit hl hx fun h' hk => hQ h' s₁.toks fun b o hb x => hk b o (fun y => hb (by simp [y])) x
        · exact wpAny_pyNext_enum_end_held hA he hit hl hx fun h' hk => hQ h' s₁.toks fun b o hb x => hk b o (fun y => hb (by simp [y])) x }
    · obtain ⟨⟨old, he⟩, hit, hl⟩ := ok
      exact ⟨by obtain ⟨_, z, _⟩ := hl; rw [eS]; exact Nat.ne_of_lt (Heap.lt_size z), hit.at fun o x => k _ o x, hl.at fun o x => k _ o x, .inl ⟨old, k _ _ he⟩⟩
theorem zip_arg {P : Program} {w : World} (z TI TO i1 i2 l1 l2 : Addr) (D : ZipApart z TI TO i1 i2 l1 l2) (xs ys : Array Value) :
    TArg P w "zip" z [z, TO, i1, i2] (min xs.size ys.size) (fun i k v => xs[i]? = some k ∧ ys[i]? = some v)
      (fun h => IsZip h z TI TO .none ∧ IsPair h TI (.ref i1) (.ref i2) ∧ (∃ a b, IsPair h TO a b) ∧ h.IsListIter i1 l1 0 ∧ h.IsListIter i2 l2 0 ∧ h.IsList l1 xs ∧ h.IsList l2 ys) where
  type := fun s ok => ⟨_, ok.1, rfl⟩
  keep := fun h h' ok hk => by
    obtain ⟨hz, hTI, ⟨a, b, hTO⟩, h1, h2, hl1, hl2⟩ := ok
    exact ⟨hk _ _ hz, hk _ _ hTI, ⟨a, b, hk _ _ hTO⟩, h1.at fun o e => hk _ o e, h2.at fun o e => hk _ o e, hl1.at fun o e => hk _ o e, hl2.at fun o e => hk _ o e⟩
  low := fun h ok => by
    obtain ⟨hz, hTI, ⟨a, c, hTO⟩, ⟨o1, h1, _⟩, ⟨o2, h2, _⟩, ⟨o3, hl1, _⟩, ⟨o4, hl2, _⟩⟩ := ok
    refine ⟨fun b hb => ?_, Heap.lt_size hz⟩
    simp only [List.mem_cons, List.not_mem_nil, or_false] at hb
    rcases hb with rfl | rfl | rfl | rfl
    all_goals first | exact Heap.lt_size hz | exact Heap.lt_size hTO | exact Heap.lt_size h1 | exact Heap.lt_size h2
  iter := fun A s Q E ok h => wpAny_pyIter_zip ok.1 h
  nl := by decide
  nt := by decide
  noLen := zip_no_len
  noHint := zip_no_hint
  src := fun A S hA hwr => by
    have dz : S ≠ z := Nat.ne_of_gt (hwr z (by simp))
    have dTO : S ≠ TO := Nat.ne_of_gt (hwr TO (by simp))
    have di1 : S ≠ i1 := Nat.ne_of_gt (hwr i1 (by simp))
    have di2 : S ≠ i2 := Nat.ne_of_gt (hwr i2 (by simp))
    refine ⟨fun i h => (TI ≠ S ∧ l1 ≠ S ∧ l2 ≠ S) ∧ IsPair h TI (.ref i1) (.ref i2) ∧ h.IsListIter i1 l1 i ∧ h.IsListIter i2 l2 i ∧ h.IsList l1 xs ∧ h.IsList l2 ys ∧
      ((IsZip h z TI TO .none ∧ ∃ a b, IsPair h TO a b) ∨ ∃ T f oT, IsZipHeld h z TI TO T f ∧ h.get? T = some oT ∧ T ≠ z ∧ T ≠ i1 ∧ T ≠ i2 ∧ T ≠ S), ?_, fun h h' ok eS k => ?_⟩
    · exact {
      off := fun hm => by
        simp only [List.mem_cons, List.not_mem_nil, or_false] at hm
        rcases hm with e | e | e | e
        · exact dz e
        · exact dTO e
        · exact di1 e
        · exact di2 e
      low := hwr
      frame := fun i h₁ h₂ st hk => by
        obtain ⟨⟨dTI, dl1, dl2⟩, hTI, h1, h2, hl1, hl2, hz⟩ := st
        refine ⟨⟨dTI, dl1, dl2⟩, hk _ _ dTI hTI, h1.at fun o e => hk _ o (Ne.symm di1) e, h2.at fun o e => hk _ o (Ne.symm di2) e, hl1.at fun o e => hk _ o dl1 e, hl2.at fun o e => hk _ o dl2 e, ?_⟩
        rcases hz with ⟨hz, a, b, hTO⟩ | ⟨T, f, oT, hz, hT, r1, r2, r3, r4⟩
        · exact .inl ⟨hk _ _ (Ne.symm dz) hz, a, b, hk _ _ (Ne.symm dTO) hTO⟩
        · exact .inr ⟨T, f, oT, hk _ _ (Ne.symm dz) hz, hk _ _ r4 hT, r1, r2, r3, r4⟩
      item := fun i s₁ Q₁ E₁ hi st hds hQ => by
        obtain ⟨hne, hTI, h1, h2, hl1, hl2, hz⟩ := st
        have hix : i < xs.size := Nat.lt_of_lt_of_le hi (Nat.min_le_left ..)
        have hiy : i < ys.size := Nat.lt_of_lt_of_le hi (Nat.min_le_right ..)
        have ex := Array.getElem?_eq_getElem hix
        have ey := Array.getElem?_eq_getElem hiy
        have lt : ∀ {c o}, s₁.heap.get? c = some o → s₁.heap.objs.size ≠ c := fun e => Nat.ne_of_gt (Heap.lt_size e)
        have n1 : s₁.heap.objs.size ≠ i1 := let ⟨_, e, _⟩ := h1; lt e
        have n2 : s₁.heap.objs.size ≠ i2 := let ⟨_, e, _⟩ := h2; lt e
        rcases hz with ⟨hz, a, b, hTO⟩ | ⟨T, f, oT, hz, hT, r1, r2, r3, r4⟩
        · refine wpAny_pyNext_zip_item D hz hTI hTO h1 h2 hl1 hl2 ex ey fun h' a1 a2 a3 a4 a5 a6 hk => ?_
          exact hQ _ _ h' s₁.toks ⟨ex, ey⟩ a5
            ⟨hne, hk _ _ D.TIz D.TITO D.TIi1 D.TIi2 hTI, a3, a4, hl1.at fun o e => hk _ o D.l1z D.l1TO D.l1i1 D.l1i2 e, hl2.at fun o e => hk _ o D.l2z D.l2TO D.l2i1 D.l2i2 e,
              .inr ⟨s₁.heap.objs.size, false, _, a1, a5, lt hz, n1, n2, Nat.ne_of_gt hds⟩⟩
            fun c o hc e => hk c o (fun x => hc (by simp [x])) (fun x => hc (by simp [x])) (fun x => hc (by simp [x])) (fun x => hc (by simp [x])) e
        · refine wpAny_pyNext_zip_item_held D hz hT hTI h1 h2 hl1 hl2 ex ey fun h' a1 a3 a4 a5 a6 hk => ?_
          exact hQ _ _ h' s₁.toks ⟨ex, ey⟩ a5
            ⟨hne, hk _ _ D.TIz D.TIi1 D.TIi2 hTI, a3, a4, hl1.at fun o e => hk _ o D.l1z D.l1i1 D.l1i2 e, hl2.at fun o e => hk _ o D.l2z D.l2i1 D.l2i2 e,
              .inr ⟨T, true, oT, a1, hk _ _ r1 r2 r3 hT, r1, r2, r3, r4⟩⟩
            fun c o hc e => hk c o (fun x => hc (by simp [x])) (fun x => hc (by simp [x])) (fun x => hc (by simp [x])) e
      done := fun s₁ Q₁ E₁ st hQ => by
        obtain ⟨hne, hTI, h1, h2, hl1, hl2, hz⟩ := st
        have hend : xs[min xs.size ys.size]? = none ∨ ys[min xs.size ys.size]? = none := by
          rcases Nat.le_total xs.size ys.size with h | h
          · exact .inl (Array.getElem?_eq_none (by rw [Nat.min_eq_left h]; exact Nat.le_refl _))
          · exact .inr (Array.getElem?_eq_none (by rw [Nat.min_eq_right h]; exact Nat.le_refl _))
        rcases hz with ⟨hz, a, b, hTO⟩ | ⟨T, f, oT, hz, hT, r1, r2, r3, r4⟩
        · exact wpAny_pyNext_zip_end hA D hz hTI hTO h1 h2 hl1 hl2 hend fun h' hk => hQ h' s₁.toks fun c o hc e => hk c o (fun x => hc (by simp [x])) (fun x => hc (by simp [x])) (fun x => hc (by simp [x])) (fun x => hc (by simp [x])) e
        · exact wpAny_pyNext_zip_end_held hA D hz hT hTI h1 h2 hl1 hl2 hend fun h' hk => hQ h' s₁.toks fun c o hc e => hk c o (fun x => hc (by simp [x])) (fun x => hc (by simp [x])) (fun x => hc (by simp [x])) e }
    · obtain ⟨hz, hTI, ⟨a, b, hTO⟩, h1, h2, hl1, hl2⟩ := ok
      have lt : ∀ {c o}, h.get? c = some o → c ≠ S := fun e => by rw [eS]; exact Nat.ne_of_lt (Heap.lt_size e)
      exact ⟨⟨lt hTI, (let ⟨_, x, _⟩ := hl1; lt x), (let ⟨_, x, _⟩ := hl2; lt x)⟩, k _ _ hTI, h1.at fun o x => k _ o x, h2.at fun o x => k _ o x, hl1.at fun o x => k _ o x, hl2.at fun o x => k _ o x, .inl ⟨k _ _ hz, a, b, k _ _ hTO⟩⟩

/-- the tuples tracked at their addresses -/
def putT : Hp → List Addr → List (V × V) → Hp
  | H, a :: as, p :: kvs => putT (upd H a (.tup [p.1, p.2])) as kvs
  | H, _, _ => H
theorem putT_off {b : Addr} : ∀ (as : List Addr) (kvs : List (V × V)) (H : Hp), b ∉ as → putT H as kvs b = H b
  | [], _, _, _ => rfl
  | _ :: _, [], _, _ => rfl
  | a :: as, p :: kvs, H, h => by
    show putT (upd H a (.tup [p.1, p.2])) as kvs b = H b
    rw [putT_off as kvs _ (fun z => h (List.mem_cons_of_mem _ z)), upd_ne (fun z => h (by rw [z]; exact List.mem_cons_self))]
theorem putT_at : ∀ (as : List Addr) (kvs : List (V × V)) (H : Hp), as.length = kvs.length → as.Nodup → Paired (fun (t : Addr) (p : V × V) => putT H as kvs t = some (.tup [p.1, p.2])) as kvs
  | [], [], _, _, _ => .nil
  | [], _ :: _, _, h, _ => by cases h
  | _ :: _, [], _, h, _ => by cases h
  | a :: as, p :: kvs, H, h, hn => by
    have hn' := List.nodup_cons.mp hn
    have ih := putT_at as kvs (upd H a (.tup [p.1, p.2])) (Nat.succ.inj h) hn'.2
    refine .cons ?_ ih
    show putT (upd H a (.tup [p.1, p.2])) as kvs a = some (.tup [p.1, p.2])
    rw [putT_off as kvs _ hn'.1, upd_same]
/-- what a new list of new pairs is -/
def NewPs (H H' : Hp) (p : Addr) (ts : List Addr) (kvs : List (V × V)) : Prop :=
  (∀ b o, H b = some o → H' b = some o) ∧ H p = none ∧ (∀ t ∈ ts, H t = none) ∧ p ∉ ts ∧ H' p = some (.lst (ts.map V.ref)) ∧ Paired (fun (t : Addr) (q : V × V) => H' t = some (.tup [q.1, q.2])) ts kvs
section
variable {X : Cx}
theorem laid {pins : List (Addr × Obj)} {σ : L2.St} {H : Hp} {s : Shared} {h' : Heap} {tk : Nat} {kvs : List (V × V)} {Rel : Nat → Value → Value → Prop} {S : Addr} {acc : Array Value} {c : Nat} {as : List Addr} (I : Inv X pins σ H s) (hz : kvs.length ≤ sizeLine)
    (kv : ∀ i k v, Rel i k v → i < kvs.length → ∃ p, kvs[i]? = some p ∧ RelV p.1 k ∧ RelV p.2 v) (hk : ∀ b o, s.heap.get? b = some o → h'.get? b = some o) (hSl : s.heap.objs.size ≤ S)
    (hS : h'.get? S = some { cls := .type "list", dict := none, data := .seq acc c, slots := #[] }) (hl : as.length = kvs.length) (hG : TG Rel S h' as) (hacc : acc.toList = as.map Value.ref) :
    ∃ H' : Hp, NewPs H H' S as kvs ∧ Inv X pins σ H' { s with heap := h', toks := tk } := by
  have hSn : S ∉ as := fun z => Nat.lt_irrefl _ (hG.above _ z)
  have nd : as.Nodup := List.Pairwise.imp (fun {a b} (h : a < b) => Nat.ne_of_lt h) hG.rise
  have new : ∀ t ∈ as, H t = none := fun t ht => I.hok.fresh (Nat.le_trans hSl (Nat.le_of_lt (hG.above t ht)))
  have newS : H S = none := I.hok.fresh hSl
  have atP := putT_at as kvs (upd H S (.lst (as.map V.ref))) hl nd
  have off : ∀ b, b ∉ as → b ≠ S → putT (upd H S (.lst (as.map V.ref))) as kvs b = H b := fun b h1 h2 => by rw [putT_off as kvs _ h1, upd_ne h2]
  have low : ∀ b o, s.heap.get? b = some o → b ∉ as ∧ b ≠ S := fun b o e =>
    ⟨fun z => absurd (Heap.lt_size e) (Nat.not_lt.mpr (Nat.le_trans hSl (Nat.le_of_lt (hG.above b z)))), fun z => absurd (Heap.lt_size e) (Nat.not_lt.mpr (by rw [z]; exact hSl))⟩
  have kp : ∀ b u, H b = some u → (putT (upd H S (.lst (as.map V.ref))) as kvs) b = some u := fun b u e => by
    rw [off b (fun z => by rw [new b z] at e; cases e) (fun z => by rw [z, newS] at e; cases e)]
    exact e
  have eS : putT (upd H S (.lst (as.map V.ref))) as kvs S = some (.lst (as.map V.ref)) := by rw [putT_off as kvs _ hSn, upd_same]
  refine ⟨putT (upd H S (.lst (as.map V.ref))) as kvs, ⟨kp, newS, new, hSn, eS, atP⟩, ?_⟩
  refine I.call' (ch := []) rfl ⟨fun b o q _ _ _ => hk b o q, fun b o q _ _ _ => ⟨o.slots, hk b o q⟩, fun b o q n _ => ?_, fun b o q _ => ⟨o, hk b o q⟩, fun b xs q => kp b _ q, fun b o u q => kp b _ q, fun b ps q => ⟨#[], by rw [kp b _ q]; simp⟩⟩ (fun b u q => ?_) I.bare fun b z => by simp at z
  · obtain ⟨z1, z2⟩ := low b o q
    rw [off b z1 z2]
    exact n
  · by_cases hb : b ∈ as
    · obtain ⟨j, pk, e1, e2, e3⟩ := LiI.paired_ix atP hb
      rw [e3] at q
      cases q
      obtain ⟨k, v, f1, f2⟩ := hG.pairs j b e1
      obtain ⟨p, g1, g2, g3⟩ := kv j k v f1 (List.getElem?_eq_some_iff.mp e2).1
      rw [e2] at g1
      cases g1
      exact ⟨by show 2 ≤ sizeLine; decide, [k, v], .cons g2 (.cons g3 .nil), ⟨_, f2, rfl, _, rfl⟩⟩
    · by_cases hb2 : b = S
      · rw [hb2] at q ⊢
        rw [eS] at q
        cases q
        refine ⟨by rw [List.length_map]; omega, acc.toList, c, by rw [hacc]; exact LiI.vals_refs as, ?_⟩
        rw [Array.toArray_toList]
        exact hS
      · rw [off b hb hb2] at q
        exact (I.hok b u q).stay (fun d v _ y => hk d v y) (fun d y => kp d _ y) fun d xs y => kp d _ y
theorem vals_getL : ∀ {xs : List V} {us : List Value}, Vals xs us → ∀ {i : Nat} {u : Value}, us[i]? = some u → ∃ x, xs[i]? = some x ∧ RelV x u
  | _, _, .nil, i, u, h => by cases h
  | _, _, .cons r t, 0, u, h => by
    have e := Option.some.inj h
    subst e
    exact ⟨_, rfl, r⟩
  | _, _, .cons r t, i + 1, u, h => vals_getL t (i := i) h
/-- the items numbered -/
def numV : Nat → List V → List (V × V)
  | _, [] => []
  | k, x :: xs => (.int k, x) :: numV (k + 1) xs
theorem numV_len : ∀ (xs : List V) (k : Nat), (numV k xs).length = xs.length
  | [], _ => rfl
  | _ :: xs, k => congrArg (· + 1) (numV_len xs (k + 1))
theorem numV_get : ∀ (xs : List V) (k i : Nat) {x : V}, xs[i]? = some x → (numV k xs)[i]? = some (.int ((k + i : Nat) : Int), x)
  | _ :: _, k, 0, x, e => by simp at e; subst e; rfl
  | _ :: xs, k, i + 1, x, e => by
    have h := numV_get xs (k + 1) i (x := x) (by simpa using e)
    have e2 : k + 1 + i = k + (i + 1) := by omega
    rw [e2] at h
    simpa [numV] using h
def tListEnum (K : PySem.W.Frag) (ta : TA) : TE := fun σ H Q => ta σ H fun vs H1 => ∃ a xs, vs = [.ref a] ∧ SqL K H1 a xs ∧ ∀ H' p ts, NewPs H1 H' p ts (numV 0 xs) → Q (.ref p) H'
def tListZip (K : PySem.W.Frag) (ta : TA) : TE := fun σ H Q => ta σ H fun vs H1 => ∃ a b xs ys, vs = [.ref a, .ref b] ∧ SqL K H1 a xs ∧ SqL K H1 b ys ∧ ∀ H' p ts, NewPs H1 H' p ts (xs.zip ys) → Q (.ref p) H'
theorem pe_listEnum {e : Expr} {ta : TA} {p p2 pos pos2 : Pos} (hc : X.calm = true) (hg : Gl X "list") (hm : X.mg "list" = none) (hv : bootBuiltins "list" = some (.type "list")) (hg2 : Gl X "enumerate") (hm2 : X.mg "enumerate" = none) (ha : PA X [e] ta)
    (hs2 : starEach [e] X.env = [(false, eval e X.env)] := by rfl)
    (hs : starEach [.Call (.Name "enumerate" p2) [e] [] pos2] X.env = (false, eval (.Call (.Name "enumerate" p2) [e] [] pos2) X.env) :: starEach [] X.env := by rfl) :
    PE X (.Call (.Name "list" p) [.Call (.Name "enumerate" p2) [e] [] pos2] [] pos) (tListEnum X.K ta) := by
  refine ⟨fun pins s σ H Q I hq => ?_⟩
  refine wpAny_Call_Name_kw (ld_blt I hg hm hv ?_)
  refine PyProof.Rows.callWith_type1 ?_ hs rfl
  rw [hs]
  show wpAny _ _ (spliced ((false, eval (.Call (.Name "enumerate" p2) [e] [] pos2) X.env) :: backTo pos (starEach [] X.env))) _ _ s
  refine Calls.spliced_cons ?_
  refine Call_ (ld_blt I hg2 hm2 boot_enumerate (PyProof.Rows.callWith_type1 (thn (ha.run pos2 pins s σ H _ I hq) fun us s1 ⟨vs, H1, I1, r1, a, xs, ex, hx, q⟩ => ?_) hs2 rfl))
  subst ex
  cases r1 with
  | cons r rr =>
    cases rr
    cases r
    obtain ⟨its, rv, p', hz⟩ := I1.list hx
    have la : a < s1.heap.objs.size := p'.lt
    refine call_enumerate_list p'.isList fun h' he hit hsz hk => ?_
    refine Calls.spliced_nil ?_
    have hl := rv.length
    refine call_list (s := { s1 with heap := h' }) (enum_arg (s1.heap.objs.size + 1) s1.heap.objs.size a (Nat.succ_ne_self _) (Nat.ne_of_lt (Nat.lt_succ_of_lt la)) (Nat.ne_of_lt la) its.toArray) (I1.ok.hd hc)
      ⟨⟨_, he⟩, hit, p'.isList.at fun o e => hk _ o e⟩ (by simp only [List.size_toArray]; omega) fun h2 tk acc c as k2 hS hl2 hG hacc => ?_
    have hsz' : s1.heap.objs.size ≤ h'.objs.size := by rw [hsz]; omega
    have kk : ∀ b o, s1.heap.get? b = some o → h2.get? b = some o := fun b o e => k2 b o (fun z => by
      have lb := Heap.lt_size e
      have e' : b = s1.heap.objs.size + 1 ∨ b = s1.heap.objs.size := by simpa using z
      rcases e' with z | z <;> (rw [z] at lb; first | exact absurd lb (Nat.lt_irrefl _) | exact absurd lb (Nat.not_lt.mpr (Nat.le_add_right _ _)))) (hk b o e)
    obtain ⟨H', J1, J2⟩ := laid (tk := tk) (kvs := numV 0 xs) I1 (by rw [numV_len]; exact hz) (fun i k v hr hi => by
      obtain ⟨⟨t, rfl⟩, hv⟩ := hr
      obtain ⟨x, e1, e2⟩ := vals_getL rv (i := i) (u := v) (by simpa using hv)
      refine ⟨(.int (i : Nat), x), ?_, ⟨t, rfl⟩, e2⟩
      have h3 := numV_get xs 0 i e1
      rw [Nat.zero_add] at h3
      exact h3) kk hsz' hS (by rw [numV_len, hl2, List.size_toArray, hl]) hG hacc
    exact ⟨.ref _, H', J2, rfl, q H' _ as J1⟩
theorem pe_listZip {e e2 : Expr} {ta : TA} {p p2 pos pos2 : Pos} (hc : X.calm = true) (hg : Gl X "list") (hm : X.mg "list" = none) (hv : bootBuiltins "list" = some (.type "list")) (hg2 : Gl X "zip") (hm2 : X.mg "zip" = none) (ha : PA X [e, e2] ta)
    (hs2 : starEach [e, e2] X.env = (false, eval e X.env) :: starEach [e2] X.env := by rfl) (hpl : (backTo pos2 (starEach [e2] X.env)).any (·.1) = false := by rfl)
    (hs : starEach [.Call (.Name "zip" p2) [e, e2] [] pos2] X.env = (false, eval (.Call (.Name "zip" p2) [e, e2] [] pos2) X.env) :: starEach [] X.env := by rfl) :
    PE X (.Call (.Name "list" p) [.Call (.Name "zip" p2) [e, e2] [] pos2] [] pos) (tListZip X.K ta) := by
  refine ⟨fun pins s σ H Q I hq => ?_⟩
  refine wpAny_Call_Name_kw (ld_blt I hg hm hv ?_)
  refine PyProof.Rows.callWith_type1 ?_ hs rfl
  rw [hs]
  show wpAny _ _ (spliced ((false, eval (.Call (.Name "zip" p2) [e, e2] [] pos2) X.env) :: backTo pos (starEach [] X.env))) _ _ s
  refine Calls.spliced_cons ?_
  refine Call_ (ld_blt I hg2 hm2 PyProof.Rows.boot_zip (PyProof.Rows.callWith_type1 (thn (ha.run pos2 pins s σ H _ I hq) fun us s1 ⟨vs, H1, I1, r1, a, b, xs, ys, ex, hx, hy, q⟩ => ?_) hs2 hpl))
  subst ex
  cases r1 with
  | cons r rr =>
    cases rr with
    | cons r' rr =>
      cases rr
      cases r
      cases r'
      obtain ⟨its, rv, p1, z1⟩ := I1.list hx
      obtain ⟨its2, rv2, p2', z2⟩ := I1.list hy
      have la : a < s1.heap.objs.size := p1.lt
      have lb : b < s1.heap.objs.size := p2'.lt
      refine call_zip_2 p1.isList p2'.isList fun h' hz hTI hTO h1 h2 hsz hk => ?_
      refine Calls.spliced_nil ?_
      have hl := rv.length
      have hl' := rv2.length
      refine call_list (s := { s1 with heap := h' }) (zip_arg _ _ _ _ _ a b (PySem.W.ktu_apart s1.heap.objs.size a b la lb) its.toArray its2.toArray) (I1.ok.hd hc)
        ⟨hz, hTI, ⟨_, _, hTO⟩, h1, h2, p1.isList.at fun o e => hk _ o e, p2'.isList.at fun o e => hk _ o e⟩ (by simp only [List.size_toArray]; omega) fun h3 tk acc c as k2 hS hl2 hG hacc => ?_
      have hsz' : s1.heap.objs.size ≤ h'.objs.size := by rw [hsz]; omega
      have kk : ∀ b o, s1.heap.get? b = some o → h3.get? b = some o := fun b o e => k2 b o (fun z => by
        have lb := Heap.lt_size e
        have e' : b = s1.heap.objs.size + 4 ∨ b = s1.heap.objs.size + 3 ∨ b = s1.heap.objs.size ∨ b = s1.heap.objs.size + 1 := by simpa using z
        rcases e' with z | z | z | z <;> (rw [z] at lb; first | exact absurd lb (Nat.lt_irrefl _) | exact absurd lb (Nat.not_lt.mpr (Nat.le_add_right _ _)))) (hk b o e)
      obtain ⟨H', J1, J2⟩ := laid (tk := tk) (kvs := xs.zip ys) I1 (by rw [List.length_zip]; omega) (fun i k v hr hi => by
        obtain ⟨e1, e2⟩ := hr
        obtain ⟨x, f1, f2⟩ := vals_getL rv (i := i) (u := k) (by simpa using e1)
        obtain ⟨y, g1, g2⟩ := vals_getL rv2 (i := i) (u := v) (by simpa using e2)
        exact ⟨(x, y), by rw [List.getElem?_zip_eq_some]; exact ⟨f1, g1⟩, f2, g2⟩) kk hsz' hS (by rw [List.length_zip, hl2, List.size_toArray, List.size_toArray, hl, hl']) hG hacc
      exact ⟨.ref _, H', J2, rfl, q H' _ as J1⟩
end
end LZ

namespace L2.VW
open PySem PySem.Spec PyProof.Rows
section
variable {K : PySem.W.Frag} {F0 F : Hp} {S : Sto} {H H' : Hp}
/-- new objects that never change -/
def extF (F H H' : Hp) : Hp := fun b => match F b with | some u => some u | none => match H b with | some _ => none | none => H' b
theorem RelH.more (r : RelH K F0 F S H) (k : ∀ b o, H b = some o → H' b = some o) : Same F (extF F H H') ∧ RelH K F0 (extF F H H') S H' ∧ ∀ b, H b = none → extF F H H' b = H' b := by
  have s : Same F (extF F H H') := fun b u e => by simp only [extF, e]
  refine ⟨s, ⟨r.s0.trans s, fun b u e => ?_, fun a o e => ?_⟩, fun b e => ?_⟩
  · unfold extF at e
    cases hF : F b with
    | some u' => rw [hF] at e; cases e; exact k b _ (r.fr _ _ hF)
    | none =>
      rw [hF] at e
      cases hH : H b with
      | some _ => rw [hH] at e; cases e
      | none => rw [hH] at e; exact e
  · obtain ⟨h1, ho, h2, h3⟩ := r.tr a o e
    exact ⟨by simp only [extF, h1, h2], ho, k _ _ h2, h3.mono s⟩
  · simp only [extF, (r.free e).1, e]
def numD : Nat → List D → List D
  | _, [] => []
  | k, x :: xs => .tup [.int k, x] :: numD (k + 1) xs
def zipD : List D → List D → List D
  | x :: xs, y :: ys => .tup [x, y] :: zipD xs ys
  | _, _ => []
theorem vd_pairs {ts : List Addr} : ∀ {kvs : List (V × V)} {ds : List D}, Paired (fun (t : Addr) (q : V × V) => F t = some (.tup [q.1, q.2])) ts kvs → Paired (fun (q : V × V) (d : D) => ∃ x y, d = .tup [x, y] ∧ Vd K F q.1 x ∧ Vd K F q.2 y) kvs ds → VdAll K F (ts.map V.ref) ds := by
  intro kvs ds h1
  induction h1 generalizing ds with
  | nil => intro h2; cases h2; exact .nil
  | cons a t ih => intro h2; cases h2 with | cons b u => obtain ⟨x, y, rfl, v1, v2⟩ := b; exact .cons (.tup a (.cons v1 (.cons v2 .nil))) (ih u)
theorem num_rel : ∀ {xs : List V} {ds : List D} (k : Nat), VdAll K F xs ds → Paired (fun (q : V × V) (d : D) => ∃ x y, d = .tup [x, y] ∧ Vd K F q.1 x ∧ Vd K F q.2 y) (LZ.numV k xs) (numD k ds)
  | _, _, _, .nil => .nil
  | _, _, k, .cons a t => .cons ⟨_, _, rfl, .int _, a⟩ (num_rel (k + 1) t)
theorem zip_rel : ∀ {xs ys : List V} {ds es : List D}, VdAll K F xs ds → VdAll K F ys es → Paired (fun (q : V × V) (d : D) => ∃ x y, d = .tup [x, y] ∧ Vd K F q.1 x ∧ Vd K F q.2 y) (xs.zip ys) (zipD ds es)
  | _, _, _, _, .nil, _ => .nil
  | _, _, _, _, .cons _ _, .nil => .nil
  | _, _, _, _, .cons a t, .cons b u => .cons ⟨_, _, rfl, a, b⟩ (zip_rel t u)
theorem pq_mono {F' : Hp} (s : Same F F') : ∀ {kvs : List (V × V)} {ds : List D}, Paired (fun (q : V × V) (d : D) => ∃ x y, d = .tup [x, y] ∧ Vd K F q.1 x ∧ Vd K F q.2 y) kvs ds → Paired (fun (q : V × V) (d : D) => ∃ x y, d = .tup [x, y] ∧ Vd K F' q.1 x ∧ Vd K F' q.2 y) kvs ds
  | _, _, .nil => .nil
  | _, _, .cons ⟨x, y, e, v1, v2⟩ t => .cons ⟨x, y, e, v1.mono s, v2.mono s⟩ (pq_mono s t)
theorem newPs_at {p : Addr} {ts : List Addr} {kvs : List (V × V)} {ds : List D} (r : RelH K F0 F S H) (n : LZ.NewPs H H' p ts kvs) (v : Paired (fun (q : V × V) (d : D) => ∃ x y, d = .tup [x, y] ∧ Vd K F q.1 x ∧ Vd K F q.2 y) kvs ds) :
    ∃ F', Same F F' ∧ RelH K F0 F' S H' ∧ Vd K F' (.ref p) (.lst ds) := by
  obtain ⟨n1, n2, n3, n4, n5, n6⟩ := n
  obtain ⟨s, r', at'⟩ := r.more n1
  refine ⟨_, s, r', .lst (by rw [at' p n2]; exact n5) (vd_pairs (kvs := kvs) ?_ (pq_mono s v))⟩
  clear n5 v
  induction n6 with
  | nil => exact .nil
  | cons a t ih => exact .cons (by rw [at' _ (n3 _ List.mem_cons_self)]; exact a) (ih (fun t ht => n3 t (List.mem_cons_of_mem _ ht)) fun z => n4 (List.mem_cons_of_mem _ z))
def dListEnum (da : TAD) : TED := fun env S P => da env S fun xs S1 => ∃ x ds, xs = [x] ∧ SeqL S1 x ds ∧ P (.lst (numD 0 ds)) S1
def dListZip (da : TAD) : TED := fun env S P => da env S fun xs S1 => ∃ x y ds es, xs = [x, y] ∧ SeqL S1 x ds ∧ SeqL S1 y es ∧ P (.lst (zipD ds es)) S1
instance {ta : TA} {da : TAD} [UpA K F0 ta da] : UpE K F0 (LZ.tListEnum K ta) (dListEnum da) := ⟨fun r0 h le =>
  UpA.up (t := ta) (td := da) r0 h fun xs S1 F1 H1 vs ⟨x, ds, e, hx, p⟩ s1 r1 v1 => by
    subst e
    cases v1 with
    | cons hv b =>
      cases b
      obtain ⟨a, xs, rfl, hq, hxs⟩ := hx.at r1 hv
      refine ⟨a, xs, rfl, hq, fun H' q ts hn => ?_⟩
      obtain ⟨F', s2, r2, v2⟩ := newPs_at r1 hn (num_rel 0 hxs)
      exact le _ _ _ _ _ p (s1.trans s2) r2 v2⟩
instance {ta : TA} {da : TAD} [UpA K F0 ta da] : UpE K F0 (LZ.tListZip K ta) (dListZip da) := ⟨fun r0 h le =>
  UpA.up (t := ta) (td := da) r0 h fun xs S1 F1 H1 vs ⟨x, y, ds, es, e, hx, hy, p⟩ s1 r1 v1 => by
    subst e
    cases v1 with
    | cons hv b =>
      cases b with
      | cons hw b =>
        cases b
        obtain ⟨a, xs, rfl, hq, hxs⟩ := hx.at r1 hv
        obtain ⟨b, ys, rfl, hq2, hys⟩ := hy.at r1 hw
        refine ⟨a, b, xs, ys, rfl, hq, hq2, fun H' q ts hn => ?_⟩
        obtain ⟨F', s2, r2, v2⟩ := newPs_at r1 hn (zip_rel hxs hys)
        exact le _ _ _ _ _ p (s1.trans s2) r2 v2⟩
/-- dict(..) of a list of pairs -/
def rDicPs (K : PySem.W.Frag) : List V → Hp → VK → Prop := fun xs H Q => ∃ (a : Addr) (ps : List Addr) (kvs : List (Key × V)), xs = [.ref a] ∧ SqL K H a (ps.map V.ref) ∧ Paired (fun p kv => SqT K H p [kV kv.1, kv.2]) ps kvs ∧
    ∀ p, H p = none → Q (.ref p) (upd H p (.dK (mergeK [] kvs)))
theorem call_dicPs {X : Cx} (hc : X.calm = true) : CallR X (.type "dict") (rDicPs X.K) := call_dictP hc
theorem pairs_at (r : RelH K F0 F S H) : ∀ {kds : List (Key × D)} {xs : List V}, VdAll K F xs (kds.map fun kd => .tup [kD kd.1, kd.2]) →
    ∃ (ps : List Addr) (kvs : List (Key × V)), xs = ps.map V.ref ∧ Paired (fun p kv => SqT K H p [kV kv.1, kv.2]) ps kvs ∧ KP K F kvs kds
  | [], _, h => by cases h; exact ⟨[], [], rfl, .nil, .nil⟩
  | kd :: kds, _, h => by
    cases h with
    | cons a t =>
      obtain ⟨ps, kvs, rfl, h1, h2⟩ := pairs_at r t
      obtain ⟨b, xs, rfl, hq, hxs⟩ := tup_at r a
      cases hxs with
      | cons vk u =>
        cases u with
        | cons vv u =>
          cases u
          have ek := vd_key vk
          subst ek
          exact ⟨b :: ps, (kd.1, _) :: kvs, rfl, .cons hq h1, .cons ⟨rfl, vv⟩ h2⟩
def dDicPs : List D → Sto → PV → Prop := fun xs S P => ∃ x kds, xs = [x] ∧ SeqL S x (kds.map fun kd => .tup [kD kd.1, kd.2]) ∧ ∀ p, S p = none → P (.ref p) (sup S p (.dK (mergeD [] kds)))
instance : UpC K F0 (rDicPs K) dDicPs := ⟨fun r hv ⟨x, kds, e, h, p⟩ le => by
  subst e
  cases hv with
  | cons hv b =>
    cases b
    obtain ⟨a, xs, rfl, hq, hxs⟩ := h.at r hv
    obtain ⟨ps, kvs, rfl, h1, h2⟩ := pairs_at r hxs
    have kp := KP.merge (kvs := []) (kds := []) .nil h2
    exact ⟨a, ps, kvs, rfl, hq, h1, fun q hq => le _ _ _ _ _ (p q (r.free hq).2) (Same.refl _) (r.new hq (.dK kp.keys kp.vals)) (.ref q)⟩⟩
/-- pairs whose keys are apart -/
theorem mergeD_apart : ∀ (more kds : List (Key × D)), (kds ++ more).Pairwise (fun p q => p.1 ≠ q.1) → mergeD kds more = kds ++ more
  | [], kds, _ => by simp [mergeD]
  | p :: more, kds, h => by
    have e : putD kds p.1 p.2 = kds ++ [p] := by
      unfold putD
      rw [if_neg]
      intro c
      obtain ⟨q, hq, e⟩ := List.any_eq_true.mp c
      exact (List.pairwise_append.mp h).2.2 q hq p List.mem_cons_self (of_decide_eq_true e)
    show mergeD (putD kds p.1 p.2) more = _
    rw [e, mergeD_apart more (kds ++ [p]) (by rw [List.append_assoc]; exact h), List.append_assoc]
    rfl
theorem numD_map : ∀ (ds : List D) (k : Nat), numD k ds = ((ds.zipIdx k).map fun q => ((.inl (q.2 : Nat) : Key), q.1)).map fun kd => .tup [kD kd.1, kd.2]
  | [], _ => rfl
  | x :: xs, k => by rw [numD, numD_map xs (k + 1)]; rfl
/-- a comprehension over a range whose turns draw from the pool at q -/
theorem lcD_drawnR {w : WD} {gd : TGD} {ttd : TTD} {ed : TED} {vs : List Nat} {env : EnvD} {S1 : Sto} {P : PV} {q : Addr} (xs : List D) (Inv : Nat → List D → Prop) (hn : w.n = xs.length) (hi : ∀ i d, i < w.n → w.item i d → xs[i]? = some d) (hq : PoolS S1 q)
    (hok : ∀ L acc S, S1 L = none → (∀ a o, S1 a = some o → a ≠ q → S a = some o) → w.ok (sup S L (.lst acc))) (h0 : Inv 0 []) (hl : ∀ i acc, Inv i acc → acc.length < sizeLine)
    (ht : ∀ (i : Nat) (d : D) (acc : List D) (S : Sto) (Zy : D → Sto → Prop) (Zn : Sto → Prop), xs[i]? = some d → Inv i acc → PoolS S q → (∀ a o, S1 a = some o → a ≠ q → S a = some o) →
      (∀ y S', Drawn S q S' → Inv (i + 1) (acc ++ [y]) → Zy y S') → (∀ S', Drawn S q S' → Inv (i + 1) acc → Zn S') →
      gd d (wipeD env vs) S fun env2 S2 => ttd env2 S2 fun b S3 => if b = true then ed env2 S3 Zy else Zn S3)
    (hp : ∀ acc S', Inv xs.length acc → Drawn S1 q S' → P (.lst acc) S') :
    LcD w gd ttd ed vs env P S1 := ⟨fun L hL => by
  have nL := hq.ne hL
  refine ⟨fun i acc S => Inv i acc ∧ ∃ S', S = sup S' L (.lst acc) ∧ Drawn S1 q S', ⟨h0, S1, rfl, .refl hq⟩, fun i acc S _ ⟨_, S', e, d⟩ => ?_, fun i x acc S hlt hit ⟨iv, S', e, d⟩ => ?_, fun acc S ⟨iv, S', e, d⟩ => ?_⟩
  · subst e
    exact ⟨sup_same, hok L _ _ hL fun a o e n => d.at e n⟩
  · subst e
    refine ht i x acc _ _ _ (hi i x hlt hit) iv (d.pool.over nL) (fun a o e n => by rw [sup_ne (sne_of e hL)]; exact d.at e n) (fun y S2 d2 iv2 => ?_) (fun S2 d2 iv2 => ?_)
    · obtain ⟨S3, rfl, d3⟩ := d2.under nL
      exact ⟨sup_same, hl i acc iv, iv2, S3, by rw [sup_sup], d.trans d3⟩
    · obtain ⟨S3, rfl, d3⟩ := d2.under nL
      exact ⟨iv2, S3, rfl, d.trans d3⟩
  · subst e
    rw [sdel_sup (d.gone hL nL)]
    rw [hn] at iv
    exact hp acc S' iv d⟩
/-! ### which slots a target stores to, by instances -/
end
end L2.VW

/-! ## repr of data with dicts -/
namespace RQ
open PySem PySem.Spec PyProof.Rows L2
open Sem (wp)
mutual
/-- a value that reads as a datum; its dicts are none of the machine's own -/
inductive NS (h : Heap) : Value → PyData → Prop
  | none : NS h .none .none
  | bool (b : Bool) : NS h (.bool b) (.bool b)
  | int (i : Int) (t : Tok) : NS h (.int i t) (.int i)
  | str (x : Str) (t : Tok) : NS h (.str x t) (.str x)
  | list {a : Addr} {o : Obj} {vs : Array Value} {n : Nat} {xs : List PyData} : h.get? a = some o → o.cls = .type "list" → o.data = .seq vs n → NSAll h vs.toList xs → NS h (.ref a) (.list xs)
  | tuple {a : Addr} {o : Obj} {vs : Array Value} {n : Nat} {xs : List PyData} : h.get? a = some o → o.cls = .type "tuple" → o.data = .seq vs n → NSAll h vs.toList xs → NS h (.ref a) (.tuple xs)
  | dict {a : Addr} {o : Obj} {es : Array DictEntry} {n : Nat} {kvs : List (PyData × PyData)} : h.get? a = some o → o.cls = .type "dict" → o.data = .dict es n → NSAll h (es.toList.map (·.key)) (kvs.map (·.1)) →
      NSAll h (es.toList.map (·.val)) (kvs.map (·.2)) → (a == sysModules) = false → NS h (.ref a) (.dict kvs)
inductive NSAll (h : Heap) : List Value → List PyData → Prop
  | nil : NSAll h [] []
  | cons {v : Value} {vs : List Value} {d : PyData} {ds : List PyData} : NS h v d → NSAll h vs ds → NSAll h (v :: vs) (d :: ds)
end
mutual
theorem NS.reads {h : Heap} : ∀ {v : Value} {d : PyData}, NS h v d → ∃ as, Reads h v d as
  | _, _, .none => ⟨_, .none⟩
  | _, _, .bool b => ⟨_, .bool b⟩
  | _, _, .int i t => ⟨_, .int i t⟩
  | _, _, .str x t => ⟨_, .str x t⟩
  | _, _, .list h1 h2 h3 h4 => let ⟨_, r⟩ := NSAll.reads h4; ⟨_, .list h1 h2 h3 r⟩
  | _, _, .tuple h1 h2 h3 h4 => let ⟨_, r⟩ := NSAll.reads h4; ⟨_, .tuple h1 h2 h3 r⟩
  | _, _, .dict h1 h2 h3 h4 h5 _ => let ⟨_, r⟩ := NSAll.reads h4; let ⟨_, q⟩ := NSAll.reads h5; ⟨_, .dict h1 h2 h3 r q⟩
theorem NSAll.reads {h : Heap} : ∀ {vs : List Value} {ds : List PyData}, NSAll h vs ds → ∃ as, ReadsAll h vs ds as
  | _, _, .nil => ⟨_, .nil⟩
  | _, _, .cons a t => let ⟨_, r⟩ := NS.reads a; let ⟨_, q⟩ := NSAll.reads t; ⟨_, .cons r q⟩
end
section
variable {prog : Program} {w : World} {h₀ : Heap}
mutual
theorem NS.repr : ∀ {v : Value} {d : PyData}, NS h₀ v d → d.showable = true → d.shown.length ≤ sizeLine → ∃ bs, ReadAtMost h₀ d.depth bs ∧ ReprK prog w bs h₀ d.depth v d.shown
  | _, _, .none, _, _ => ⟨[], (fun _ h => nomatch h), by simp only [PyData.shown]; exact .of_is ReprIs.none _ _ _⟩
  | _, _, .bool b, _, _ => ⟨[], (fun _ h => nomatch h), by simp only [PyData.shown]; exact .of_is (ReprIs.bool b) _ _ _⟩
  | _, _, .int i t, hs, _ => ⟨[], (fun _ h => nomatch h), by simp only [PyData.shown]; exact .of_is (ReprIs.int t (by simpa [PyData.showable] using hs)) _ _ _⟩
  | _, _, .str x t, _, hz => ⟨[], (fun _ h => nomatch h), by simp only [PyData.shown]; exact .of_is (ReprIs.str x t (by simpa only [PyData.shown] using hz)) _ _ _⟩
  | _, _, .list (a := a) (vs := vs) (xs := xs) h1 h2 h3 h4, hs, hz => by
    have hz' : (listText (PyData.shownAll xs)).length ≤ sizeLine := by simpa only [PyData.shown] using hz
    obtain ⟨bs, hb, hk⟩ := NSAll.repr h4 (by simpa [PyData.showable] using hs) (fun t ht => Nat.le_trans (listText_mem_le ht) hz')
    obtain ⟨_, r4⟩ := h4.reads
    have r : Reads h₀ (.ref a) (.list xs) _ := .list h1 h2 h3 r4
    have hna : a ∉ bs := not_mem_of_deeper r (by simp only [PyData.depth]; omega) hb
    refine ⟨a :: bs, ReadAtMost.cons r (by simp only [PyData.depth]; omega) hb, ?_⟩
    simp only [PyData.depth, PyData.shown]
    obtain ⟨l⟩ := vs
    cases l with
    | nil =>
      have h4' : NSAll h₀ [] xs := h4
      cases h4'
      simp only [PyData.shownAll, listText_nil]
      exact ReprK.listEmpty h1 h2 h3
    | cons x l => exact ReprK.list h1 h2 h3 hna (by simpa using hk.length_eq) (fun i y e => hk.item i y (by simpa using e))
  | _, _, .tuple (a := a) (xs := xs) h1 h2 h3 h4, hs, hz => by
    have hz' : (tupleText (PyData.shownAll xs)).length ≤ sizeLine := by simpa only [PyData.shown] using hz
    obtain ⟨bs, hb, hk⟩ := NSAll.repr h4 (by simpa [PyData.showable] using hs) (fun t ht => Nat.le_trans (tupleText_mem_le ht) hz')
    obtain ⟨_, r4⟩ := h4.reads
    have r : Reads h₀ (.ref a) (.tuple xs) _ := .tuple h1 h2 h3 r4
    have hna : a ∉ bs := not_mem_of_deeper r (by simp only [PyData.depth]; omega) hb
    refine ⟨a :: bs, ReadAtMost.cons r (by simp only [PyData.depth]; omega) hb, ?_⟩
    simp only [PyData.depth, PyData.shown]
    exact ReprK.tuple h1 h2 h3 hna hk
  | _, _, .dict (a := a) (es := es) (kvs := kvs) h1 h2 h3 h4 h5 hsys, hs, hz => by
    have hz' : (dictText (PyData.shownKv kvs)).length ≤ sizeLine := by simpa only [PyData.shown] using hz
    obtain ⟨hs1, hs2⟩ := PyData.showableKv_split kvs (by simpa [PyData.showable] using hs)
    obtain ⟨b1, hb1, k1⟩ := NSAll.repr h4 hs1 (fun t ht => let ⟨p, hp, hl⟩ := PyData.shownKv_key_le kvs t ht; Nat.le_trans hl (Nat.le_trans (dictText_mem_le hp) hz'))
    obtain ⟨b2, hb2, k2⟩ := NSAll.repr h5 hs2 (fun t ht => let ⟨p, hp, hl⟩ := PyData.shownKv_val_le kvs t ht; Nat.le_trans hl (Nat.le_trans (dictText_mem_le hp) hz'))
    obtain ⟨_, r4⟩ := h4.reads
    obtain ⟨_, r5⟩ := h5.reads
    have r : Reads h₀ (.ref a) (.dict kvs) _ := .dict h1 h2 h3 r4 r5
    have hb : ReadAtMost h₀ (PyData.depthKv kvs) (b1 ++ b2) := (hb1.mono (PyData.depthAll_keys_le kvs)).append (hb2.mono (PyData.depthAll_vals_le kvs))
    have hna : a ∉ b1 ++ b2 := not_mem_of_deeper r (by simp only [PyData.depth]; omega) hb
    refine ⟨a :: (b1 ++ b2), ReadAtMost.cons r (by simp only [PyData.depth]; omega) hb, ?_⟩
    simp only [PyData.depth, PyData.shown, PyData.shownKv_eq]
    exact ReprK.dict h1 h2 h3 hsys hna (ReprEntriesK.of_two es.toList _ _
      (k1.more_le (fun b hb => List.mem_append_left _ hb) (PyData.depthAll_keys_le kvs)) (k2.more_le (fun b hb => List.mem_append_right _ hb) (PyData.depthAll_vals_le kvs)))
theorem NSAll.repr : ∀ {vs : List Value} {ds : List PyData}, NSAll h₀ vs ds → PyData.showableAll ds = true → (∀ t ∈ PyData.shownAll ds, t.length ≤ sizeLine) →
    ∃ bs, ReadAtMost h₀ (PyData.depthAll ds) bs ∧ ReprAllK prog w bs h₀ (PyData.depthAll ds) vs (PyData.shownAll ds)
  | _, _, .nil, _, _ => ⟨[], (fun _ h => nomatch h), by simp only [PyData.shownAll]; exact .nil⟩
  | _, _, .cons (d := d) (ds := ds) r rs, hs, hz => by
    have hs' : d.showable = true ∧ PyData.showableAll ds = true := by simpa [PyData.showableAll] using hs
    obtain ⟨b1, hb1, k1⟩ := NS.repr r hs'.1 (hz _ (by simp only [PyData.shownAll]; exact List.mem_cons_self ..))
    obtain ⟨b2, hb2, k2⟩ := NSAll.repr rs hs'.2 (fun t ht => hz t (by simp only [PyData.shownAll]; exact List.mem_cons_of_mem _ ht))
    refine ⟨b1 ++ b2, ?_, ?_⟩
    · intro b hm
      simp only [PyData.depthAll]
      rcases List.mem_append.mp hm with hm | hm
      · obtain ⟨d', as', r', hd'⟩ := hb1 b hm
        exact ⟨d', as', r', Nat.le_trans hd' (Nat.le_max_left _ _)⟩
      · obtain ⟨d', as', r', hd'⟩ := hb2 b hm
        exact ⟨d', as', r', Nat.le_trans hd' (Nat.le_max_right _ _)⟩
    · simp only [PyData.depthAll, PyData.shownAll]
      exact .cons ((k1.more fun b hb => List.mem_append_left _ hb).level_le (Nat.le_max_left _ _)) (k2.more_le (fun b hb => List.mem_append_right _ hb) (Nat.le_max_right _ _))
end
theorem shows_of {a : Addr} {d : PyData} (r : NS h₀ (.ref a) d) (hs : d.showable = true) (hsz : d.shown.length ≤ sizeLine) : ∃ T idr, ShowsBy prog w h₀ a d T idr := by
  cases r with
  | list h1 h2 h3 h4 =>
    rename_i o vs n xs
    have hz' : (listText (PyData.shownAll xs)).length ≤ sizeLine := by simpa only [PyData.shown] using hsz
    obtain ⟨bs, hb, hk⟩ := NSAll.repr (prog := prog) (w := w) h4 (by simpa [PyData.showable] using hs) (fun t ht => Nat.le_trans (listText_mem_le ht) hz')
    obtain ⟨_, r4⟩ := h4.reads
    have hna : a ∉ bs := not_mem_of_deeper (.list h1 h2 h3 r4) (by simp only [PyData.depth]; omega) hb
    refine ⟨"list", "list.__repr__", F.slot_list_repr.toG, F.slot_list_str, F.slot_list_format, fun s hk0 => ⟨o, hk0 _ _ h1, h2⟩, fun A E s Q hg hu hk0 hQ => ?_⟩
    simp only [PyData.depth] at hu
    simp only [PyData.shown] at hQ
    obtain ⟨l⟩ := vs
    cases l with
    | nil =>
      have h4' : NSAll h₀ [] xs := h4
      cases h4'
      simp only [PyData.shownAll, listText_nil] at hQ
      exact call_list_repr_empty ⟨o, hk0 _ _ h1, h2⟩ (hk0 _ _ h1) h3 (hQ s.heap _ _ fun _ _ e => e)
    | cons x l =>
      exact call_list_reprK h1 h2 h3 hna (by simpa using hk.length_eq) (fun i y e => hk.item i y (by simpa using e)) hg (fun b _ => Clear.nil b) hu hk0 hQ hz'
  | tuple h1 h2 h3 h4 =>
    rename_i o vs n xs
    have hz' : (tupleText (PyData.shownAll xs)).length ≤ sizeLine := by simpa only [PyData.shown] using hsz
    obtain ⟨bs, hb, hk⟩ := NSAll.repr (prog := prog) (w := w) h4 (by simpa [PyData.showable] using hs) (fun t ht => Nat.le_trans (tupleText_mem_le ht) hz')
    obtain ⟨_, r4⟩ := h4.reads
    have hna : a ∉ bs := not_mem_of_deeper (.tuple h1 h2 h3 r4) (by simp only [PyData.depth]; omega) hb
    refine ⟨"tuple", "tuple.__repr__", F.slot_tuple_repr, F.slot_tuple_str, F.slot_tuple_format, fun s hk0 => ⟨o, hk0 _ _ h1, h2⟩, fun A E s Q hg hu hk0 hQ => ?_⟩
    simp only [PyData.depth] at hu
    simp only [PyData.shown] at hQ
    exact call_tuple_reprK h1 h2 h3 hna hk hg (fun b _ => Clear.nil b) hu hk0 hQ hz'
  | dict h1 h2 h3 h4 h5 hsys =>
    rename_i o es n kvs
    have hz' : (dictText (PyData.shownKv kvs)).length ≤ sizeLine := by simpa only [PyData.shown] using hsz
    obtain ⟨hs1, hs2⟩ := PyData.showableKv_split kvs (by simpa [PyData.showable] using hs)
    obtain ⟨b1, hb1, k1⟩ := NSAll.repr (prog := prog) (w := w) h4 hs1 (fun t ht => let ⟨p, hp, hl⟩ := PyData.shownKv_key_le kvs t ht; Nat.le_trans hl (Nat.le_trans (dictText_mem_le hp) hz'))
    obtain ⟨b2, hb2, k2⟩ := NSAll.repr (prog := prog) (w := w) h5 hs2 (fun t ht => let ⟨p, hp, hl⟩ := PyData.shownKv_val_le kvs t ht; Nat.le_trans hl (Nat.le_trans (dictText_mem_le hp) hz'))
    obtain ⟨_, r4⟩ := h4.reads
    obtain ⟨_, r5⟩ := h5.reads
    have hb : ReadAtMost h₀ (PyData.depthKv kvs) (b1 ++ b2) := (hb1.mono (PyData.depthAll_keys_le kvs)).append (hb2.mono (PyData.depthAll_vals_le kvs))
    have hna : a ∉ b1 ++ b2 := not_mem_of_deeper (.dict h1 h2 h3 r4 r5) (by simp only [PyData.depth]; omega) hb
    refine ⟨"dict", "dict.__repr__", F.slot_dict_repr, F.slot_dict_str, F.slot_dict_format, fun s hk0 => ⟨o, hk0 _ _ h1, h2⟩, fun A E s Q hg hu hk0 hQ => ?_⟩
    simp only [PyData.depth] at hu
    simp only [PyData.shown, PyData.shownKv_eq] at hQ
    exact call_dict_reprK h1 h2 h3 hsys hna (ReprEntriesK.of_two es.toList _ _
      (k1.more_le (fun b hb => List.mem_append_left _ hb) (PyData.depthAll_keys_le kvs)) (k2.more_le (fun b hb => List.mem_append_right _ hb) (PyData.depthAll_vals_le kvs))) hg (fun b _ => Clear.nil b) hu hk0 hQ (by rw [← PyData.shownKv_eq]; exact hz')
theorem repr_ns {a : Addr} {d : PyData} {A : Around} {E : Value → Shared → Prop} {s : Shared} {Q : Value → Shared → Prop} (r : NS s.heap (.ref a) d) (hs : d.showable = true) (hg : A.guards = some []) (hu : A.units + (d.depth + 1) < cLine)
    (hQ : ∀ h' u tk, (∀ b o, s.heap.get? b = some o → h'.get? b = some o) → Q (.str d.shown u) { s with heap := h', toks := tk })
    (hsz : d.shown.length ≤ sizeLine) : wpAny (model prog w) A (call (.builtin "repr") [.ref a]) Q E s := by
  obtain ⟨T, idr, S⟩ := shows_of (prog := prog) (w := w) r hs hsz
  exact call_repr_slot (by omega) (S.typeIs s fun _ _ e => e) S.slotRepr (S.call A.in1 E s _ hg (by show A.units + 1 + d.depth < cLine; omega) (fun _ _ e => e) fun h' u tk hk => ⟨_, _, rfl, hQ h' u tk hk⟩)
end
def kP : Key → PyData
  | .inl i => .int i
  | .inr z => .str z
mutual
inductive Dq (K : PySem.W.Frag) (H : Hp) : V → PyData → Prop
  | non : Dq K H .non .none
  | bl (b : Bool) : Dq K H (.bl b) (.bool b)
  | int (i : Int) : Dq K H (.int i) (.int i)
  | str (x : Str) : Dq K H (.str x) (.str x)
  | lst {a : Addr} {xs : List V} {ds : List PyData} : SqL K H a xs → DqAll K H xs ds → Dq K H (.ref a) (.list ds)
  | tup {a : Addr} {xs : List V} {ds : List PyData} : SqT K H a xs → DqAll K H xs ds → Dq K H (.ref a) (.tuple ds)
  | dK {a : Addr} {kvs : List (Key × V)} {ps : List (PyData × PyData)} : Rd H a (.dK kvs) → ps.map (·.1) = kvs.map (fun kv => kP kv.1) → DqAll K H (kvs.map (·.2)) (ps.map (·.2)) → Dq K H (.ref a) (.dict ps)
inductive DqAll (K : PySem.W.Frag) (H : Hp) : List V → List PyData → Prop
  | nil : DqAll K H [] []
  | cons {v : V} {vs : List V} {d : PyData} {ds : List PyData} : Dq K H v d → DqAll K H vs ds → DqAll K H (v :: vs) (d :: ds)
end
section
variable {X : Cx} {pins : List (Addr × Obj)} {σ : L2.St} {H : Hp} {s : Shared}
theorem keys_ns {h : Heap} {P : Program} {w : World} : ∀ {es : List DictEntry} {kvs : List (Key × V)} {vs : List (Key × Value)}, Pairs (mixKind P w) es vs → KV kvs vs → NSAll h (es.map (·.key)) (kvs.map (fun kv => kP kv.1))
  | _, _, _, .nil, .nil => .nil
  | _, _, _, .cons (e := e) (kv := q) k1 k2 t, .cons (a := p) ⟨e1, e2⟩ u => by
    refine .cons ?_ (keys_ns t u)
    show NS h e.key (kP p.1)
    rw [e1]
    rcases keyIs_shape (show keyIs q.1 e.key = true from k1) with ⟨i, t, e3, e4⟩ | ⟨x, t, e3, e4⟩
    · rw [e3, e4]; exact .int i t
    · rw [e3, e4]; exact .str x t
theorem vals_of {P : Program} {w : World} : ∀ {es : List DictEntry} {kvs : List (Key × V)} {vs : List (Key × Value)}, Pairs (mixKind P w) es vs → KV kvs vs → Vals (kvs.map (·.2)) (es.map (·.val))
  | _, _, _, .nil, .nil => .nil
  | _, _, _, .cons (e := e) (kv := q) k1 k2 t, .cons (a := p) ⟨e1, e2⟩ u => .cons (by show RelV p.2 e.val; rw [k2]; exact e2) (vals_of t u)
mutual
theorem Dq.ns (I : Inv X pins σ H s) : ∀ {v : V} {d : PyData}, Dq X.K H v d → ∀ {u : Value}, RelV v u → NS s.heap u d
  | _, _, .non, _, r => by cases r; exact .none
  | _, _, .bl b, _, r => by cases r; exact .bool b
  | _, _, .int i, _, r => by obtain ⟨t, rfl⟩ := r; exact .int i t
  | _, _, .str x, _, r => by obtain ⟨t, rfl⟩ := r; exact .str x t
  | _, _, .lst hs ha, _, r => by
    cases r
    obtain ⟨its, rv, ⟨o, n, ho, hc, _, hd⟩, _⟩ := I.list hs
    exact .list ho hc hd (DqAll.ns I ha rv)
  | _, _, .tup hs ha, _, r => by
    cases r
    obtain ⟨its, rv, ⟨o, ho, hc, n, hd⟩, _⟩ := I.tuple hs
    exact .tuple ho hc hd (DqAll.ns I ha rv)
  | _, _, .dK rd hk ha, _, r => by
    cases r
    obtain ⟨_, hs0, vs, kv, o, es, ep, ho, hc, hd, _, pr, _⟩ := dk_rd I.hok rd
    exact .dict ho hc.1 hd (by rw [hk]; exact keys_ns pr kv) (DqAll.ns I ha (vals_of pr kv)) hs0
theorem DqAll.ns (I : Inv X pins σ H s) : ∀ {vs : List V} {ds : List PyData}, DqAll X.K H vs ds → ∀ {us : List Value}, Vals vs us → NSAll s.heap us ds
  | _, _, .nil, _, r => by cases r; exact .nil
  | _, _, .cons a t, _, r => by cases r with | cons r1 r2 => exact .cons (Dq.ns I a r1) (DqAll.ns I t r2)
end
/-- repr(x) of data, with dicts -/
def rReprQ (K : PySem.W.Frag) : List V → Hp → VK → Prop := fun xs H Q => ∃ (x : V) (d : PyData), xs = [x] ∧ Dq K H x d ∧ d.showable = true ∧ d.depth ≤ 60 ∧ d.shown.length ≤ 16000000 ∧ Q (.str d.shown) H
theorem call_reprQ (hgd : X.A.guards = some []) (hu : X.A.units + 64 < cLine) : CallR X (.builtin "repr") (rReprQ X.K) := by
  intro pins s σ H xs us Q I r h
  obtain ⟨x, d, rfl, hd, hs, hdp, hz, q⟩ := h
  obtain ⟨u, rfl, rx⟩ := vals1 r
  have hsz : d.shown.length ≤ sizeLine := Nat.le_trans hz (by rw [sizeLine_eq]; decide)
  have ns := hd.ns I rx
  have fin : ∀ {a : Addr}, u = Value.ref a → wpAny (model X.prog X.w) X.A (call (.builtin "repr") [u]) (EP X pins σ Q) X.xe s := fun {a} e => by
    subst e
    exact repr_ns ns hs hgd (by omega) (fun h' u' tk hk => ⟨.str _, H, I.kept (t' := tk) hk, ⟨_, rfl⟩, q⟩) hsz
  cases hd with
  | non =>
    obtain rfl : u = Value.none := rx
    exact PySem.P.repr_of_none ⟨.str _, H, I.tok _, ⟨_, rfl⟩, q⟩
  | bl b =>
    obtain rfl : u = Value.bool b := rx
    exact PySem.P.repr_of_bool ⟨.str _, H, I.tok _, ⟨_, rfl⟩, q⟩
  | int i =>
    obtain ⟨t, rfl⟩ := rx
    exact PySem.P.repr_of_int (by simpa [PyData.showable] using hs) ⟨.str _, H, I.tok _, ⟨_, rfl⟩, q⟩
  | str z =>
    obtain ⟨t, rfl⟩ := rx
    exact PySem.P.repr_of_str (hsz := hsz) ⟨.str _, H, I.tok _, ⟨_, rfl⟩, q⟩
  | lst h1 h2 => exact fin rx
  | tup h1 h2 => exact fin rx
  | dK h1 h2 h3 => exact fin rx
end
end RQ

namespace L2.VW
open PySem PySem.Spec PyProof.Rows
mutual
/-- what a value is as data, dicts too, as it stands in S -/
inductive Pq (S : Sto) : D → PyData → Prop
  | non : Pq S .non .none
  | bl (b : Bool) : Pq S (.bl b) (.bool b)
  | int (i : Int) : Pq S (.int i) (.int i)
  | str (z : Str) : Pq S (.str z) (.str z)
  | lst {ds : List D} {ps : List PyData} : PqAll S ds ps → Pq S (.lst ds) (.list ps)
  | tup {ds : List D} {ps : List PyData} : PqAll S ds ps → Pq S (.tup ds) (.tuple ps)
  | dK {kds : List (Key × D)} {ps : List (PyData × PyData)} : ps.map (·.1) = kds.map (fun kd => RQ.kP kd.1) → PqAll S (kds.map (·.2)) (ps.map (·.2)) → Pq S (.dK kds) (.dict ps)
  | refL {a : Addr} {ds : List D} {ps : List PyData} : S a = some (.lst ds) → PqAll S ds ps → Pq S (.ref a) (.list ps)
  | refK {a : Addr} {kds : List (Key × D)} {ps : List (PyData × PyData)} : S a = some (.dK kds) → ps.map (·.1) = kds.map (fun kd => RQ.kP kd.1) → PqAll S (kds.map (·.2)) (ps.map (·.2)) → Pq S (.ref a) (.dict ps)
  | refT {a : Addr} {ds : List D} {ps : List PyData} : S a = some (.tpN ds) → PqAll S ds ps → Pq S (.ref a) (.tuple ps)
inductive PqAll (S : Sto) : List D → List PyData → Prop
  | nil : PqAll S [] []
  | cons {x : D} {xs : List D} {d : PyData} {ds : List PyData} : Pq S x d → PqAll S xs ds → PqAll S (x :: xs) (d :: ds)
end
section
variable {K : PySem.W.Frag} {F0 F : Hp} {S : Sto} {H : Hp}
theorem keys_kP {kvs : List (Key × V)} {kds : List (Key × D)} (e : kvs.map (·.1) = kds.map (·.1)) : kds.map (fun kd => RQ.kP kd.1) = kvs.map (fun kv => RQ.kP kv.1) := by
  have h : kds.map (fun kd => RQ.kP kd.1) = (kds.map (·.1)).map RQ.kP := by rw [List.map_map]; rfl
  rw [h, ← e, List.map_map]; rfl
mutual
theorem Pq.at (r : RelH K F0 F S H) : ∀ {x : D} {d : PyData}, Pq S x d → ∀ {v : V}, Vd K F v x → RQ.Dq K H v d
  | _, _, .non, _, h => by cases h; exact .non
  | _, _, .bl b, _, h => by cases h; exact .bl b
  | _, _, .int b, _, h => by cases h; exact .int b
  | _, _, .str b, _, h => by cases h; exact .str b
  | _, _, .lst t, _, h => by cases h with | lst h1 h2 => exact .lst (.inl (.inl (r.fr _ _ h1))) (PqAll.at r t h2)
  | _, _, .tup t, _, h => by cases h with | tup h1 h2 => exact .tup (.inl (.inl (r.fr _ _ h1))) (PqAll.at r t h2)
  | _, _, .dK e t, _, h => by cases h with | dK h1 h2 h3 => exact .dK (.inr ⟨_, r.fr _ _ h1⟩) (by rw [e]; exact keys_kP h2) (PqAll.at r t h3)
  | _, _, .refL e t, _, h => by
    cases h
    obtain ⟨xs, e1, h2⟩ := r.lst e
    exact .lst (.inl (.inl e1)) (PqAll.at r t h2)
  | _, _, .refK e k t, _, h => by
    cases h
    obtain ⟨kvs, e1, h2, h3⟩ := r.dK e
    exact .dK (.inl e1) (by rw [k]; exact keys_kP h2) (PqAll.at r t h3)
  | _, _, .refT e t, _, h => by
    cases h
    obtain ⟨o, xs, e1, _, h2⟩ := r.tpN e
    exact .tup (.inl (.inr ⟨o, e1⟩)) (PqAll.at r t h2)
theorem PqAll.at (r : RelH K F0 F S H) : ∀ {xs : List D} {ds : List PyData}, PqAll S xs ds → ∀ {vs : List V}, VdAll K F vs xs → RQ.DqAll K H vs ds
  | _, _, .nil, _, h => by cases h; exact .nil
  | _, _, .cons a t, _, h => by cases h with | cons h1 h2 => exact .cons (Pq.at r a h1) (PqAll.at r t h2)
end
def dReprQ : List D → Sto → PV → Prop := fun xs S P => ∃ (x : D) (d : PyData), xs = [x] ∧ Pq S x d ∧ d.showable = true ∧ d.depth ≤ 60 ∧ d.shown.length ≤ 16000000 ∧ P (.str d.shown) S
instance : UpC K F0 (RQ.rReprQ K) dReprQ := ⟨fun r hv ⟨x, d, e, hd, h1, h3, h4, p⟩ le => by
  subst e
  cases hv with
  | cons hv b => cases b; exact ⟨_, d, rfl, hd.at r hv, h1, h3, h4, le _ _ _ _ _ p (Same.refl _) r (.str _)⟩⟩
/-- data without dicts, whatever S is -/
theorem Pq.of_py : ∀ (x : D) {d : PyData}, py x = some d → Pq S x d := by
  intro x d h
  exact go x d h
where
  go : ∀ (x : D) (d : PyData), py x = some d → Pq S x d
    | .non, d, h => by rw [py] at h; cases h; exact .non
    | .bl b, d, h => by rw [py] at h; cases h; exact .bl b
    | .int i, d, h => by rw [py] at h; cases h; exact .int i
    | .str z, d, h => by rw [py] at h; cases h; exact .str z
    | .lst xs, d, h => by
      rw [py] at h
      cases e : pyAll xs with
      | none => rw [e] at h; cases h
      | some ps => rw [e] at h; cases h; exact .lst (goAll xs ps e)
    | .tup xs, d, h => by
      rw [py] at h
      cases e : pyAll xs with
      | none => rw [e] at h; cases h
      | some ps => rw [e] at h; cases h; exact .tup (goAll xs ps e)
    | .ref _, d, h => by rw [py] at h <;> first | cases h | simp
    | .byt _, d, h => by rw [py] at h <;> first | cases h | simp
    | .flt _, d, h => by rw [py] at h <;> first | cases h | simp
    | .ty _, d, h => by rw [py] at h <;> first | cases h | simp
    | .dK _, d, h => by rw [py] at h <;> first | cases h | simp
    | .dT _, d, h => by rw [py] at h <;> first | cases h | simp
    | .ins _ _, d, h => by rw [py] at h <;> first | cases h | simp
    | .seq _, d, h => by rw [py] at h <;> first | cases h | simp
  goAll : ∀ (xs : List D) (ps : List PyData), pyAll xs = some ps → PqAll S xs ps
    | [], ps, h => by rw [pyAll] at h; cases h; exact .nil
    | x :: r, ps, h => by
      rw [pyAll] at h
      cases e1 : py x with
      | none => rw [e1] at h; cases h
      | some p =>
        rw [e1] at h
        cases e2 : pyAll r with
        | none => rw [e2] at h; cases h
        | some qs => rw [e2] at h; cases h; exact .cons (go x p e1) (goAll r qs e2)
end
end L2.VW

/-! ## sorted(..) of a list of pairs of ints, any length, as data -/
namespace L2.VW
open PySem PySem.Spec PyProof.Rows
def pairD (p : Int × Int) : D := .tup [.int p.1, .int p.2]
section
variable {K : PySem.W.Frag} {F0 F : Hp} {S : Sto} {H : Hp}
/-- which two ints a value is, by the frozen heap -/
def pairOf (F : Hp) : V → Int × Int
  | .ref t => match F t with
    | some (.tup [.int a, .int b]) => (a, b)
    | _ => (0, 0)
  | _ => (0, 0)
theorem pair_is {v : V} {p : Int × Int} (h : Vd K F v (pairD p)) : ∃ t, v = .ref t ∧ F t = some (.tup [.int p.1, .int p.2]) ∧ pairOf F v = p := by
  cases h with
  | tup h1 h2 =>
    cases h2 with
    | cons a t =>
      cases a
      cases t with
      | cons b t =>
        cases b; cases t
        refine ⟨_, rfl, h1, ?_⟩
        simp only [pairOf, h1]
theorem pairs_are : ∀ {xs : List V} {ps : List (Int × Int)}, VdAll K F xs (ps.map pairD) → (∀ x ∈ xs, ∃ t, x = .ref t ∧ F t = some (.tup [.int (pairOf F x).1, .int (pairOf F x).2])) ∧ xs.map (pairOf F) = ps
  | [], [], _ => ⟨(fun x hx => by cases hx), rfl⟩
  | _, p :: ps, h => by
    cases h with
    | cons a t =>
      obtain ⟨t', rfl, e, e2⟩ := pair_is a
      obtain ⟨h1, h2⟩ := pairs_are t
      refine ⟨fun x hx => ?_, by rw [List.map_cons, e2, h2]⟩
      rcases List.mem_cons.mp hx with rfl | hx
      · exact ⟨t', rfl, by rw [e2]; exact e⟩
      · exact h1 x hx
theorem pairs_back : ∀ {ys : List V}, (∀ x ∈ ys, ∃ t, x = .ref t ∧ F t = some (.tup [.int (pairOf F x).1, .int (pairOf F x).2])) → VdAll K F ys ((ys.map (pairOf F)).map pairD)
  | [], _ => .nil
  | y :: ys, h => by
    obtain ⟨t, e, e2⟩ := h y List.mem_cons_self
    refine .cons ?_ (pairs_back fun x hx => h x (List.mem_cons_of_mem _ hx))
    rw [e] at e2 ⊢
    exact .tup e2 (.cons (.int _) (.cons (.int _) .nil))
/-- rising, by the first of two ints, then by the second -/
abbrev RisesP (qs : List (Int × Int)) : Prop := qs.Pairwise fun p q => SrtO.lexB q p = false
def dSortP : List D → Sto → PV → Prop := fun xs S P => ∃ x ps, xs = [x] ∧ SeqL S x (ps.map pairD) ∧ ∀ qs, qs.Perm ps → RisesP qs → P (.lst (qs.map pairD)) S
instance (priority := 2000) {ta : TA} {da : TAD} [UpA K F0 ta da] : UpE K F0 (tKp (tCB (rSortedPO K) ta)) (dCB dSortP da) := ⟨fun r0 h le => by
  show tCB (rSortedPO K) ta _ _ _
  exact UpA.up (t := ta) (td := da) r0 h fun xs S1 F1 H1 vs ⟨x, ps, e, h, p⟩ s1 r1 v1 => by
    subst e
    cases v1 with
    | cons hv b =>
      cases b
      obtain ⟨a, xs, rfl, hq, hx⟩ := h.at r1 hv
      obtain ⟨g1, g2⟩ := pairs_are hx
      refine ⟨a, xs, pairOf F1, rfl, hq, fun x hx => ?_, fun ys q hs hb hq => ?_⟩
      · obtain ⟨t, e1, e2⟩ := g1 x hx
        exact ⟨t, e1, r1.fr _ _ e2⟩
      · obtain ⟨s4, r4⟩ := r1.newF (ho := .lst ys) hq
        have pm : (ys.map (pairOf F1)).Perm ps := by rw [← g2]; exact hb.perm.map _
        have hr : RisesP (ys.map (pairOf F1)) := List.pairwise_map.mpr hs
        exact le _ _ _ _ _ (p _ pm hr) (s1.trans s4) r4 (.lst upd_same ((pairs_back fun x hx => g1 x (hb.perm.mem_iff.mp hx)).mono s4))⟩
end
end L2.VW

/-! ## xs.index(y), y there, flat items -/
namespace L2.VW
open PySem PySem.Spec PyProof.Rows
section
variable {K : PySem.W.Frag} {F0 : Hp}
def dIndex : D → List D → Sto → PV → Prop := fun x vs S P => ∃ ds y j z, vs = [y] ∧ SeqL S x ds ∧ flatD y = true ∧ ds.all flatD = true ∧ ds[j]? = some z ∧ eqF z y = true ∧ (∀ (m : Nat) (z' : D), m < j → ds[m]? = some z' → eqF z' y = false) ∧ P (.int (j : Nat)) S
instance : UpM K F0 (rIndex K) dIndex := ⟨fun r hv hvs ⟨ds, y, j, z, e, hs, f, fa, hz, hq, hn, p⟩ le => by
  subst e
  cases hvs with
  | cons hy b =>
    cases b
    obtain ⟨a, xs, rfl, hl, hx⟩ := hs.at r hv
    obtain ⟨_, i2⟩ := inD_of hy f hx fa
    obtain ⟨u, hu, vu⟩ := hx.get hz
    have fl : ∀ {m : Nat} {d : D}, ds[m]? = some d → flatD d = true := fun h => List.all_eq_true.mp fa _ (List.mem_of_getElem? h)
    refine ⟨a, xs, _, j, u, rfl, rfl, hl, flat_of hy f, i2, hu, by rw [eqF_of vu hy (fl hz) f]; exact hq, fun m z' hm hz' => ?_, le _ _ _ _ _ p (Same.refl _) r (.int _)⟩
    obtain ⟨d, hd, vd⟩ := hx.getL hz'
    rw [eqF_of vd hy (fl hd) f]
    exact hn m d hm hd⟩
end
end L2.VW

/-! ## xs[-2::-1]; dicts of the module; a held def called; errors out of bodies with objects of their own; a list that is told becomes data -/
namespace L2
open PySem PySem.Spec PyProof.Rows
theorem rv2_pick (its : List Value) (z : Value) : slicePick (its ++ [z]).toArray (some (-2)) none (some (-1)) = its.reverse.toArray := by
  unfold slicePick
  have hs : (its ++ [z]).toArray.size = its.length + 1 := by simp
  have hb : sliceBounds (some (-2)) none (some (-1)) (its.length + 1) = ((its.length : Int) - 1, -1, -1) := by
    simp only [sliceBounds, Option.getD_some]
    have h1 : ¬ ((-1 : Int) > 0) := by decide
    simp only [h1, if_false, show ((-2 : Int) < 0) from by decide, if_true]
    congr 1
    omega
  rw [hs, hb]
  show ((sliceRange ((its.length : Int) - 1) (-1) (-1)).filterMap ((its ++ [z]).toArray[·]?)).toArray = _
  rw [PySem.W.krv_sliceRange, PySem.W.krv_range, List.filterMap_reverse]
  have h := pick_run (its ++ [z]).toArray 0 its.length
  have e : (List.range its.length).map (0 + ·) = List.range its.length := by
    rw [show ((0 + ·) : Nat → Nat) = id from funext fun k => Nat.zero_add k, List.map_id]
  rw [e, List.drop_zero] at h
  rw [h]
  simp
section
variable {X : Cx}
def tRv2 (K : PySem.W.Frag) (te : TE) : TE := fun σ H Q => te σ H fun x H1 => ∃ a xs z, x = .ref a ∧ SqL K H1 a (xs ++ [z]) ∧ ∀ p, H1 p = none → Q (.ref p) (upd H1 p (.lst xs.reverse))
theorem pe_rv2 {e : Expr} {te : TE} {k k2 : Nat} {p1 p2 p4 p5 p3 pos : Pos} (he : PE X e te) : PE X (.Subscript e (.Slice (some (.UnaryOp .USub (.Constant (.int 2) k2 p4) p5)) none (some (.UnaryOp .USub (.Constant (.int 1) k p1) p2)) p3) pos) (tRv2 X.K te) := by
  refine ⟨fun pins s σ H Q I h => ?_⟩
  refine Subscript_ (thn (he.run pins s σ H _ I h) fun v s1 ⟨x, H1, I1, r1, q1⟩ => ?_)
  obtain ⟨a, xs, z, ex, hx, q⟩ := q1
  subst ex
  cases r1
  have hst : PO X (some (.UnaryOp .USub (.Constant (.int 1) k p1) p2)) (tPart (tUn (rU fun i => .int (-i)) (tC (.int 1)))) := po_some (pe_un un_neg pe_int)
  have hlo : PO X (some (.UnaryOp .USub (.Constant (.int 2) k2 p4) p5)) (tPart (tUn (rU fun i => .int (-i)) (tC (.int 2)))) := po_some (pe_un un_neg pe_int)
  refine wpAny_Slice (thn (hlo.run pins s1 σ H1 (fun o H2 => o = some (-2) ∧ H2 = H1) I1 ⟨2, rfl, -2, rfl, rfl, rfl⟩) fun vl s2 ⟨l, H2, I2, pl, el, e2⟩ => ?_)
  subst el e2
  refine thn (po_none.run pins s2 σ H2 (fun o H3 => o = none ∧ H3 = H2) I2 ⟨rfl, rfl⟩) fun vu s3 ⟨u, H3, I3, pu, eu, e3⟩ => ?_
  subst eu e3
  refine thn (hst.run pins s3 σ H3 (fun o H4 => o = some (-1) ∧ H4 = H3) I3 ⟨1, rfl, -1, rfl, rfl, rfl⟩) fun vs s4 ⟨o, H4, I4, ps, eo, e4⟩ => ?_
  subst eo e4
  have I5 : Inv X pins σ H4 { s4 with heap := s4.heap.push { cls := .type "slice", data := .fields #[vl, vu, vs] } } := I4.kept (t' := s4.toks) fun b ob q => Heap.get?_push_of_some _ q
  obtain ⟨its, r, ht, hz⟩ := I5.list hx
  have hlen := r.length
  obtain ⟨ys, w, rfl, ry⟩ : ∃ ys w, its = ys ++ [w] ∧ Vals xs ys := by
    clear ht hz q hx hlen
    induction xs generalizing its with
    | nil => cases r with | cons a b => cases b; exact ⟨[], _, rfl, .nil⟩
    | cons x xs ih =>
      cases r with
      | cons a b =>
        obtain ⟨ys, w, rfl, ry⟩ := ih _ b
        exact ⟨_ :: ys, w, rfl, .cons a ry⟩
  show wpAny (model X.prog X.w) X.A (subscriptTail e (.Slice (some (.UnaryOp .USub (.Constant (.int 2) k2 p4) p5)) none (some (.UnaryOp .USub (.Constant (.int 1) k p1) p2)) p3) (.ref a) (.ref s4.heap.objs.size)) (EP X pins σ Q) X.xe { s4 with heap := s4.heap.push { cls := .type "slice", data := .fields #[vl, vu, vs] } }
  refine tail_any (ops := [.ref a, .ref s4.heap.objs.size]) ht.isList.typeIs (PySem.slot_list_getitem.lookup) ?_ (by with_unfolding_all rfl)
  refine wpAny_getItem_list_slice ht.isList (Heap.IsSliceOf.new _ vl vu vs) pl pu ps (by decide) ?_ (by rw [List.size_toArray]; omega)
  rw [rv2_pick]
  refine ⟨.ref _, _, I5.laid (t' := s4.toks) (o := .lst xs.reverse) (fun b ob q => Heap.get?_push_of_some _ q) (Nat.le_refl _) ?_, rfl, q _ (I5.hok.fresh (Nat.le_refl _))⟩
  exact ⟨by rw [List.length_reverse]; rw [List.length_append] at hz; omega, _, 0, ry.reverse, Heap.get?_push_size _ rfl⟩
def rNotInKd (K : PySem.W.Frag) (d : Addr) : R2 := fun x y H Q => ∃ (z : Str) (r : Option Value), x = .str z ∧ y = .ref d ∧ PySem.W.nsIn K d z = some r ∧ Q (.bl (!r.isSome)) H
theorem op_notIn_kdV {d : Addr} {es : Array DictEntry} {n : Nat} (D : KDict X.K X.w d es n) : OpR X (compareOp .NotIn) (rNotInKd X.K d) := op_notIn_kd D
end
end L2
namespace L2.VW
open PySem PySem.Spec PyProof.Rows
section
variable {K : PySem.W.Frag} {F0 : Hp}
/-- xs[-2::-1], as data -/
def dRv2 (da : TED) : TED := fun env S P => da env S fun x S1 => ∃ ds z, SeqL S1 x (ds ++ [z]) ∧ P (.lst ds.reverse) S1
theorem vd_revs {F : Hp} : ∀ {vs : List V} {ds : List D}, VdAll K F vs ds → VdAll K F vs.reverse ds.reverse
  | _, _, .nil => .nil
  | _, _, .cons a t => by
    rw [List.reverse_cons, List.reverse_cons]
    exact (vd_revs t).app (.cons a .nil)
theorem vd_snoc {F : Hp} : ∀ {vs : List V} {ds : List D} {z : D}, VdAll K F vs (ds ++ [z]) → ∃ us u, vs = us ++ [u] ∧ VdAll K F us ds
  | _, [], _, .cons _ .nil => ⟨[], _, rfl, .nil⟩
  | _, _ :: _, _, .cons a t => by
    obtain ⟨us, u, rfl, h⟩ := vd_snoc t
    exact ⟨_ :: us, u, rfl, .cons a h⟩
instance {ta : TE} {da : TED} [UpE K F0 ta da] : UpE K F0 (tRv2 K ta) (dRv2 da) := ⟨fun r0 h le =>
  UpE.up (t := ta) (td := da) r0 h fun x S1 F1 H1 v ⟨ds, z, hs, p⟩ s1 r1 v1 => by
    obtain ⟨a, xs, rfl, hl, hx⟩ := hs.at r1 v1
    obtain ⟨us, u, rfl, hu⟩ := vd_snoc hx
    refine ⟨a, us, u, rfl, hl, fun q hq => ?_⟩
    have r2 := r1.new (o := .lst ds.reverse) hq (.lst (vd_revs hu))
    obtain ⟨ys, e2, h2⟩ := r2.lst (sup_same (S := S1) (a := q) (o := .lst ds.reverse))
    obtain ⟨s2, r3⟩ := r2.keep sup_same e2
    have r4 := r3.less (S' := S1) fun b o e => by
      have n : b ≠ q := fun z => by rw [z, (r1.free hq).2] at e; cases e
      rw [sdel_ne n, sup_ne n]; exact e
    exact le _ _ _ _ _ p (s1.trans s2) r4 (.lst upd_same (h2.mono s2))⟩
def dNotInKd (K : PySem.W.Frag) (d : Addr) : R2D := fun x y S P => ∃ (z : Str) (r : Option Value), x = .str z ∧ y = .ref d ∧ PySem.W.nsIn K d z = some r ∧ P (.bl (!r.isSome)) S
instance {d : Addr} : UpR K F0 (rNotInKd K d) (dNotInKd K d) := ⟨fun r hv hu ⟨z, o, e1, e2, h, p⟩ le => by
  subst e1; subst e2; cases hv; cases hu
  exact ⟨z, o, rfl, rfl, h, le _ _ _ _ _ p (Same.refl _) r (.bl _)⟩⟩
def dIxKd (K : PySem.W.Frag) (w : World) : R2D := fun x y S P => ∃ p z f, x = .ref p ∧ y = .str z ∧ KDct K w p z (.ref f) ∧ P (.ref f) S
instance {w : World} : UpR K F0 (rIxD K w) (dIxKd K w) := ⟨fun r hv hu ⟨q, z, f, e1, e2, h, p⟩ le => by
  subst e1; subst e2; cases hv; cases hu
  exact ⟨q, z, .ref f, rfl, rfl, h, le _ _ _ _ _ p (Same.refl _) r (.ref f)⟩⟩
/-! ### errors leave objects behind -/
inductive LssX (PE : XD) (C : Addr) (ods : Option (List (Str × D))) (S : Sto) : Prop
  | mk (S2 : Sto) : (∀ a o, S2 a = some o → S a = some o) → PE C ods S2 → LssX PE C ods S
theorem lssX {F : Hp} {PE : XD} {E : XK} (le : LeX K F F PE E) : LeX K F F (LssX PE) E := fun C ods S F' H od ⟨S2, h, p⟩ s r x => le C ods S2 F' H od p s (r.less h) x
theorem lssX_id {PE : XD} {C : Addr} {ods : Option (List (Str × D))} {S : Sto} (h : PE C ods S) : LssX PE C ods S := ⟨S, fun _ _ e => e, h⟩
/-! ### a list that is told: data from here on -/
inductive FrzL (P : PV) (x : D) (S : Sto) : Prop
  | mk (a : Addr) (ds : List D) : x = .ref a → S a = some (.lst ds) → P (.lst ds) (sdel S a) → FrzL P x S
theorem body_frzS {N : List Str} {t : TS} {td : TSD} {F : Hp} {S : Sto} {H : Hp} {vs : List V} {ds : List D} {P : PV} {Q : VK} [UpS K F t td] (r : RelH K F F S H) (hv : VdAll K F vs ds) (le : LeV K F F P Q)
    (h : td { nx := fun _ S' => Lss P .non S', rt := FrzL (Lss P) } (ds.map some ++ List.replicate (N.length - ds.length) none) S) : t { nx := fun _ H' => Q .non H', rt := Q } (start N vs) H := by
  refine UpS.up (t := t) (td := td) (F0 := F) ⟨r, ?_⟩ h ⟨fun _ _ S' _ _ p s r1 => by obtain ⟨S2, h2, p⟩ := p; exact le _ _ _ _ _ p s (r1.h.less h2) .non, fun x S' F' H' v p s r1 vd => ?_, fun _ _ _ _ _ p => p.elim, fun _ _ _ _ _ p => p.elim⟩
  · unfold start
    rw [hv.len]
    exact starts hv
  · obtain ⟨a, fd, rfl, e1, ⟨S2, h2, p⟩⟩ := p
    cases vd
    obtain ⟨xs, e2, h3⟩ := r1.lst e1
    obtain ⟨s2, r2⟩ := r1.keep e1 e2
    exact le _ _ _ _ _ p (s.trans s2) (r2.less h2) (.lst upd_same (h3.mono s2))
end
end L2.VW

/-! ## own objects: isinstance(x, own class), == by the class's own __eq__ -/
namespace L2
open PySem PySem.Spec PyProof.Rows
/-- what isinstance asks of an own class -/
structure InsO (K : PySem.W.Frag) (C : Addr) : Prop where
  cl : Cls K C
  ha : PySem.W.findIn K (.ref C) "__class__" = some (some (.builtin "object.__class__"))
  hn : PySem.W.specialIn K (.builtin "object.__class__") "__get__" = some (some (.builtin "getset_descriptor.__get__"))
  htk : PySem.W.takesIn K (.builtin "object.__class__") = some true
  hm : PySem.W.mroIn K C (.type "object") = some true
theorem kitOne_self {K : PySem.W.Frag} {C : Addr} : PySem.W.kitOne K (.ref C) (.ref C) = some true := by
  unfold PySem.W.kitOne
  rw [if_pos (by simp)]
def rIsO (C : Addr) : List V → Hp → VK → Prop := fun xs H Q => ∃ a dx fs, xs = [.ref a, .ref C] ∧ H a = some (.ins C dx fs) ∧ Q (.bl true) H
def rEqO (C : Addr) (sp : Sp) : R2 := fun x y H Q => ∃ a b dx dy fs gs, x = .ref a ∧ y = .ref b ∧ H a = some (.ins C dx fs) ∧ H b = some (.ins C dy gs) ∧ sp [.ref a, .ref b] H (fun v H' => ∃ r, v = .bl r ∧ Q (.bl r) H') (fun _ _ _ => False)
section
variable {X : Cx}
theorem call_isO {C : Addr} (c : InsO X.K C) : CallR X (.builtin "isinstance") (rIsO C) := by
  intro pins s σ H xs us Q I r h
  obtain ⟨a, dx, fs, rfl, ha, q⟩ := h
  obtain ⟨u, w', rfl, ru, rw'⟩ := vals2 r
  cases rw'
  exact isinst_ok I ru (TyOf.ins ha c.cl c.ha c.hn c.htk c.hm) kitOne_self fun tk => ⟨.bl true, H, I.tok _, rfl, q⟩
theorem op_eqO {n : Nat} {C f : Addr} {fd : FuncData} {ps : List Str} {sp : Sp} (F : FnOk X.prog X.w X.K X.mg X.base (fun _ _ _ _ _ _ => False) n f fd ps sp) (m : Meth X.K C "__eq__" f) (hb : Binds X.K fd ps []) (hr : Room n X.A) :
    OpR X (compareOp .Eq) (rEqO C sp) := by
  intro pins s σ H x y v u Q I rx ry d
  obtain ⟨a, b, dx, dy, fs, gs, rfl, rfl, ha, hb', hsp⟩ := d
  show wpAny (model X.prog X.w) X.A (richCompare .Eq v u) (EP X pins σ Q) X.xe s
  cases rx
  cases ry
  obtain ⟨mA, J, _⟩ := ins_get I.hok ha
  obtain ⟨mB, J', _⟩ := ins_get I.hok hb'
  obtain ⟨od, J, _⟩ := J.look
  obtain ⟨od', J', _⟩ := J'.look
  obtain ⟨m', hF⟩ := I.fr
  refine PySem.W.cmp_K (op := .Eq) (tb := .ref C) hr.units0 hF I.ok.mod.kin J J'.type (by simp [PySem.W.notFirst]) m.at_ m.fn ?_
  have e0 : Env0 X.prog X.w X.K X.mg X.base X.A X.stack s H := I.env0
  have hl := F.len _ _ _ _ hsp
  have r2 : Vals [V.ref a, V.ref b] [Value.ref a, Value.ref b] := .cons rfl (.cons rfl .nil)
  refine wpAny_call (codeAny_mono (F.run X.A X.stack s H ⟨[.ref a, .ref b], []⟩ [.ref a, .ref b] [.ref a, .ref b] _ _ hr e0 (by
    have := hb s [.ref a, .ref b] I.kIn (by simpa using hl)
    simpa using this) r2 hsp) fun r s' hq => ?_)
  cases r with
  | error e => exact False.elim hq
  | ok fl =>
    cases fl with
    | ret w =>
      obtain ⟨z, H', I', rz, bb, ez, q⟩ := I.after hq
      subst ez
      cases rz
      exact ⟨.bl bb, H', I', rfl, q⟩
    | next => exact False.elim hq
    | brk => exact False.elim hq
    | cont => exact False.elim hq
end
end L2
namespace L2.VW
open PySem PySem.Spec PyProof.Rows
section
variable {K : PySem.W.Frag} {F0 : Hp}
def dIsO (C : Addr) : List D → Sto → PV → Prop := fun xs S P => ∃ x ds, xs = [x, .ref C] ∧ Ins S x C ds ∧ P (.bl true) S
instance {C : Addr} : UpC K F0 (rIsO C) (dIsO C) := ⟨fun {vs xs H Q F S P} r hv ⟨x, ds, e, hi, p⟩ le => by
  subst e
  cases hv with
  | cons hv b =>
    cases b with
    | cons hc b =>
      cases b; cases hc
      obtain ⟨a, dx, fs, rfl, e1, kp⟩ := hi.at r hv
      exact ⟨a, dx, fs, rfl, e1, le _ _ _ _ _ p (Same.refl _) r (.bl _)⟩⟩
def dEqO (C : Addr) (spd : SpD) : R2D := fun x y S P => ∃ ds es, Ins S x C ds ∧ Ins S y C es ∧ spd [x, y] S (fun v S2 => ∃ b, v = .bl b ∧ P (.bl b) S2) noX
instance {C : Addr} {spd : SpD} : UpR K F0 (rEqO C (upSp K spd)) (dEqO C spd) := ⟨fun {v u x y H Q F S P} r hv hu ⟨ds, es, hi, hj, h⟩ le => by
  obtain ⟨a, dx, fs, rfl, e1, kp⟩ := hi.at r hv
  obtain ⟨b, dy, gs, rfl, e2, kq⟩ := hj.at r hu
  refine ⟨a, b, dx, dy, fs, gs, rfl, rfl, e1, e2, upSp.at (F0 := F0) (E := noE) (PE := noX) r (.cons hv (.cons hu .nil)) h fun y S2 F2 H2 v2 ⟨n, en, p⟩ s2 r2 vv => ?_⟩
  subst en; cases vv
  exact ⟨n, rfl, le _ _ _ _ _ p s2 r2 (.bl n)⟩⟩
end
end L2.VW

/-! ## a dict that may change, held by a name, is data from a statement on -/
namespace L2
open PySem PySem.Spec PyProof.Rows
def tSeal (i : Nat) (t : TS) : TS := fun D σ H => ∃ a kvs, σ[i]? = some (some (.ref a)) ∧ H a = some (.dK kvs) ∧ ∀ od, t D σ (upd H a (.frz od (.dK kvs)))
theorem ps_seal {X : Cx} {st : Stmt} {t : TS} (i : Nat) (h : PS X st t) : PS X st (tSeal i t) := by
  refine ⟨fun pins s σ H D I hw => ?_⟩
  obtain ⟨a, kvs, e, hd, q⟩ := hw
  obtain ⟨od, I2⟩ := I.lock hd True.intro
  exact h.run pins s σ _ D I2 (q od)
end L2
namespace L2.VW
open PySem PySem.Spec PyProof.Rows
section
variable {K : PySem.W.Frag} {F0 : Hp}
def dSeal (i : Nat) (td : TSD) : TSD := fun P env S => ∃ a kds, env[i]? = some (some (.ref a)) ∧ S a = some (.dK kds) ∧ td P (env.set i (some (.dK kds))) (sdel S a)
theorem RelS.hold {F : Hp} {v : V} {d : D} (a : Vd K F v d) : ∀ {σ : L2.St} {env : EnvD} (i : Nat), RelS K F σ env → σ[i]? = some (some v) → RelS K F σ (env.set i (some d))
  | _, _, _, .nil, _ => .nil
  | _, _, 0, .cons _ t, h => .cons (fun e q => ⟨v, by simpa using h, by cases q; exact a⟩) t
  | _, _, i + 1, .cons b t, h => .cons b (RelS.hold a i t (by simpa using h))
instance {i : Nat} {t : TS} {td : TSD} [UpS K F0 t td] : UpS K F0 (tSeal i t) (dSeal i td) := ⟨fun {σ H Q F S env P} r0 ⟨a, kds, e, es, h⟩ le => by
  obtain ⟨v, ev, hv⟩ := r0.s.get e
  cases hv
  obtain ⟨kvs, e2, k1, k2⟩ := r0.h.dK es
  refine ⟨a, kvs, ev, e2, fun od => ?_⟩
  obtain ⟨s2, r2⟩ := r0.h.seal (ho := .dK kvs) (ho' := .frz od (.dK kvs)) es
  exact UpS.up (t := t) (td := td) ⟨r2, RelS.hold (.dK upd_same k1 (k2.mono s2)) i (r0.s.mono s2) ev⟩ h (le.mono s2)⟩
end
end L2.VW

/-! ### errors that a clause has caught: isinstance -/
namespace PySem.W
open PySem PySem.Spec PySem.Calls PyProof.Rows
section
variable {prog : Program} {w : World} {A : Around} {E : Value → Shared → Prop} {s : Shared} {K : Frag} {x D : Addr} {ox oD : Obj}
/-- e.__class__, e an instance with a dict of an own error class -/
theorem xs_class {Q : Option Value → Shared → Prop} (hga : findIn K (.ref D) "__getattribute__" = some (some (.builtin "BaseException.__getattribute__"))) (hgt : findIn K (.ref D) "__getattr__" = some none) (hsub : subIn K (.ref D) (.type "BaseException") = some true)
    (hdct : hasDictIn K D = true) (ha : findIn K (.ref D) "__class__" = some (some (.builtin "object.__class__")))
    (hn : specialIn K (.builtin "object.__class__") "__get__" = some (some (.builtin "getset_descriptor.__get__"))) (htk : takesIn K (.builtin "object.__class__") = some true) (hm : mroIn K D (.type "object") = some true)
    (X : K.In s.heap) (I : InstAt s.heap x ox D (some oD)) (h : Q (some (.ref D)) { s with toks := s.toks + 1 }) : wpAny (model prog w) A (getAttr? (.ref x) "__class__") Q E s := by
  have hf : findObj K D (some oD) "__class__" = some (.bind (.builtin "getset_descriptor.__get__") (.builtin "object.__class__")) := findObj_data (by obtain ⟨cd, hc, _⟩ := any_some hdct; rw [hc]; rfl) ha hn htk
  obtain ⟨hp, g, d, t, os⟩ := s
  have L0 := I.type (M := model prog w)
  have L1 := looks_findIn (M := model prog w) X hga
  have L2 := looks_findIn (M := model prog w) X hgt
  have L3 := looks_find (M := model prog w) X I hf
  have sub : Looks (model prog w) hp (isInstance (.ref x) (.type "BaseException")) true := L0.andThen (looks_subIn X hsub)
  have b2 : (Value.builtin "BaseException.__getattribute__" == Value.builtin "object.__getattribute__") = false := by decide +kernel
  have b1 : (onTheHeap (Value.ref D) && Value.builtin "BaseException.__getattribute__" == Value.builtin "object.__getattribute__") = false := by rw [b2]; rfl
  unfold getAttr? getAttrBy? getAttrBy
  refine wpAny_bind (wpAny_mkText (wpAny_bind (wpAny_attempt (wpAny_holding (wpAny_bind (L0.at (wpAny_bind (L1.at ?_))))))))
  show wpAny _ _ (if (onTheHeap (Value.ref D) && Value.builtin "BaseException.__getattribute__" == Value.builtin "object.__getattribute__") = true then _ else _) _ _ _
  rw [b1, if_neg Bool.false_ne_true]
  unfold getAttrByItsOwn hookBefore
  refine wpAny_bind ?_
  rw [if_pos (show onTheHeap (Value.ref D) = true from rfl)]
  refine L2.at ?_
  refine wpAny_bind (wpAny_attempt (wpAny_holding ?_))
  unfold callGetattribute
  rw [show (false && onTheHeap (Value.builtin "BaseException.__getattribute__")) = false from rfl, if_neg Bool.false_ne_true]
  unfold boundAndCalled
  rw [PySem.F.excAttr_ValueError.ga.bind (.ref x)]
  refine wpAny_bind (wpAny_pure ?_)
  show wpAny _ _ (call (.builtin "BaseException.__getattribute__") [.ref x, .str "__class__" t]) _ _ _
  refine wpAny_call (codeAny_call_builtin PySem.F.excAttr_ValueError.ga.plain PySem.F.entry_bexc_ga ?_)
  refine @check_slot (model prog w) _ _ ⟨hp, g, d, t + 1, os⟩ "BaseException.__getattribute__" "BaseException" "__getattribute__" (.ref x) [.str "__class__" t] [] _ (by decide +kernel) (by decide +kernel) sub (PySem.F.args_bexc_ga (.ref x) (.str "__class__" t)) ?_
  unfold Builtin.«object.__getattribute__»
  refine wpAny_bind (wpAny_of_eq (a := ((Value.ref x : Value), [Value.str "__class__" t])) (by first | rfl | (simp only [slotArgs]; rfl)) ?_)
  refine wpAny_bind (wpAny_pure (wpAny_bind (L0.at (wpAny_bind (L3.at ?_)))))
  show wpAny _ _ (holding [Value.builtin "object.__class__"] (call (.builtin "getset_descriptor.__get__") [.builtin "object.__class__", .ref x, .ref D]) >>= ret) _ _ _
  refine wpAny_bind (wpAny_holding (wpAny_call (class_get (s := ⟨hp, g, d, t + 1, os⟩) (ox := ox) (od := some oD) X I hm ?_)))
  refine wpAny_pure ?_
  show wpAny _ _ (handedOut (.ref D)) _ _ _
  rw [handedOut_of (v := .ref D) rfl]
  first
    | exact wpAny_pure (wpAny_pure h)
    | exact wpAny_pure h
    | exact wpAny_pure (wpAny_bind (wpAny_pure (wpAny_pure h)))
theorem xs_kitx (hga : findIn K (.ref D) "__getattribute__" = some (some (.builtin "BaseException.__getattribute__"))) (hgt : findIn K (.ref D) "__getattr__" = some none) (hsub : subIn K (.ref D) (.type "BaseException") = some true) (hdct : hasDictIn K D = true) (ha : findIn K (.ref D) "__class__" = some (some (.builtin "object.__class__")))
    (hn : specialIn K (.builtin "object.__class__") "__get__" = some (some (.builtin "getset_descriptor.__get__"))) (htk : takesIn K (.builtin "object.__class__") = some true) (hm : mroIn K D (.type "object") = some true) :
    KitX K (.ref x) (.ref D) (fun h => InstAt h x ox D (some oD)) :=
  let Z := handS_kitx_exc (x := x) (ox := ox) hga hgt hsub hdct ha hn htk hm
  { ty := fun _ _ _ I => I.type
    it := fun _ _ X _ => by
      obtain ⟨cdD, hcD, _⟩ := any_some hdct
      unfold clsIn at hcD
      split at hcD
      · rename_i ho
        intro A' Q' E' s' k q
        unfold isType loadHead
        exact wpAny_bind (wpAny_loadPart (k _ _ (X _ _ ho)) (wpAny_pure q))
      · cases hcD
    ne := Z.ne
    ca := fun X I k => xs_class hga hgt hsub hdct ha hn htk hm X I k }
end
end PySem.W
namespace L2.VW
open PySem PySem.Spec PyProof.Rows
/-! ### isinstance(e, C), isinstance(e, (C, D)), e the error that a clause has caught -/
def kitV (K : PySem.W.Frag) (D : Addr) : V → Bool → Prop
  | .ref C, b => PySem.W.kitOne K (.ref D) (.ref C) = some b
  | .ty T, b => PySem.W.kitOne K (.ref D) (.type T) = some b
  | _, _ => False
def rIsX (K : PySem.W.Frag) (a : Addr) (cls : Value) (od : Option Addr) : List V → Hp → VK → Prop := fun xs H Q => ∃ (D : Addr) (c : V) (b : Bool), xs = [.ref a, c] ∧ cls = .ref D ∧ ExcC K D ∧ (∀ dx, od = some dx → ∃ fs, H dx = some (.xd fs)) ∧
  (kitV K D c b ∨ ∃ tp cs us, c = .ref tp ∧ H tp = some (.tup cs) ∧ Paired ClsV cs us ∧ PySem.W.kitAny K (.ref D) us = some b) ∧ Q (.bl b) H
theorem call_isX {X : Cx} {a : Addr} {cls : Value} {d : Option Addr} {oe : Obj} {pn : List (Addr × Obj)} (hz : Zc cls d oe) (hf : ∃ vs, oe.data = .fields vs) : CallR (X.suite a ((a, oe) :: pn)) (.builtin "isinstance") (rIsX X.K a cls d) := by
  intro pins s σ H xs us Q I r h
  obtain ⟨D, c, b, rfl, rfl, C, hd, hk, q⟩ := h
  obtain ⟨u1, u2, rfl, r1, r2⟩ := vals2 r
  cases (show u1 = Value.ref a from r1)
  obtain ⟨hget, _⟩ := I.pin (a, oe) (List.mem_append.mpr (.inl List.mem_cons_self))
  have J : ∃ od, PySem.W.InstAt s.heap a oe D od ∧ PySem.W.KitX X.K (.ref a) (.ref D) (fun h => PySem.W.InstAt h a oe D od) := by
    obtain ⟨vs, hv⟩ := hf
    obtain ⟨oc, od, oda, osl⟩ := oe
    obtain ⟨h1, h2⟩ := hz
    dsimp only at h1 h2 hv
    subst h1 hv
    cases d with
    | none =>
      subst h2
      exact ⟨none, ⟨hget, rfl, rfl, trivial⟩, PySem.W.handS_kitx_exc C.hg C.hk C.hs C.hd C.ha C.hn C.ht C.hm⟩
    | some dx =>
      subst h2
      obtain ⟨fs, ed⟩ := hd dx rfl
      obtain ⟨m, hn, _⟩ := (show ObjOk X.prog X.w H s.heap dx (.xd fs) from I.hok dx _ ed)
      obtain ⟨od, hod, _⟩ := lookIn_ns hn
      exact ⟨some od, ⟨hget, rfl, rfl, hod⟩, PySem.W.xs_kitx C.hg C.hk C.hs C.hd C.ha C.hn C.ht C.hm⟩
  obtain ⟨od, J, Z⟩ := J
  rcases hk with hk | ⟨tp, cs, us, rfl, hT, k, hk⟩
  · have ek : PySem.W.kitOne X.K (.ref D) u2 = some b := by
      cases c with
      | ref C' => cases (show u2 = Value.ref C' from r2); exact hk
      | ty T => cases (show u2 = Value.type T from r2); exact hk
      | _ => exact hk.elim
    exact PySem.W.kia_one Z I.kIn J ek (fun z => nomatch z) fun tk => ⟨.bl b, H, I.kept (t' := tk) fun _ _ z => z, rfl, q⟩
  · cases (show u2 = Value.ref tp from r2)
    obtain ⟨_, its, rv, o, h1, h2, n, h3⟩ := (show ObjOk X.prog X.w H s.heap tp (.tup cs) from I.hok tp _ hT)
    have e3 := ClsV.all k rv
    subst e3
    obtain ⟨oc, od', dt, sl⟩ := o
    simp only at h2 h3
    subst h2 h3
    exact PySem.W.kia_tup Z I.kIn J h1 hk (fun z => nomatch z) fun tk => ⟨.bl b, H, I.kept (t' := tk) fun _ _ z => z, rfl, q⟩
/-- the class asked for, or the classes -/
inductive KitD (K : PySem.W.Frag) (D : Addr) : VW.D → Bool → Prop
  | own {C : Addr} {b : Bool} : PySem.W.kitOne K (.ref D) (.ref C) = some b → KitD K D (.ref C) b
  | ty {T : String} {b : Bool} : PySem.W.kitOne K (.ref D) (.type T) = some b → KitD K D (.ty T) b
  | two {A B : Addr} {b : Bool} : PySem.W.kitAny K (.ref D) [.ref A, .ref B] = some b → KitD K D (.tup [.ref A, .ref B]) b
  | four {A B C E : Addr} {b : Bool} : PySem.W.kitAny K (.ref D) [.ref A, .ref B, .ref C, .ref E] = some b → KitD K D (.tup [.ref A, .ref B, .ref C, .ref E]) b
  | five {A B C E G : Addr} {b : Bool} : PySem.W.kitAny K (.ref D) [.ref A, .ref B, .ref C, .ref E, .ref G] = some b → KitD K D (.tup [.ref A, .ref B, .ref C, .ref E, .ref G]) b
def dIsX (K : PySem.W.Frag) (a C : Addr) : List D → Sto → PV → Prop := fun xs S P => ∃ (y : D) (b : Bool), xs = [.ref a, y] ∧ ExcC K C ∧ KitD K C y b ∧ P (.bl b) S
section
variable {K : PySem.W.Frag} {F0 : Hp}
theorem refs_of {F : Hp} : ∀ {vs : List V} {As : List Addr}, VdAll K F vs (As.map D.ref) → vs = As.map V.ref
  | _, [], .nil => rfl
  | _, _ :: _, .cons a b => by cases a; rw [refs_of b]; rfl
theorem clsv_refs : ∀ As : List Addr, Paired ClsV (As.map V.ref) (As.map Value.ref)
  | [] => .nil
  | A :: r => .cons (.own A) (clsv_refs r)
instance {a C : Addr} {ods : Option (List (Str × D))} {b : XB K F0 ods} : UpC K F0 (rIsX K a (.ref C) b.od) (dIsX K a C) := ⟨fun {vs xs H Q F S P} r hv ⟨y, bb, e, ec, hk, p⟩ le => by
  subst e
  obtain ⟨v, rfl, vy⟩ : ∃ v, vs = [.ref a, v] ∧ Vd K F v y := by
    cases hv with
    | cons h1 t =>
      cases t with
      | cons h2 t =>
        cases t; cases h1
        exact ⟨_, rfl, h2⟩
  have hx := b.at_
  have hd : ∀ dx, b.od = some dx → ∃ fs, H dx = some (.xd fs) := fun dx e => by
    generalize b.od = od at hx e
    cases hx with
    | none => cases e
    | some h1 h2 h3 => cases e; exact ⟨_, r.fr _ _ (r.s0 _ _ h1)⟩
  refine ⟨C, v, bb, rfl, rfl, ec, hd, ?_, le _ _ _ _ _ p (Same.refl _) r (.bl bb)⟩
  have tups : ∀ {As : List Addr}, Vd K F v (.tup (As.map D.ref)) → PySem.W.kitAny K (.ref C) (As.map Value.ref) = some bb → kitV K C v bb ∨ ∃ tp cs us, v = .ref tp ∧ H tp = some (.tup cs) ∧ Paired ClsV cs us ∧ PySem.W.kitAny K (.ref C) us = some bb := fun {As} hv hk => by
    cases hv with
    | tup ht hvs =>
      rw [refs_of hvs] at ht
      exact .inr ⟨_, _, _, rfl, r.fr _ _ ht, clsv_refs As, hk⟩
  cases hk with
  | own h => cases vy; exact .inl h
  | ty h => cases vy; exact .inl h
  | @two A B b h => exact tups (As := [A, B]) vy h
  | @four A B C' E b h => exact tups (As := [A, B, C', E]) vy h
  | @five A B C' E G b h => exact tups (As := [A, B, C', E, G]) vy h⟩
end
end L2.VW

/-! ## own objects: == and != by the class's own __eq__, whatever stands at the right; isinstance with both answers -/
namespace PySem.W
open PySem PySem.Spec PySem.Calls PyProof.Rows
section
variable {prog : Program} {w : World} {A : Around} {E : Value → Shared → Prop} {s : Shared} {K : Frag} {x C f : Addr} {ox : Obj} {od : Option Obj} {name : Str} {b tb : Value} {L : Addr} {h₀ : Heap} {m : Str → Option Value}
theorem ifBound_slot {M : Model} {id : String} {args : List Value} {Q : Option Value → Shared → Prop} (X : K.In s.heap) (I : InstAt s.heap x ox C od) (hs : findIn K (.ref C) name = some (some (.builtin id))) (S : ∀ self, bindSpecial (.builtin id) self = pure (.builtin id, [self]))
    (h : wpAny M A (call (.builtin id) (.ref x :: args)) (fun v => Q (some v)) E s) : wpAny M A (callSpecialIfBound? (.ref x) name args) Q E s := by
  simp only [callSpecialIfBound?, bindSpecialIfBound?]
  refine wpAny_holding (wpAny_bind (wpAny_bind (wpAny_bind (I.type.here ((looks_findIn X hs).here ?_)))))
  simp only [S]
  refine wpAny_bind (wpAny_askSetting (wpAny_ite ?_))
  have fin : wpAny M A (call (.builtin id) ([.ref x] ++ args) >>= fun v => pure (some v)) Q E s := wpAny_bind (wpAny_mono h (fun v s' h' => wpAny_pure h') fun _ _ h' => h')
  split
  · exact wpAny_bind (wpAny_pure (wpAny_pure fin))
  · exact wpAny_tryCatch (wpAny_bind (wpAny_pure (wpAny_pure fin)))
theorem objNe_K {Q : Fin → Shared → Prop} (X : K.In s.heap) (I : InstAt s.heap x ox C od) (he : findIn K (.ref C) "__eq__" = some (some (.ref f))) (hf : isFn K (.ref f) = true) (hu : A.units < cLine)
    (h : wpAny (model prog w) A (call (.ref f) [.ref x, b]) (fun v s' => ∃ r, v = .bool r ∧ Q (.done (.ret (.bool (!r)))) s') E s) : wpAny (model prog w) A (Builtin.«object.__ne__» ⟨[.ref x, b], []⟩) Q E s := by
  obtain ⟨hp, g, d, t, os⟩ := s
  unfold Builtin.«object.__ne__»
  repeat (first
    | with_reducible refine wpAny_cRoomFor hu ?_
    | (refine wpAny_bind (m := callSpecialIfBound? (.ref x) (Str.ofString "__eq__") [b]) (ifBound_K X I he hf (wpAny_mono h (fun v s' hr => by
          obtain ⟨r, rfl, hq⟩ := hr
          repeat (first | exact hq | exact wpAny_pure hq | exact wpAny_truthy_bool hq | (refine wpAny_bind (m := truthy (.bool _)) (wpAny_truthy_bool ?_)) | wp_step)) fun _ _ e => e)))
    | wp_step)
theorem ne_Own {Q : Value → Shared → Prop} (hu : A.units + 1 < cLine) (F : Fr h₀ L s.heap m) (X₀ : K.In h₀) (I : InstAt s.heap x ox C od) (hb : Looks (model prog w) s.heap (typeOf b) tb) (hn : notFirst K C tb = true)
    (hne : findIn K (.ref C) "__ne__" = some (some (.builtin "object.__ne__"))) (he : findIn K (.ref C) "__eq__" = some (some (.ref f))) (hf : isFn K (.ref f) = true) (ho : subIn K (.ref C) (.type "object") = some true)
    (h : wpAny (model prog w) A.in1 (call (.ref f) [.ref x, b]) (fun v s' => ∃ r, v = .bool r ∧ Q (.bool (!r)) s') E s) : wpAny (model prog w) A (richCompare .NotEq (.ref x) b) Q E s := by
  have X := X₀.keeps F.keep
  have one : wpAny (model prog w) A (tryCompare (.ref x) "__ne__" b) (fun r s' => ∃ v, r = some v ∧ Q v s') E s := by
    unfold tryCompare
    refine wpAny_bind (ifBound_slot X I hne (fun self => PySem.F.slot_object_ne.bind self) (wpAny_call (codeAny_call_builtin PySem.F.slot_object_ne.plain PySem.F.entry_object_ne
      (check_slot PySem.F.cmpKind_ne PySem.F.cmpSplit_ne (I.type.andThen (looks_subIn X ho)) (PySem.F.cmpArgs_ne _ _) (objNe_K (A := A.in1) X I he hf hu (wpAny_mono h (fun v s' hv => ?_) fun _ _ e => e))))))
    obtain ⟨r, rfl, hq⟩ := hv
    first | exact ⟨r, rfl, wpAny_pure ⟨_, rfl, hq⟩⟩ | exact ⟨r, rfl, wpAny_pure (wpAny_pure ⟨_, rfl, hq⟩)⟩
  unfold richCompare
  simp only [oneThing_ref]
  refine wpAny_holding (wpAny_bind (wpAny_cRoomFor (Nat.lt_of_succ_lt hu) ?_))
  rw [cmpInfo_NotEq]
  dsimp only
  refine wpAny_bind (I.type.here (wpAny_bind (hb.here ?_)))
  split
  · rename_i q
    have e : subIn K tb (.ref C) = some false := by
      rcases Bool.or_eq_true_iff.mp hn with e | e
      · rw [beq_iff_eq.mp e] at q; simp at q
      · exact beq_iff_eq.mp e
    refine wpAny_bind ((looks_subIn X e).here ?_)
    simp only [Bool.false_eq_true, if_false]
    refine wpAny_bind (wpAny_mono one (fun r s' z => ?_) fun _ _ e => e)
    obtain ⟨v, rfl, hq⟩ := z
    exact wpAny_pure hq
  · refine wpAny_bind (wpAny_pure ?_)
    simp only [Bool.false_eq_true, if_false]
    refine wpAny_bind (wpAny_mono one (fun r s' z => ?_) fun _ _ e => e)
    obtain ⟨v, rfl, hq⟩ := z
    exact wpAny_pure hq
end
end PySem.W
namespace L2
open PySem PySem.Spec PyProof.Rows
/-- what == and isinstance ask of an own class beside other things -/
structure InsX (K : PySem.W.Frag) (C : Addr) : Prop where
  o : InsO K C
  ne : PySem.W.findIn K (.ref C) "__ne__" = some (some (.builtin "object.__ne__"))
  ob : PySem.W.subIn K (.ref C) (.type "object") = some true
  sN : PySem.W.subIn K (.type "NoneType") (.ref C) = some false
  sS : PySem.W.subIn K (.type "str") (.ref C) = some false
  sL : PySem.W.subIn K (.type "list") (.ref C) = some false
  sT : PySem.W.subIn K (.type "tuple") (.ref C) = some false
  kN : PySem.W.kitOne K (.type "NoneType") (.ref C) = some false
  kS : PySem.W.kitOne K (.type "str") (.ref C) = some false
  kL : PySem.W.kitOne K (.type "list") (.ref C) = some false
  kT : PySem.W.kitOne K (.type "tuple") (.ref C) = some false
/-- the type of the thing at the right: the class itself, or one of four -/
inductive InsX.Ty (C : Addr) : Value → Bool → Prop
  | own : InsX.Ty C (.ref C) true
  | non : InsX.Ty C (.type "NoneType") false
  | str : InsX.Ty C (.type "str") false
  | lst : InsX.Ty C (.type "list") false
  | tup : InsX.Ty C (.type "tuple") false
section
variable {K : PySem.W.Frag} {C : Addr} {t : Value} {b : Bool}
theorem InsX.kit (c : InsX K C) (h : InsX.Ty C t b) : PySem.W.kitOne K t (.ref C) = some b := by
  cases h with
  | own => exact kitOne_self
  | non => exact c.kN
  | str => exact c.kS
  | lst => exact c.kL
  | tup => exact c.kT
theorem InsX.nf (c : InsX K C) (h : InsX.Ty C t b) : PySem.W.notFirst K C t = true := by
  cases h with
  | own => simp [PySem.W.notFirst]
  | non => unfold PySem.W.notFirst; rw [c.sN]; rfl
  | str => unfold PySem.W.notFirst; rw [c.sS]; rfl
  | lst => unfold PySem.W.notFirst; rw [c.sL]; rfl
  | tup => unfold PySem.W.notFirst; rw [c.sT]; rfl
end
def rIsI (K : PySem.W.Frag) (C : Addr) : List V → Hp → VK → Prop := fun xs H Q => ∃ x t b, xs = [x, .ref C] ∧ TyX K H x t ∧ InsX.Ty C t b ∧ Q (.bl b) H
def rEqX (K : PySem.W.Frag) (C : Addr) (sp : Sp) : R2 := fun x y H Q => ∃ a dx fs t b, x = .ref a ∧ H a = some (.ins C dx fs) ∧ TyX K H y t ∧ InsX.Ty C t b ∧ sp [x, y] H (fun v H' => ∃ r, v = .bl r ∧ Q (.bl r) H') (fun _ _ _ => False)
def rNeX (K : PySem.W.Frag) (C : Addr) (sp : Sp) : R2 := fun x y H Q => ∃ a dx fs t b, x = .ref a ∧ H a = some (.ins C dx fs) ∧ TyX K H y t ∧ InsX.Ty C t b ∧ sp [x, y] H (fun v H' => ∃ r, v = .bl r ∧ Q (.bl (!r)) H') (fun _ _ _ => False)
section
variable {X : Cx}
theorem call_isI {C : Addr} (c : InsX X.K C) : CallR X (.builtin "isinstance") (rIsI X.K C) := by
  intro pins s σ H xs us Q I r h
  obtain ⟨x, t, b, rfl, ty, ht, q⟩ := h
  exact call_isi pins s σ H _ us Q I r ⟨x, .ref C, t, .ref C, b, rfl, .own C, ty, c.kit ht, q⟩
theorem op_eqX {n : Nat} {C f : Addr} {fd : FuncData} {ps : List Str} {sp : Sp} (c : InsX X.K C) (F : FnOk X.prog X.w X.K X.mg X.base (fun _ _ _ _ _ _ => False) n f fd ps sp) (m : Meth X.K C "__eq__" f) (hb : Binds X.K fd ps []) (hr : Room n X.A) :
    OpR X (compareOp .Eq) (rEqX X.K C sp) := by
  intro pins s σ H x y v u Q I rx ry d
  obtain ⟨a, dx, fs, t, b, rfl, ha, ty, ht, hsp⟩ := d
  show wpAny (model X.prog X.w) X.A (richCompare .Eq v u) (EP X pins σ Q) X.xe s
  obtain ⟨P, Z, pp, _⟩ := kit_of I ry ty
  cases rx
  obtain ⟨mA, J, _⟩ := ins_get I.hok ha
  obtain ⟨od, J, _⟩ := J.look
  obtain ⟨m', hF⟩ := I.fr
  refine PySem.W.cmp_K (op := .Eq) (tb := t) hr.units0 hF I.ok.mod.kin J (Z.ty _ _ I.kIn pp) (c.nf ht) m.at_ m.fn ?_
  have e0 : Env0 X.prog X.w X.K X.mg X.base X.A X.stack s H := I.env0
  have hl := F.len _ _ _ _ hsp
  have r2 : Vals [V.ref a, y] [Value.ref a, u] := .cons rfl (.cons ry .nil)
  refine wpAny_call (codeAny_mono (F.run X.A X.stack s H ⟨[.ref a, u], []⟩ [.ref a, u] [.ref a, y] _ _ hr e0 (by
    have := hb s [.ref a, u] I.kIn (by simpa using hl)
    simpa using this) r2 hsp) fun r s' hq => ?_)
  cases r with
  | error e => exact False.elim hq
  | ok fl =>
    cases fl with
    | ret w =>
      obtain ⟨z, H', I', rz, bb, ez, q⟩ := I.after hq
      subst ez
      cases rz
      exact ⟨.bl bb, H', I', rfl, q⟩
    | next => exact False.elim hq
    | brk => exact False.elim hq
    | cont => exact False.elim hq
theorem op_neX {n : Nat} {C f : Addr} {fd : FuncData} {ps : List Str} {sp : Sp} (c : InsX X.K C) (F : FnOk X.prog X.w X.K X.mg X.base (fun _ _ _ _ _ _ => False) n f fd ps sp) (m : Meth X.K C "__eq__" f) (hb : Binds X.K fd ps []) (hr : Room (n + 1) X.A) :
    OpR X (compareOp .NotEq) (rNeX X.K C sp) := by
  intro pins s σ H x y v u Q I rx ry d
  obtain ⟨a, dx, fs, t, b, rfl, ha, ty, ht, hsp⟩ := d
  show wpAny (model X.prog X.w) X.A (richCompare .NotEq v u) (EP X pins σ Q) X.xe s
  obtain ⟨P, Z, pp, _⟩ := kit_of I ry ty
  cases rx
  obtain ⟨mA, J, _⟩ := ins_get I.hok ha
  obtain ⟨od, J, _⟩ := J.look
  obtain ⟨m', hF⟩ := I.fr
  refine PySem.W.ne_Own (tb := t) (by have := hr.units; omega) hF I.ok.mod.kin J (Z.ty _ _ I.kIn pp) (c.nf ht) c.ne m.at_ m.fn c.ob ?_
  have e0 : Env0 X.prog X.w X.K X.mg X.base X.A.in1 X.stack s H := I.env0.in1
  have hl := F.len _ _ _ _ hsp
  have r2 : Vals [V.ref a, y] [Value.ref a, u] := .cons rfl (.cons ry .nil)
  refine wpAny_call (codeAny_mono (F.run X.A.in1 X.stack s H ⟨[.ref a, u], []⟩ [.ref a, u] [.ref a, y] _ _ hr.in1 e0 (by
    have := hb s [.ref a, u] I.kIn (by simpa using hl)
    simpa using this) r2 hsp) fun r s' hq => ?_)
  cases r with
  | error e => exact False.elim hq
  | ok fl =>
    cases fl with
    | ret w =>
      obtain ⟨z, H', I', rz, bb, ez, q⟩ := I.after hq
      subst ez
      cases rz
      exact ⟨bb, rfl, .bl (!bb), H', I', rfl, q⟩
    | next => exact False.elim hq
    | brk => exact False.elim hq
    | cont => exact False.elim hq
end
end L2
namespace L2.VW
open PySem PySem.Spec PyProof.Rows
section
variable {K : PySem.W.Frag} {F0 : Hp}
/-- what stands at the right: an object of the class that may change, or something of four types -/
inductive InsR (S : Sto) (C : Addr) : D → Bool → Prop
  | own {x : D} {ds : List (Str × D)} : Ins S x C ds → InsR S C x true
  | non : InsR S C .non false
  | str (z : Str) : InsR S C (.str z) false
  | tup (xs : List D) : InsR S C (.tup xs) false
  | lst (xs : List D) : InsR S C (.lst xs) false
  | ref {a : Addr} {xs : List D} : S a = some (.lst xs) → InsR S C (.ref a) false
theorem InsR.at {F H : Hp} {S : Sto} {C : Addr} {v : V} {x : D} {b : Bool} (c : InsX K C) (r : RelH K F0 F S H) (hv : Vd K F v x) (h : InsR S C x b) : ∃ t, TyX K H v t ∧ InsX.Ty C t b := by
  cases h with
  | own hi =>
    obtain ⟨a, dx, fs, rfl, e1, kp⟩ := hi.at r hv
    exact ⟨_, .base (.ins e1 c.o.cl c.o.ha c.o.hn c.o.htk c.o.hm), .own⟩
  | non => cases hv; exact ⟨_, .base .non, .non⟩
  | str z => cases hv; exact ⟨_, .base (.str z), .str⟩
  | tup xs =>
    cases hv with
    | tup ht _ => exact ⟨_, .base (.tup (r.fr _ _ ht)), .tup⟩
  | lst xs =>
    cases hv with
    | lst ht _ => exact ⟨_, .base (.lst (r.fr _ _ ht)), .lst⟩
  | ref e =>
    cases hv
    obtain ⟨xs, e4, _⟩ := r.lst e
    exact ⟨_, .base (.lst e4), .lst⟩
def dIsI (K : PySem.W.Frag) (C : Addr) : List D → Sto → PV → Prop := fun xs S P => ∃ x b, xs = [x, .ref C] ∧ InsX K C ∧ InsR S C x b ∧ P (.bl b) S
def dEqX (K : PySem.W.Frag) (C : Addr) (spd : SpD) : R2D := fun x y S P => ∃ ds b, Ins S x C ds ∧ InsX K C ∧ InsR S C y b ∧ spd [x, y] S (fun v S2 => ∃ b, v = .bl b ∧ P (.bl b) S2) noX
def dNeX (K : PySem.W.Frag) (C : Addr) (spd : SpD) : R2D := fun x y S P => ∃ ds b, Ins S x C ds ∧ InsX K C ∧ InsR S C y b ∧ spd [x, y] S (fun v S2 => ∃ b, v = .bl b ∧ P (.bl (!b)) S2) noX
instance {C : Addr} : UpC K F0 (rIsI K C) (dIsI K C) := ⟨fun {vs xs H Q F S P} r hv ⟨x, b, e, ix, hi, p⟩ le => by
  subst e
  cases hv with
  | cons hv bb =>
    cases bb with
    | cons hc bb =>
      cases bb; cases hc
      obtain ⟨t, h1, h2⟩ := hi.at ix r hv
      exact ⟨_, t, b, rfl, h1, h2, le _ _ _ _ _ p (Same.refl _) r (.bl _)⟩⟩
instance {C : Addr} {spd : SpD} : UpR K F0 (rEqX K C (upSp K spd)) (dEqX K C spd) := ⟨fun {v u x y H Q F S P} r hv hu ⟨ds, b, hi, ix, hj, h⟩ le => by
  obtain ⟨a, dx, fs, rfl, e1, kp⟩ := hi.at r hv
  obtain ⟨t, h1, h2⟩ := hj.at ix r hu
  refine ⟨a, dx, fs, t, b, rfl, e1, h1, h2, upSp.at (F0 := F0) (E := noE) (PE := noX) r (.cons hv (.cons hu .nil)) h fun y S2 F2 H2 v2 ⟨n, en, p⟩ s2 r2 vv => ?_⟩
  subst en; cases vv
  exact ⟨n, rfl, le _ _ _ _ _ p s2 r2 (.bl n)⟩⟩
instance {C : Addr} {spd : SpD} : UpR K F0 (rNeX K C (upSp K spd)) (dNeX K C spd) := ⟨fun {v u x y H Q F S P} r hv hu ⟨ds, b, hi, ix, hj, h⟩ le => by
  obtain ⟨a, dx, fs, rfl, e1, kp⟩ := hi.at r hv
  obtain ⟨t, h1, h2⟩ := hj.at ix r hu
  refine ⟨a, dx, fs, t, b, rfl, e1, h1, h2, upSp.at (F0 := F0) (E := noE) (PE := noX) r (.cons hv (.cons hu .nil)) h fun y S2 F2 H2 v2 ⟨n, en, p⟩ s2 r2 vv => ?_⟩
  subst en; cases vv
  exact ⟨n, rfl, le _ _ _ _ _ p s2 r2 (.bl (!n))⟩⟩
end
end L2.VW

/-! ## calls in a try's body: a method without arguments, a def; != of two lists of the very same objects -/
namespace L2.MX
open PySem PySem.Spec PyProof.Rows
def tCallE (sp : Sp) (dvs : List V) (E : St → XK) (t : TA) : TE := fun σ H Q => t σ H fun vs H1 => sp (vs ++ dvs) H1 Q (E σ)
section
variable {X : Cx} {CX : CXT} {k : Nat} {f C : Addr} {fd : FuncData} {ps : List Str} {sp : Sp} {dvs : List V} {ds : List Value} {E : St → XK} {x m : Str} {p pos apos : Pos} {e o : Expr} {es : List Expr} {ta : TE} {t : TA}
theorem pe_meth0E {pl : Sem Bool} (he : PE X o ta) (c : Cls X.K C) (hm : Meth X.K C m f) (F : FnOk X.prog X.w X.K X.mg X.base CX k f fd ps sp) (hr : Room k X.A) (hb : Binds X.K fd ps ds) (hd : Vals dvs ds) (hx : ∀ σ, PassesAt CX X σ (E σ))
    (ht : eval (.Call (.Attribute o m apos) [] [] pos) X.env = (do
      let ov ← eval o X.env
      standAt apos.atName
      let (f, first) ← holding [ov] (getMethod ov m pl)
      callWith pos f first (backTo pos (starEach [] X.env)) (backToKw pos (keywordEach [] X.env))) := by rfl) :
    PE X (.Call (.Attribute o m apos) [] [] pos) (tMethE C m sp dvs E ta tNil) := by
  refine ⟨fun pins s σ H Q I h => ?_⟩
  refine PySem.W.methodCall_KW (pl := pl) (thn (he.run pins s σ H _ I h) fun u s1 ⟨x, H1, I1, rx, a, dx, fs, ex, ea, l, q⟩ => ?_) ht
  subst ex
  obtain rfl : u = Value.ref a := rx
  refine getmeth_ok I1 ea c hm l ?_
  exact PySem.W.callWith_K0 (first := [.ref a]) I1.kIn hm.kp (run_fnSD (us := [.ref a]) (vs := [.ref a]) F hr hb hd (hx σ) I1 (.cons rfl .nil) q)
theorem pe_callE (F : FnOk X.prog X.w X.K X.mg X.base CX k f fd ps sp) (hr : Room k X.A) (hg : Gl X x) (hm : X.mg x = some (.ref f)) (hk : PySem.W.keepIn X.K (.ref f) = true) (hb : Binds X.K fd ps ds) (hd : Vals dvs ds) (hx : ∀ σ, PassesAt CX X σ (E σ))
    (ha : PA X (e :: es) t) (hdb : (x == ("__debug__" : Str)) = false := by decide) (he : starEach (e :: es) X.env = (false, eval e X.env) :: starEach es X.env := by rfl) (hpl : (backTo pos (starEach es X.env)).any (·.1) = false := by rfl) :
    PE X (.Call (.Name x p) (e :: es) [] pos) (tCallE sp dvs E t) := by
  refine ⟨fun pins s σ H Q I h => ?_⟩
  refine wpAny_Call_Name_kw (ld_glob I hg hm ?_ hdb)
  refine PySem.W.callWith_K (h₀ := X.base) I.ok.mod.kin hk (thn (ha.run pos pins s σ H _ I h) fun us s1 ⟨vs, H1, I1, r, q⟩ => ⟨I1.kIn, ?_⟩) he hpl
  exact run_fnSD F hr hb hd (hx σ) I1 r q
end
end L2.MX
namespace L2
open PySem PySem.Spec PyProof.Rows
def rNeRf (K : PySem.W.Frag) : R2 := fun x y H Q => ∃ (a b : Addr) (as : List Addr), x = .ref a ∧ y = .ref b ∧ SqL K H a (as.map V.ref) ∧ SqL K H b (as.map V.ref) ∧ Q (.bl false) H
theorem vals_same : ∀ {as : List Addr} {us : List Value}, Vals (as.map V.ref) us → us = as.map Value.ref
  | [], us, h => by cases h; rfl
  | a :: as, us, h => by
    cases h with
    | cons h t => cases (show _ = Value.ref a from h); rw [vals_same t]; rfl
theorem op_neRf {X : Cx} (hu : X.A.units + 64 < cLine) : OpR X (compareOp .NotEq) (rNeRf X.K) := by
  intro pins s σ H x y v u Q I rx ry h
  obtain ⟨a, b, as, rfl, rfl, ha, hb, q⟩ := h
  obtain rfl : v = Value.ref a := rx
  obtain rfl : u = Value.ref b := ry
  obtain ⟨us, r1, p1, _⟩ := I.list ha
  obtain ⟨ws, r2, p2, _⟩ := I.list hb
  obtain rfl := vals_same r1
  obtain rfl := vals_same r2
  refine SeqAt.RcNeAt.lists (e := fun _ => true) p1.isList p2.isList rfl (by omega) (fun j h1 h2 => ?_) _ _ _ _ ?_
  · have e : ((as.map Value.ref).toArray)[j] = Value.ref (as[j]'(by simpa using h1)) := by simp
    rw [e]; exact SeqAt.EqAt.same _
  · rw [show (List.range (as.map Value.ref).toArray.size).all (fun _ => true) = true from List.all_eq_true.mpr fun _ _ => rfl]
    exact ⟨.bl false, H, I, rfl, q⟩
end L2
namespace L2.VW
open PySem PySem.Spec PyProof.Rows
section
variable {K : PySem.W.Frag} {F0 : Hp}
structure SameRefs (ds es : List D) : Prop where
  ex : ∃ as : List Addr, ds = as.map D.ref ∧ es = as.map D.ref
def dNeRf : R2D := fun x y S P => ∃ ds es, SeqL S x ds ∧ SeqL S y es ∧ SameRefs ds es ∧ P (.bl false) S
instance : UpR K F0 (rNeRf K) dNeRf := ⟨fun {v u x y H Q F S P} r hv hu ⟨ds, es, h1, h2, ⟨as, e1, e2⟩, p⟩ le => by
  subst e1; subst e2
  obtain ⟨a, xs, rfl, e1, k1⟩ := h1.at r hv
  obtain ⟨b, ys, rfl, e2, k2⟩ := h2.at r hu
  rw [refs_of k1] at e1; rw [refs_of k2] at e2
  exact ⟨a, b, as, rfl, rfl, e1, e2, le _ _ _ _ _ p (Same.refl _) r (.bl false)⟩⟩
def tMeth0W (C : Addr) (m : Str) (sp : Sp) (dvs : List V) (W : WX) (ta : TE) : TE := tMethW C m sp dvs W ta tNil
def tCallW (sp : Sp) (dvs : List V) (W : WX) (t : TA) : TE := MX.tCallE sp dvs (WE W) t
def dCallW (spd : SpD) (dvs : List V) (WD : WXD) (dt : TAD) : TED := fun env S P => dt env S fun xs S2 => spd (xs ++ dvs.map toD) S2 P fun C ods S3 => WD C ods env S3
instance {spd : SpD} {dvs : List V} {W : WX} {WD : WXD} {t : TA} {dt : TAD} [UpA K F0 t dt] [WLe K F0 W WD] : UpE K F0 (tCallW (upSp K spd) dvs W t) (dCallW spd dvs WD dt) := ⟨fun r0 h le =>
  UpA.up (t := t) (td := dt) r0 h fun xs S2 F2 H2 vs h2 s2 r2 v2 => upSp.atW (W := W) (WD := WD) r0 s2 r2 (v2.app (.to dvs)) h2 (le.mono s2)⟩
end
theorem pe_meth0W {X : Cx} {W : WX} {k : Nat} {f C : Addr} {fd : FuncData} {ps : List Str} {sp : Sp} {dvs : List V} {ds : List Value} {m : Str} {pos apos : Pos} {o : Expr} {ta : TE} {pl : Sem Bool} (he : PE X o ta) (c : Cls X.K C) (hm : Meth X.K C m f) (F : FnOk X.prog X.w X.K X.mg X.base (L2.CX X.prog X.w) k f fd ps sp) (hr : Room k X.A) (hb : Binds X.K fd ps ds) (hd : Vals dvs ds) (tk : Takes X W)
    (ht : eval (.Call (.Attribute o m apos) [] [] pos) X.env = (do
      let ov ← eval o X.env
      standAt apos.atName
      let (f, first) ← holding [ov] (getMethod ov m pl)
      callWith pos f first (backTo pos (starEach [] X.env)) (backToKw pos (keywordEach [] X.env))) := by rfl) :
    PE X (.Call (.Attribute o m apos) [] [] pos) (tMethW C m sp dvs W ta tNil) := MX.pe_meth0E he c hm F hr hb hd (fun σ => passAt tk σ) ht
theorem pe_callW {X : Cx} {W : WX} {k : Nat} {f : Addr} {fd : FuncData} {ps : List Str} {sp : Sp} {dvs : List V} {ds : List Value} {x : Str} {p pos : Pos} {e : Expr} {es : List Expr} {t : TA} (F : FnOk X.prog X.w X.K X.mg X.base (L2.CX X.prog X.w) k f fd ps sp) (hr : Room k X.A) (hg : Gl X x) (hm : X.mg x = some (.ref f)) (hk : PySem.W.keepIn X.K (.ref f) = true) (hb : Binds X.K fd ps ds) (hd : Vals dvs ds) (tk : Takes X W)
    (ha : PA X (e :: es) t) (hdb : (x == ("__debug__" : Str)) = false := by decide) (he : starEach (e :: es) X.env = (false, eval e X.env) :: starEach es X.env := by rfl) (hpl : (backTo pos (starEach es X.env)).any (·.1) = false := by rfl) :
    PE X (.Call (.Name x p) (e :: es) [] pos) (tCallW sp dvs W t) := MX.pe_callE F hr hg hm hk hb hd (fun σ => passAt tk σ) ha hdb he hpl
end L2.VW

/-! ## a dict that may change, walked: locked while a statement or an expression runs -/
namespace L2.VW
open PySem PySem.Spec PyProof.Rows
def tLkV (t : TE) : TE := tLockE t
def tLkSV (t : TS) : TS := tLock t
theorem pe_lkV {X : Cx} {e : Expr} {t : TE} (h : PE X e t) : PE X e (tLkV t) := pe_lock h
theorem ps_lkV {X : Cx} {st : Stmt} {t : TS} (h : PS X st t) : PS X st (tLkSV t) := ps_lock h
section
variable {K : PySem.W.Frag} {F0 : Hp}
theorem RelH.lockK {F : Hp} {S : Sto} {H : Hp} {a : Addr} {kds : List (Key × D)} {o : Obj} {kvs : List (Key × V)} (r : RelH K F0 F S H) (ha : S a = some (.dK kds)) (e2 : kvs.map (·.1) = kds.map (·.1)) (e3 : VdAll K F (kvs.map (·.2)) (kds.map (·.2))) :
    RelH K F0 F (sup S a (.frK o kvs kds)) (upd H a (.frz o (.dK kvs))) := r.put ha (.frK e2 e3)
theorem RelH.unlockK {F : Hp} {S : Sto} {H : Hp} {a : Addr} {kds : List (Key × D)} {o : Obj} {kvs : List (Key × V)} (r : RelH K F0 F S H) (ha : S a = some (.frK o kvs kds)) :
    H a = some (.frz o (.dK kvs)) ∧ kvs.map (·.1) = kds.map (·.1) ∧ VdAll K F (kvs.map (·.2)) (kds.map (·.2)) ∧ RelH K F0 F (sup S a (.dK kds)) (upd H a (.dK kvs)) := by
  obtain ⟨_, ho, e, l⟩ := r.tr a _ ha
  cases l with
  | frK e1 e2 => exact ⟨e, e1, e2, r.put ha (.dK e1 e2)⟩
def dLkV (de : TED) : TED := fun env S P => ∃ a kds, S a = some (.dK kds) ∧ ∀ o kvs, de env (sup S a (.frK o kvs kds)) fun v S' => S' a = some (.frK o kvs kds) ∧ P v (sup S' a (.dK kds))
instance {t : TE} {de : TED} [UpE K F0 t de] : UpE K F0 (tLkV t) (dLkV de) := ⟨fun {σ H Q F S env P} r0 h le => by
  obtain ⟨a, kds, ha, h⟩ := h
  obtain ⟨kvs, e1, e2, e3⟩ := r0.h.dK ha
  refine ⟨a, .dK kvs, e1, True.intro, fun od => ?_⟩
  refine UpE.up (t := t) (td := de) ⟨r0.h.lockK (o := od) ha e2 e3, r0.s⟩ (h od kvs) fun v S' F' H' u ⟨hl, p⟩ s' r' hv => ?_
  obtain ⟨k1, _, _, k4⟩ := r'.unlockK hl
  exact ⟨k1, le _ _ _ _ _ p s' k4 hv⟩⟩
def dLkSV (de : TSD) : TSD := fun P env S => ∃ a kds, S a = some (.dK kds) ∧ ∀ o kvs, de ⟨fun env' S' => S' a = some (.frK o kvs kds) ∧ P.nx env' (sup S' a (.dK kds)), fun v S' => S' a = some (.frK o kvs kds) ∧ P.rt v (sup S' a (.dK kds)),
  fun env' S' => S' a = some (.frK o kvs kds) ∧ P.bk env' (sup S' a (.dK kds)), fun env' S' => S' a = some (.frK o kvs kds) ∧ P.ct env' (sup S' a (.dK kds))⟩ env (sup S a (.frK o kvs kds))
instance {t : TS} {de : TSD} [UpS K F0 t de] : UpS K F0 (tLkSV t) (dLkSV de) := ⟨fun {σ H Q F S env P} r0 h le => by
  obtain ⟨a, kds, ha, h⟩ := h
  obtain ⟨kvs, e1, e2, e3⟩ := r0.h.dK ha
  refine ⟨a, .dK kvs, e1, True.intro, fun od => ?_⟩
  refine UpS.up (t := t) (td := de) ⟨r0.h.lockK (o := od) ha e2 e3, r0.s⟩ (h od kvs) ⟨?_, ?_, ?_, ?_⟩
  · intro env' S' F' σ' H' ⟨hl, p⟩ s' r'
    obtain ⟨k1, _, _, k4⟩ := r'.h.unlockK hl
    exact ⟨k1, le.nx _ _ _ _ _ p s' ⟨k4, r'.s⟩⟩
  · intro v S' F' H' u ⟨hl, p⟩ s' r' hv
    obtain ⟨k1, _, _, k4⟩ := r'.unlockK hl
    exact ⟨k1, le.rt _ _ _ _ _ p s' k4 hv⟩
  · intro env' S' F' σ' H' ⟨hl, p⟩ s' r'
    obtain ⟨k1, _, _, k4⟩ := r'.h.unlockK hl
    exact ⟨k1, le.bk _ _ _ _ _ p s' ⟨k4, r'.s⟩⟩
  · intro env' S' F' σ' H' ⟨hl, p⟩ s' r'
    obtain ⟨k1, _, _, k4⟩ := r'.h.unlockK hl
    exact ⟨k1, le.ct _ _ _ _ _ p s' ⟨k4, r'.s⟩⟩⟩
/-! ### what walks the locked dict -/
def iKeysL (td : TE) : TI := iKeys td
def iKeysML (td : TE) : TI := iKeysM td
def iValsL (td : TE) : TI := iVals td
def iItemsL (td : TE) : TI := iItems td
theorem pi_keysL {X : Cx} {tg e : Expr} {td : TE} (he : PE X e td) : PI X tg e (iKeysL td) := pi_keys he
theorem pi_valuesL {X : Cx} {tg e : Expr} {td : TE} {apos cpos : Pos} (he : PE X e td) (hbase : attributeBase e "values" X.env (eval e X.env) = eval e X.env := by rfl) (hline : (apos.endLine == cpos.line) = true := by rfl) : PI X tg (.Call (.Attribute e "values" apos) [] [] cpos) (iValsL td) := pi_values he hbase hline
theorem pi_itemsL {X : Cx} {e : Expr} {td : TE} {apos cpos : Pos} {elts : List Expr} {kk : Nat} {tpos : Pos} (he : PE X e td) (hbase : attributeBase e "items" X.env (eval e X.env) = eval e X.env := by rfl) (hline : (apos.endLine == cpos.line) = true := by rfl) :
    PI X (.Tuple elts kk tpos) (.Call (.Attribute e "items" apos) [] [] cpos) (iItemsL td) := pi_items he hbase hline
theorem pi_keysML {X : Cx} {tg e : Expr} {td : TE} {apos cpos : Pos} (he : PE X e td) (hbase : attributeBase e "keys" X.env (eval e X.env) = eval e X.env := by rfl) (hline : (apos.endLine == cpos.line) = true := by rfl) : PI X tg (.Call (.Attribute e "keys" apos) [] [] cpos) (iKeysML td) := pi_keysM he hbase hline
/-- a locked dict -/
def Lckd (S : Sto) (x : D) (a : Addr) (o : Obj) (kvs : List (Key × V)) (kds : List (Key × D)) : Prop := x = .ref a ∧ S a = some (.frK o kvs kds)
def okL (a : Addr) (o : Obj) (kvs : List (Key × V)) (kds : List (Key × D)) (S : Sto) : Prop := S a = some (.frK o kvs kds)
def wKL (a : Addr) (o : Obj) (kvs : List (Key × V)) (kds : List (Key × D)) : WD := ⟨kds.length, okL a o kvs kds, fun i d => ∃ k e, kds[i]? = some (k, e) ∧ d = kD k⟩
def wVL (a : Addr) (o : Obj) (kvs : List (Key × V)) (kds : List (Key × D)) : WD := ⟨kds.length, okL a o kvs kds, fun i d => ∃ k, kds[i]? = some (k, d)⟩
def wIL (a : Addr) (o : Obj) (kvs : List (Key × V)) (kds : List (Key × D)) : WD := ⟨kds.length, okL a o kvs kds, fun i d => ∃ k e, kds[i]? = some (k, e) ∧ d = .tup [kD k, e]⟩
def jKeysL (da : TED) : TID := fun env S P => da env S fun x S1 => ∃ a o kvs kds, Lckd S1 x a o kvs kds ∧ P (wKL a o kvs kds) S1
def jValsL (da : TED) : TID := fun env S P => da env S fun x S1 => ∃ a o kvs kds, Lckd S1 x a o kvs kds ∧ P (wVL a o kvs kds) S1
def jItemsL (da : TED) : TID := fun env S P => da env S fun x S1 => ∃ a o kvs kds, Lckd S1 x a o kvs kds ∧ P (wIL a o kvs kds) S1
theorem okL.at {F : Hp} {S : Sto} {H : Hp} {a : Addr} {o : Obj} {kvs : List (Key × V)} {kds : List (Key × D)} (r : RelH K F0 F S H) (h : okL a o kvs kds S) : H a = some (.frz o (.dK kvs)) ∧ KP K F kvs kds := by
  obtain ⟨_, ho, e, l⟩ := r.tr a _ h
  cases l with
  | frK e1 e2 => exact ⟨e, .of e1 e2⟩
instance {ta : TE} {da : TED} [UpE K F0 ta da] : UpI K F0 (iKeysL ta) (jKeysL da) := ⟨fun r0 h le =>
  UpE.up (t := ta) (td := da) r0 h fun x S1 F1 H1 v ⟨a, o, kvs, kds, ⟨e0, hs⟩, p⟩ s1 r1 v1 => by
    subst e0; cases v1
    obtain ⟨h1, kp⟩ := okL.at r1 hs
    have hl := kp.len
    refine ⟨a, o, rfl, .inl ⟨kvs, h1, le _ _ _ _ _ p s1 r1 ⟨fun i F S H hi s r ok => ⟨(okL.at r ok).1, by rw [hl]; exact hi⟩, fun F S H s r ok => ⟨(okL.at r ok).1, by rw [hl]; exact Nat.le_refl _⟩, fun i F S H x H' hi s r ok hy => ?_⟩⟩⟩
    obtain ⟨rfl, k, v, e, rfl⟩ := hy
    obtain ⟨d, h1, h2⟩ := kp.at e
    exact ⟨F, kD k, Same.refl _, r, Same.refl _, vd_keyV, k, d, h1, rfl⟩⟩
instance {ta : TE} {da : TED} [UpE K F0 ta da] : UpI K F0 (iKeysML ta) (jKeysL da) := ⟨fun r0 h le =>
  UpE.up (t := ta) (td := da) r0 h fun x S1 F1 H1 v ⟨a, o, kvs, kds, ⟨e0, hs⟩, p⟩ s1 r1 v1 => by
    subst e0; cases v1
    obtain ⟨h1, kp⟩ := okL.at r1 hs
    have hl := kp.len
    refine ⟨a, o, kvs, rfl, h1, le _ _ _ _ _ p s1 r1 ⟨fun i F S H hi s r ok => ⟨(okL.at r ok).1, by rw [hl]; exact hi⟩, fun F S H s r ok => ⟨(okL.at r ok).1, by rw [hl]; exact Nat.le_refl _⟩, fun i F S H x H' hi s r ok hy => ?_⟩⟩
    obtain ⟨rfl, k, v, e, rfl⟩ := hy
    obtain ⟨d, h1, h2⟩ := kp.at e
    exact ⟨F, kD k, Same.refl _, r, Same.refl _, vd_keyV, k, d, h1, rfl⟩⟩
instance {ta : TE} {da : TED} [UpE K F0 ta da] : UpI K F0 (iValsL ta) (jValsL da) := ⟨fun r0 h le =>
  UpE.up (t := ta) (td := da) r0 h fun x S1 F1 H1 v ⟨a, o, kvs, kds, ⟨e0, hs⟩, p⟩ s1 r1 v1 => by
    subst e0; cases v1
    obtain ⟨h1, kp⟩ := okL.at r1 hs
    have hl := kp.len
    refine ⟨a, o, kvs, rfl, h1, le _ _ _ _ _ p s1 r1 ⟨fun i F S H hi s r ok => ⟨(okL.at r ok).1, by rw [hl]; exact hi⟩, fun F S H s r ok => ⟨(okL.at r ok).1, by rw [hl]; exact Nat.le_refl _⟩, fun i F S H x H' hi s r ok hy => ?_⟩⟩
    obtain ⟨rfl, k, e⟩ := hy
    obtain ⟨d, h1, h2⟩ := (okL.at r ok).2.at e
    exact ⟨F, d, Same.refl _, r, Same.refl _, h2, k, h1⟩⟩
instance {ta : TE} {da : TED} [UpE K F0 ta da] : UpI K F0 (iItemsL ta) (jItemsL da) := ⟨fun r0 h le =>
  UpE.up (t := ta) (td := da) r0 h fun x S1 F1 H1 v ⟨a, o, kvs, kds, ⟨e0, hs⟩, p⟩ s1 r1 v1 => by
    subst e0; cases v1
    obtain ⟨h1, kp⟩ := okL.at r1 hs
    have hl := kp.len
    refine ⟨a, o, kvs, rfl, h1, le _ _ _ _ _ p s1 r1 ⟨fun i F S H hi s r ok => ⟨(okL.at r ok).1, by rw [hl]; exact hi⟩, fun F S H s r ok => ⟨(okL.at r ok).1, by rw [hl]; exact Nat.le_refl _⟩, fun i F S H x H' hi s r ok hy => ?_⟩⟩
    obtain ⟨T, k, v, e, rfl, hT, rfl⟩ := hy
    obtain ⟨d, h1, h2⟩ := (okL.at r ok).2.at e
    obtain ⟨F', s2, r2, g2, v2⟩ := pair_new (F1 := F) r hT vd_keyV h2
    exact ⟨F', _, s2, r2, g2, v2, k, d, h1, rfl⟩⟩
end
end L2.VW
namespace L2.VW
open PySem PySem.Spec PyProof.Rows
def tLcM (wi : TI) (g : TG) (tt : TT) (te : TE) (vs : List Nat) : TE := tLc wi g tt te vs
/-- what a comprehension asks whose list may change later -/
structure LcM (w : WD) (gd : TGD) (ttd : TTD) (ed : TED) (vs : List Nat) (env : EnvD) (P : PV) (S1 : Sto) : Prop where
  ex : ∀ L, S1 L = none → ∃ I : Nat → List D → Sto → Prop, I 0 [] (sup S1 L (.lst [])) ∧
    (∀ i acc S, i ≤ w.n → I i acc S → S L = some (.lst acc) ∧ w.ok S) ∧
    (∀ i d acc S, i < w.n → w.item i d → I i acc S → gd d (wipeD env vs) S fun env2 S2 => ttd env2 S2 fun b S3 => if b = true then ed env2 S3 fun y S4 => S4 L = some (.lst acc) ∧ acc.length < sizeLine ∧ I (i + 1) (acc ++ [y]) (sup S4 L (.lst (acc ++ [y]))) else I (i + 1) acc S3) ∧
    ∀ acc S, I w.n acc S → P (.ref L) S
def dLcM (wd : TID) (gd : TGD) (ttd : TTD) (ed : TED) (vs : List Nat) : TED := fun env S P => wd env S fun w S1 => LcM w gd ttd ed vs env P S1
section
variable {K : PySem.W.Frag} {F0 : Hp}
instance {wi : TI} {wd : TID} {g : TG} {gd : TGD} {tt : TT} {ttd : TTD} {te : TE} {ed : TED} {vs is : List Nat} [UpI K F0 wi wd] [UpG K F0 g gd] [UpT K F0 tt ttd] [UpE K F0 te ed] [GFr g is] [Sub is vs] : UpE K F0 (tLcM wi g tt te vs) (dLcM wd gd ttd ed vs) := ⟨fun {σ H Q F S env P} r0 h le =>
  UpI.up (t := wi) (td := wd) r0 h fun w S1 F1 H1 J q s1 r1 lk => fun L hD => by
    obtain ⟨I, i0, hok, hs, hd⟩ := q.ex L (r1.free hD).2
    have rD := r1.new hD (.lst (xs := []) (ds := []) .nil)
    refine ⟨fun i m H => m = w.n - i ∧ i ≤ w.n ∧ ∃ F S acc, Same F1 F ∧ RelH K F0 F S H ∧ I i acc S, ⟨_, rfl, Nat.zero_le _, F1, _, [], Same.refl _, rD, i0⟩, ?_⟩
    rintro i m H ⟨rfl, hi, F, S, acc, s2, r2, p⟩
    obtain ⟨eD, ok⟩ := hok i acc S hi p
    by_cases c : i < w.n
    · refine .inr ⟨lk.goes i F S H c s2 r2 ok, fun H' => ∃ F S acc, Same F1 F ∧ RelH K F0 F S H' ∧ I (i + 1) acc S, fun H' q => ⟨w.n - (i + 1), by omega, rfl, c, q⟩, fun x H' hy => ?_⟩
      obtain ⟨F3, d, s3, r3, _, v3, hit⟩ := lk.yields i F S H x H' c s2 r2 ok hy
      have s03 := s1.trans (s2.trans s3)
      refine GFr.mono (g := g) (is := is) (fun σ' H' ⟨q, l1, f1⟩ => ⟨wipe_fr (is := is) (Sub.sub) l1 f1, q⟩) (GFr.fr (g := g) (is := is) (UpG.up (t := g) (td := gd) (F := F3) (env := wipeD env vs) ⟨r3, wipe_rel (r0.s.mono s03) vs⟩ v3 (hs i d acc S c hit p) fun env4 S4 F4 σ4 H4 h4 s4 r4 =>
        UpT.up (t := tt) (td := ttd) r4 h4 fun b S5 F5 H5 h5 s5 r5 => ?_))
      cases b with
      | false => exact ⟨F5, S5, acc, ((s2.trans s3).trans s4).trans s5, r5, h5⟩
      | true =>
        refine UpE.up (t := te) (td := ed) (r4.at s5 r5) h5 fun y S6 F6 H6 u ⟨e6, hl, p6⟩ s6 r6 v6 => ?_
        obtain ⟨xs, e7, h7⟩ := r6.lst e6
        exact ⟨xs, e7, by rw [h7.len]; exact hl, F6, _, _, (((s2.trans s3).trans s4).trans s5).trans s6, r6.put e6 (.lst (h7.app (.cons v6 .nil))), p6⟩
    · have e : i = w.n := by omega
      subst e
      exact .inl ⟨lk.stops F S H s2 r2 ok, le _ _ _ _ _ (hd acc S p) (s1.trans s2) r2 (.ref L)⟩⟩
end
theorem pe_lcM {X : Cx} {elt tg iter : Expr} {ifs : List Expr} {scope : Scope} {own : List (Str × Nat)} {pos : Pos} {wi : TI} {g : TG} {tt : TT} {te : TE} (hc : X.calm = true) (hN : X.N.Nodup) (hi : PI X tg iter wi) (ok : BlkOk X.N X.env.scope scope own)
    (hg : ∀ (s : Shared) (H : Hp) (C : Addr) (cl : List (Str × Addr)) (fp : List Addr), PG (X.blk s H scope (compEnvC scope cl C X.env) fp) tg g) (ht : ∀ (s : Shared) (H : Hp) (C : Addr) (cl : List (Str × Addr)) (fp : List Addr), PTs (X.blk s H scope (compEnvC scope cl C X.env) fp) ifs tt)
    (he : ∀ (s : Shared) (H : Hp) (C : Addr) (cl : List (Str × Addr)) (fp : List Addr), PE (X.blk s H scope (compEnvC scope cl C X.env) fp) elt te) (hs : ∀ x, foldedSetIterable iter X.env x = pure x := by intro _; rfl) :
    PE X (.ListComp elt [⟨tg, iter, ifs, 0⟩] scope pos) (tLcM wi g tt te (own.map (·.2))) := pe_lc hc hN hi ok hg ht he hs
theorem ps_setLcM {X : Cx} {i : Nat} {y : Str} {py : Pos} {elt tg iter : Expr} {ifs : List Expr} {scope : Scope} {own : List (Str × Nat)} {pos spos : Pos} {wi : TI} {g : TG} {tt : TT} {te : TE} (hc : X.calm = true) (hN : X.N.Nodup) (hy : X.N[i]? = some y) (hyl : X.env.scope.names.lookup y = some .local)
    (hsw : swapsWith (.ListComp elt [⟨tg, iter, ifs, 0⟩] scope pos) (some (.Name y py)) spos.line X.env = pure true) (hi : PI X tg iter wi) (ok : BlkOk X.N X.env.scope scope own)
    (hg : ∀ (s : Shared) (H : Hp) (C : Addr) (cl : List (Str × Addr)) (fp : List Addr), PG (X.blk s H scope (compEnvC scope cl C X.env) fp) tg g) (ht : ∀ (s : Shared) (H : Hp) (C : Addr) (cl : List (Str × Addr)) (fp : List Addr), PTs (X.blk s H scope (compEnvC scope cl C X.env) fp) ifs tt)
    (he : ∀ (s : Shared) (H : Hp) (C : Addr) (cl : List (Str × Addr)) (fp : List Addr), PE (X.blk s H scope (compEnvC scope cl C X.env) fp) elt te) (hs : ∀ x, foldedSetIterable iter X.env x = pure x := by intro _; rfl) :
    PS X (.Assign [.Name y py] (.ListComp elt [⟨tg, iter, ifs, 0⟩] scope pos) spos) (tAsg (tLcM wi g tt te (own.map (·.2))) (gName i)) := ps_setLc hc hN hy hyl hsw hi ok hg ht he hs
/-- a comprehension whose list may change later, that leaves all else as it was -/
theorem lcM_pure {w : WD} {gd : TGD} {ttd : TTD} {ed : TED} {vs : List Nat} {env : EnvD} {S1 : Sto} {P : PV} (xs : List D) (f : D → Option D) (hn : w.n = xs.length) (hi : ∀ i d, w.item i d → xs[i]? = some d) (hl : xs.length < sizeLine)
    (hok : ∀ L acc, S1 L = none → w.ok (sup S1 L (.lst acc)))
    (ht : ∀ (d : D) (S : Sto) (Zy : D → Sto → Prop) (Zn : Sto → Prop), d ∈ xs → (∀ a o, S1 a = some o → S a = some o) → (∀ y, f d = some y → Zy y S) → (f d = none → Zn S) →
      gd d (wipeD env vs) S fun env2 S2 => ttd env2 S2 fun b S3 => if b = true then ed env2 S3 Zy else Zn S3)
    (hp : ∀ L, S1 L = none → P (.ref L) (sup S1 L (.lst (xs.filterMap f)))) :
    LcM w gd ttd ed vs env P S1 := ⟨fun L hL => by
  refine ⟨fun i acc S => acc = (xs.take i).filterMap f ∧ S = sup S1 L (.lst acc), ⟨rfl, rfl⟩, fun i acc S _ ⟨_, e⟩ => ?_, fun i d acc S hlt hit ⟨e1, e2⟩ => ?_, fun acc S ⟨e1, e2⟩ => ?_⟩
  · subst e
    exact ⟨sup_same, hok L _ hL⟩
  · have hx := hi i d hit
    have ht1 : xs.take (i + 1) = xs.take i ++ [d] := by rw [List.take_add_one, hx]; rfl
    have hal : acc.length < sizeLine := by
      rw [e1]
      refine Nat.lt_of_le_of_lt (List.length_filterMap_le _ _) ?_
      rw [List.length_take]; omega
    refine ht d S _ _ (List.mem_of_getElem? hx) (fun a o e => by rw [e2, sup_ne (sne_of e hL)]; exact e) (fun y hy => ?_) (fun hy => ?_)
    · subst e2
      refine ⟨sup_same, hal, ?_, by rw [sup_sup]⟩
      rw [ht1, List.filterMap_append, ← e1, List.filterMap_cons, hy]; rfl
    · refine ⟨?_, e2⟩
      rw [ht1, List.filterMap_append, ← e1, List.filterMap_cons, hy]
      simp
  · subst e2
    rw [e1, hn, List.take_length]
    exact hp L hL⟩
end L2.VW

/-! ## a list parted by names; len(set(numbers)); sorted tuples of numbers -/
namespace L2.VW
open PySem PySem.Spec PyProof.Rows
section
variable {K : PySem.W.Frag} {F0 : Hp}
def kLst (n : Nat) (u : TGsD) : TGD := fun x env S P => ∃ xs, SeqL S x xs ∧ xs.length = n ∧ u xs env S P
instance {n : Nat} {u : TGs} {ud : TGsD} [UpGs K F0 u ud] : UpG K F0 (gLst K n u) (kLst n ud) := ⟨fun r0 hv ⟨xs, e, hn, h⟩ le => by
  obtain ⟨a, vs, rfl, hq, hx⟩ := e.at r0.h hv
  exact ⟨a, vs, rfl, hq, by rw [hx.len]; exact hn, UpGs.up (t := u) (td := ud) r0 hx h le⟩⟩
def dLenSet (da : TED) : TED := fun env S P => da env S fun x S1 => ∃ ns : List Int, SeqL S1 x (ns.map D.int) ∧ ns.Nodup ∧ ns.length ≤ 4000 ∧ P (.int (ns.length : Nat)) S1
instance {ta : TE} {da : TED} [UpE K F0 ta da] : UpE K F0 (RZ.tLenSetI K ta) (dLenSet da) := ⟨fun r0 h le =>
  UpE.up (t := ta) (td := da) r0 h fun x S1 F1 H1 v ⟨ns, hs, hn, hl, p⟩ s1 r1 v1 => by
    obtain ⟨a, vs, rfl, hq, hx⟩ := hs.at r1 v1
    rw [VdAll.ints hx] at hq
    exact ⟨a, ns, rfl, hq, hn, hl, le _ _ _ _ _ p s1 r1 (.int _)⟩⟩
/-! ### sorted -/
def tupD (ns : List Int) : D := .tup (ns.map D.int)
def untup : D → List Int
  | .tup xs => xs.map fun x => match x with | .int i => i | _ => 0
  | _ => []
theorem untup_tup (ns : List Int) : untup (tupD ns) = ns := by
  show (ns.map D.int).map _ = ns
  rw [List.map_map]
  have : ((fun x => match x with | D.int i => i | _ => 0) ∘ D.int) = id := by funext i; rfl
  rw [this, List.map_id]
theorem VdAll.perm {F : Hp} {xs ys : List V} (h : xs.Perm ys) : ∀ {ds : List D}, VdAll K F xs ds → ∃ es, VdAll K F ys es ∧ es.Perm ds := by
  induction h with
  | nil => intro ds h; exact ⟨ds, h, List.Perm.refl _⟩
  | cons x t ih =>
    intro ds h
    cases h with
    | cons a b =>
      obtain ⟨es, h1, h2⟩ := ih b
      exact ⟨_ :: es, .cons a h1, h2.cons _⟩
  | swap x y t =>
    intro ds h
    cases h with
    | cons a b =>
      cases b with
      | cons c e => exact ⟨_, .cons c (.cons a e), List.Perm.swap _ _ _⟩
  | trans h1 h2 ih1 ih2 =>
    intro ds h
    obtain ⟨es, a1, a2⟩ := ih1 h
    obtain ⟨fs, b1, b2⟩ := ih2 a1
    exact ⟨fs, b1, b2.trans a2⟩
theorem tup_is {F : Hp} {S : Sto} {H : Hp} {v : V} {ns : List Int} (r : RelH K F0 F S H) (h : Vd K F v (tupD ns)) : TupI K H v ns := by
  obtain ⟨a, xs, rfl, hq, hx⟩ := tup_at r h
  rw [VdAll.ints hx] at hq
  exact ⟨a, rfl, hq⟩
theorem tups_of {es : List D} {nss : List (List Int)} (h : es.Perm (nss.map tupD)) : ∃ mss : List (List Int), es = mss.map tupD ∧ mss.Perm nss := by
  refine ⟨es.map untup, ?_, ?_⟩
  · rw [List.map_map]
    have : ∀ e ∈ es, (tupD ∘ untup) e = e := fun e he => by
      obtain ⟨ns, _, rfl⟩ := List.mem_map.mp (h.mem_iff.mp he)
      show tupD (untup (tupD ns)) = _
      rw [untup_tup]
    conv => lhs; rw [← List.map_id es]
    exact (List.map_congr_left fun e he => (this e he).symm)
  · have := h.map untup
    rw [List.map_map] at this
    have e : (untup ∘ tupD) = id := by funext ns; exact untup_tup ns
    rw [e, List.map_id] at this
    exact this
def dSortU (d : Nat) (B : Int) : List D → Sto → PV → Prop := fun xs S P => ∃ (x : D) (nss : List (List Int)), xs = [x] ∧ SeqL S x (nss.map tupD) ∧ nss.length < 64 ∧ (∀ ns ∈ nss, ns.length = d ∧ TS.Bd B ns) ∧
  ∀ mss : List (List Int), mss.Perm nss → mss.Pairwise (fun n m => TS.code B n ≤ TS.code B m) → P (.lst (mss.map tupD)) S
theorem code_pairs {F : Hp} {S : Sto} {H : Hp} {B : Int} (r : RelH K F0 F S H) : ∀ {ys : List V} {mss : List (List Int)}, VdAll K F ys (mss.map tupD) → ys.Pairwise (fun x y => ∀ n m, TupI K H x n → TupI K H y m → TS.code B n ≤ TS.code B m) → mss.Pairwise (fun n m => TS.code B n ≤ TS.code B m)
  | _, [], _, _ => List.Pairwise.nil
  | y :: ys, m :: mss, h, hp => by
    cases h with
    | cons a t =>
      rw [List.pairwise_cons] at hp ⊢
      refine ⟨fun m' hm' => ?_, code_pairs r t hp.2⟩
      obtain ⟨i, hi⟩ := List.getElem?_of_mem hm'
      obtain ⟨y', hy, hv⟩ := VdAll.get t (show (mss.map tupD)[i]? = some (tupD m') by rw [List.getElem?_map, hi]; rfl)
      have hy := List.mem_of_getElem? hy
      exact hp.1 y' hy m m' (tup_is r a) (tup_is r hv)
instance {d : Nat} {B : Int} : UpC K F0 (rSortU K d B) (dSortU d B) := ⟨fun {vs xs H Q F S P} r hv ⟨x, nss, e, hs, hl, hb, p⟩ le => by
  subst e
  cases hv with
  | cons hv b =>
    cases b
    obtain ⟨a, ws, rfl, hq, hx⟩ := hs.at r hv
    have el : ws.length = nss.length := by rw [hx.len, List.length_map]
    refine ⟨a, ws, rfl, hq, by rw [el]; exact hl, fun w hw => ?_, fun ys q hp ho hq => ?_⟩
    · obtain ⟨i, hi⟩ := List.getElem?_of_mem hw
      obtain ⟨d1, h1, h2⟩ := hx.getL hi
      obtain ⟨ns, hm, rfl⟩ := List.mem_map.mp (List.mem_of_getElem? h1)
      exact ⟨ns, tup_is r h2, (hb ns hm).1, (hb ns hm).2⟩
    · obtain ⟨es, h1, h2⟩ := VdAll.perm hp.symm hx
      obtain ⟨mss, rfl, h3⟩ := tups_of h2
      obtain ⟨s2, r2⟩ := r.newF (ho := .lst ys) hq
      exact le _ _ _ _ _ (p mss h3 (code_pairs r h1 ho)) s2 r2 (.lst upd_same (h1.mono s2))⟩
end
end L2.VW

/-! ## sorted(xs, key=own function) -/
namespace SK
open PySem PySem.Spec PyProof.Rows L2
/-- ints of keys beside items, sorted by the keys -/
def Out {α : Type} (kz : List Int) (vs out : List α) : Prop := ∃ ps : List (Int × α), ps.Perm (kz.zip vs) ∧ out = ps.map Prod.snd ∧ ps.Pairwise (fun p q => p.1 ≤ q.1)
section
variable {X : Cx} {σ : L2.St} {E : Value → Shared → Prop} {s : Shared} {a kS : Addr} {vs : List Value} {kz : List Int} {keys : Array Value} {e e1 : Nat} {P : PySem.Fin → Shared → Prop} {A : Around}
theorem tail_ {prog : Program} {w : World} {st : SortSt} (nk : s.heap.get? kS = some (seqObj "list" keys e)) (na : s.heap.get? a = some (seqObj "list" #[] e1)) (hka : kS ≠ a)
    (hk : IntsAre keys.toList kz) (hlen : kz.length = vs.length) (h64 : vs.length < 64) (hp : (arrOf st).Perm (keys.zip vs.toArray)) (hs : SortedTo (arrOf st) (arrOf st).size) (hfl : failedOf st = none)
    (h : ∀ (h1 h' : Heap) out c, (∀ b o, b ≠ kS → s.heap.get? b = some o → h1.get? b = some o) → (∀ b o, b ≠ a → h1.get? b = some o → h'.get? b = some o) → h'.get? a = some (seqObj "list" out c) → KskOut false kz vs out.toList → P (.done (.ret .none)) { s with heap := h' }) :
    wpAny (model prog w) A (ksk_tail a false e1 (.ref kS) st) P E s := by
  have hsz : keys.size = vs.length := by
    have h1 := hk.length
    rw [Array.length_toList] at h1
    omega
  have hsz2 : (arrOf st).size = vs.length := by rw [hp.size_eq, Array.size_zip, hsz, List.size_toArray, Nat.min_self]
  have hout : ((arrOf st).map (·.2)).size = vs.length := by rw [Array.size_map]; exact hsz2
  have s1 := Heap.SameBut.update s.heap kS (Obj.mapSeq fun _ => (#[] : Array Value))
  have na1 : (s.heap.update kS (Obj.mapSeq fun _ => (#[] : Array Value))).get? a = some (seqObj "list" #[] e1) := (s1.2 a hka.symm).trans na
  have s2 := Heap.SameBut.update (s.heap.update kS (Obj.mapSeq fun _ => (#[] : Array Value))) a (Obj.mapSeq fun _ => (arrOf st).map (·.2))
  obtain ⟨c2, hc2⟩ : ∃ c2, ((s.heap.update kS (Obj.mapSeq fun _ => (#[] : Array Value))).update a (Obj.mapSeq fun _ => (arrOf st).map (·.2))).get? a = some (seqObj "list" ((arrOf st).map (·.2)) c2) :=
    ⟨_, get?_update_seq na1 fun _ => (arrOf st).map (·.2)⟩
  unfold ksk_tail
  try dsimp only
  refine wpAny_bind (listUpdate_at nk rfl ?_ (by rw [hsz, sizeLine_eq]; omega) (Nat.zero_le _))
  refine wpAny_bind (wpAny_letGo ?_)
  refine wpAny_bind (seqEpoch_at na1 rfl ?_)
  refine wpAny_bind (listUpdate_at na1 rfl ?_ (Nat.zero_le _) (Nat.le_trans (Nat.le_of_eq hout) (by rw [sizeLine_eq]; omega)))
  rw [hfl]
  simp only [bne_self_eq_false, Bool.false_eq_true, if_false]
  refine wpAny_pure (h _ _ _ c2 (fun b o n1 q => (s1.2 b n1).trans q) (fun b o n2 q => (s2.2 b n2).trans q) hc2 (ksk_out (b := false) hk hp hs))
theorem end_ {prog : Program} {w : World} (nk : s.heap.get? kS = some (seqObj "list" keys e)) (na : s.heap.get? a = some (seqObj "list" #[] e1)) (hka : kS ≠ a)
    (hk : IntsAre keys.toList kz) (hlen : kz.length = vs.length) (h64 : vs.length < 64)
    (h : ∀ (h1 h' : Heap) out c, (∀ b o, b ≠ kS → s.heap.get? b = some o → h1.get? b = some o) → (∀ b o, b ≠ a → h1.get? b = some o → h'.get? b = some o) → h'.get? a = some (seqObj "list" out c) → KskOut false kz vs out.toList → P (.done (.ret .none)) { s with heap := h' }) :
    wpAny (model prog w) A (ksk_end a false vs.toArray e1 (.ref kS) keys) P E s := by
  have hsz : keys.size = vs.length := by
    have h1 := hk.length
    rw [Array.length_toList] at h1
    omega
  have hzs : (keys.zip vs.toArray).size = vs.length := by rw [Array.size_zip, hsz, List.size_toArray, Nat.min_self]
  unfold ksk_end
  try dsimp only
  rw [if_neg (by decide : ¬ false = true)]
  by_cases h2 : vs.toArray.size < 2
  · rw [if_pos h2, if_pos h2]
    refine wpAny_bind (wpAny_pure ?_)
    rw [StateT.run_pure]
    refine wpAny_bind (wpAny_pure ?_)
    try dsimp only
    refine tail_ (st := SortSt.mk' general' (keys.zip vs.toArray) #[] 7 none) nk na hka hk hlen h64 (Array.Perm.refl _) ?_ rfl h
    intro i j hij hj
    have hj2 : j < (keys.zip vs.toArray).size := hj
    rw [hzs] at hj2
    rw [List.size_toArray] at h2
    have : i = j := by omega
    subst this
    exact Int.le_refl _
  · rw [if_neg h2, if_neg h2]
    rw [List.size_toArray] at h2
    rw [ksk_kind hk (by rw [hsz]; omega)]
    refine wpAny_bind (wpAny_pure ?_)
    refine wpAny_bind (wpAny_mono (wpS_sortRuns (a₀ := keys.zip vs.toArray) (st := SortSt.mk' oneType' (keys.zip vs.toArray) #[] 7 none)
      (Q := fun _ st' => (arrOf st').Perm (keys.zip vs.toArray) ∧ failedOf st' = none ∧ SortedTo (arrOf st') (keys.zip vs.toArray).size)
      (ksk_intKeys hk) ⟨Array.Perm.refl _, rfl, rfl, rfl⟩ (by rw [hzs]; omega) (by rw [hzs]; exact h64) fun st' a1 a2 a3 => ⟨a1, a2, a3⟩) ?_ fun _ _ e => e)
    rintro ⟨⟨⟩, st'⟩ s' ⟨rfl, hp, hf, hs⟩
    try dsimp only
    exact tail_ nk na hka hk hlen h64 hp (by rw [hp.size_eq]; exact hs) hf h
/-! ### tracking what was not tracked so far -/
theorem Un.track {fs ex : List Addr} {H H1 : Hp} {h h1 : Heap} {a : Addr} {o : HO} (u : Un fs ex H H1 h h1) (hn : H1 a = none) (hp : h.objs.size ≤ a) : Un fs ex H (upd H1 a o) h h1 where
  keep := u.keep
  slot := u.slot
  free := fun b v q n x => by rw [upd_ne (Nat.ne_of_lt (Nat.lt_of_lt_of_le (Heap.lt_size q) hp))]; exact u.free b v q n x
  there := u.there
  tups := fun b xs q => by rw [upd_ne (ne_of_none (u.tups b xs q) hn)]; exact u.tups b xs q
  frzs := fun b v xs q => by rw [upd_ne (ne_of_none (u.frzs b v xs q) hn)]; exact u.frzs b v xs q
  tbls := fun b ps q => by
    obtain ⟨more, e⟩ := u.tbls b ps q
    exact ⟨more, by rw [upd_ne (ne_of_none e hn)]; exact e⟩
theorem HOk.track {P : Program} {w : World} {H : Hp} {h : Heap} {a : Addr} {o : HO} (x : HOk P w H h) (hn : H a = none) (new : ObjOk P w (upd H a o) h a o) : HOk P w (upd H a o) h := fun b u e => by
  by_cases hb : b = a
  · subst hb; rw [upd_same] at e; cases e; exact new
  · rw [upd_ne hb] at e
    exact (x b u e).stay (fun c v _ q => q) (fun c q => by rw [upd_ne (ne_of_none q hn)]; exact q) fun c xs q => by rw [upd_ne (ne_of_none q hn)]; exact q
/-- an object of ours that nothing knows of -/
structure Loose (X : Cx) (pins : List (Addr × Obj)) (it : Addr) : Prop where
  loc : it ≠ X.env.locals
  own : X.s_0.heap.objs.size ≤ it
  cel : ∀ x c, X.env.cells.lookup x = some c → c ≠ it
  pin : ∀ p ∈ X.pn ++ pins, p.1 ≠ it
  nof : it ∉ X.fs
theorem Loose.new {pins : List (Addr × Obj)} {H : Hp} {it : Addr} (I : Inv X pins σ H s) (h : s.heap.objs.size ≤ it) : Loose X pins it :=
  ⟨fun e => Nat.not_le_of_lt I.lt (e ▸ h), Nat.le_trans I.sz h, fun x c e z => by
    obtain ⟨v, o, ho, _⟩ := I.cell x c e
    exact Nat.not_le_of_lt (Heap.lt_size ho) (z ▸ h), fun p hp z => Nat.not_le_of_lt (Heap.lt_size (I.pin p hp).1) (z ▸ h), I.nofs h⟩
theorem Inv.track {pins : List (Addr × Obj)} {H : Hp} {it : Addr} {o : HO} (I : Inv X pins σ H s) (l : Loose X pins it) (hn : H it = none) (new : ObjOk X.prog X.w (upd H it o) s.heap it o) : Inv X pins σ (upd H it o) s :=
  ⟨I.ok, I.os, I.bare, Un.track I.base hn l.own, I.loc, I.cell, by rw [upd_ne l.loc.symm]; exact I.free, fun x c e => by rw [upd_ne (l.cel x c e)]; exact I.freeC x c e,
    fun p hp => by rw [upd_ne (l.pin p hp)]; exact I.pin p hp, HOk.track I.hok hn new, I.len⟩
theorem Loose.turn {pins : List (Addr × Obj)} {H : Hp} {it : Addr} {h' : Heap} {t' : Nat} (I : Inv X pins σ H s) (l : Loose X pins it) (hn : H it = none) (k : ∀ b o, b ≠ it → s.heap.get? b = some o → h'.get? b = some o) : Inv X pins σ H { s with heap := h', toks := t' } :=
  I.turned k hn l.loc (.inr l.own) l.cel l.pin
/-- both pinned -/
theorem pin2 {pins : List (Addr × Obj)} {H : Hp} {o1 o2 : Obj} (I : Inv X pins σ H s) (l1 : Loose X pins kS) (l2 : Loose X pins a) (n1 : H kS = none) (n2 : H a = none) (g1 : s.heap.get? kS = some o1) (g2 : s.heap.get? a = some o2)
    (c1 : ∀ v, o1.data ≠ .cell v) (c2 : ∀ v, o2.data ≠ .cell v) : Inv X ((kS, o1) :: (a, o2) :: pins) σ H s :=
  I.pins_of fun p hp => by
    rcases List.mem_cons.mp hp with rfl | hp
    · exact ⟨g1, n1, l1.loc, l1.nof, c1⟩
    rcases List.mem_cons.mp hp with rfl | hp
    · exact ⟨g2, n2, l2.loc, l2.nof, c2⟩
    · exact I.pin p (List.mem_append_right _ hp)
theorem unpin2 {pins : List (Addr × Obj)} {H : Hp} {p1 p2 : Addr × Obj} (I : Inv X (p1 :: p2 :: pins) σ H s) : Inv X pins σ H s :=
  I.pins_of fun p hp => I.pin p (List.mem_append_right _ (List.mem_cons_of_mem _ (List.mem_cons_of_mem _ hp)))
/-! ### the loop over the keys -/
def Ends (X : Cx) (pins : List (Addr × Obj)) (σ : L2.St) (J : List Int → Hp → Prop) (ks : List Int) (u : Value) (s' : Shared) : Prop :=
  ∃ (k : Int) (t : Tok) (H' : Hp), u = .int k t ∧ J (ks ++ [k]) H' ∧ Inv X pins σ H' s'
theorem rest_ {pins : List (Addr × Obj)} {H : Hp} {f : Value} (J : List Int → Hp → Prop) (I : Inv X pins σ H s) (l1 : Loose X pins kS) (l2 : Loose X pins a) (n1 : H kS = none) (n2 : H a = none) (hka : kS ≠ a) (j0 : J [] H)
    (nk : s.heap.get? kS = some (seqObj "list" #[] 0)) (na : s.heap.get? a = some (seqObj "list" #[] e1)) (h64 : vs.length < 64)
    (turn : ∀ (ks : List Int) (x : Value) (pins2 : List (Addr × Obj)) (H' : Hp) (s' : Shared), vs[ks.length]? = some x → J ks H' → Inv X pins2 σ H' s' → wpAny (model X.prog X.w) A (call f [x]) (Ends X pins2 σ J ks) (fun _ _ => False) s')
    (h : ∀ (ks : List Int) (H' : Hp) (s' : Shared) out c, ks.length = vs.length → J ks H' → Inv X pins σ H' s' → H' a = none → s'.heap.get? a = some (seqObj "list" out c) → KskOut false ks vs out.toList → P (.done (.ret .none)) s') :
    wpAny (model X.prog X.w) A (ksk_rest a f false vs.toArray e1 (.ref kS)) P E s := by
  have nc : ∀ (xs : Array Value) (e : Nat) v, (seqObj "list" xs e).data ≠ .cell v := fun xs e v h => by cases h
  unfold ksk_rest
  refine wpAny_bind (wpAny_rule ?_)
  first
    | rw [List.forIn_toArray]
    | (rw [← Array.forIn_toList]; simp only [List.toList_toArray])
    | rw [← Array.forIn_toList]
  refine wpAny_bind (ksk_fold (fun i s' => ∃ (ks : List Int) (H' : Hp) (kA : Array Value) (e : Nat), ks.length = i ∧ J ks H' ∧ Inv X pins σ H' s' ∧ H' kS = none ∧ H' a = none ∧ s'.heap.get? kS = some (seqObj "list" kA e) ∧ s'.heap.get? a = some (seqObj "list" #[] e1) ∧ IntsAre kA.toList ks) vs 0 s
    ⟨[], H, #[], 0, rfl, j0, I, n1, n2, nk, na, .nil⟩ ?step ?done)
  case step =>
    rintro j x s' hx ⟨ks, H', kA, e, hl, hj, I', m1, m2, gk, ga, hk⟩
    rw [Nat.zero_add] at hl
    have hj2 : j < vs.length := (List.getElem?_eq_some_iff.mp hx).1
    have hz : kA.size ≤ vs.length := by
      have h1 := hk.length
      rw [Array.length_toList] at h1
      omega
    refine wpAny_bind (wpAny_attempt (wpAny_mono (turn ks x _ H' s' (by rw [hl]; exact hx) hj (pin2 I' l1 l2 m1 m2 gk ga (nc _ _) (nc _ _))) (fun v s'' he => ?_) fun _ _ hF => hF.elim))
    obtain ⟨k, t2, H2, rfl, hj3, I2⟩ := he
    have p1 := I2.pin (kS, seqObj "list" kA e) (List.mem_append_right _ (.head _))
    have p2 := I2.pin (a, seqObj "list" #[] e1) (List.mem_append_right _ (.tail _ (.head _)))
    have I3 := unpin2 I2
    try dsimp only
    have s1 := Heap.SameBut.update s''.heap kS (Obj.mapSeq (·.push (.int k t2)))
    obtain ⟨c2, hc2⟩ : ∃ c2, (s''.heap.update kS (Obj.mapSeq (·.push (.int k t2)))).get? kS = some (seqObj "list" (kA.push (.int k t2)) c2) := ⟨_, get?_update_seq p1.1 (·.push (.int k t2))⟩
    have ea : (kA.push (Value.int k t2)).toList = kA.toList ++ [Value.int k t2] := by simp
    refine wpAny_bind (listUpdate_at p1.1 rfl ?_ (by rw [sizeLine_eq]; omega) (Nat.le_trans (Nat.le_of_eq (Array.size_push ..)) (by rw [sizeLine_eq]; omega)))
    refine wpAny_pure ⟨rfl, ks ++ [k], H2, kA.push (.int k t2), c2, by rw [List.length_append, hl]; simp, hj3, ?_, p1.2.1, p2.2.1, hc2, (s1.2 a hka.symm).trans p2.1, by rw [ea]; exact ksk_snoc hk⟩
    exact Loose.turn I3 l1 p1.2.1 fun b o nb q => (s1.2 b nb).trans q
  case done =>
    rintro s' ⟨ks, H', kA, e, hl, hj, I', m1, m2, gk, ga, hk⟩
    rw [Nat.zero_add] at hl
    try dsimp only
    refine wpAny_bind (listItems_at gk rfl ?_)
    refine end_ gk ga hka hk hl h64 fun h1 h' out c k1 k2 hc ho => ?_
    have I1 := Loose.turn (t' := s'.toks) I' l1 m1 k1
    have I2 := Loose.turn (t' := s'.toks) I1 l2 m2 k2
    exact h ks H' _ out c hl hj I2 m2 hc ho
/-! ### sorted(xs, key=f) -/
theorem vals_zip : ∀ {items : List V} {its : List Value}, Vals items its → ∀ p ∈ items.zip its, RelV p.1 p.2
  | _, _, .nil, p, h => by cases h
  | _, _, .cons a t, p, h => by
    rw [List.zip_cons_cons] at h
    rcases List.mem_cons.mp h with e | h
    · rw [e]; exact a
    · exact vals_zip t p h
theorem vals_map {α : Type} {g : α → V} {h : α → Value} : ∀ {l : List α}, (∀ x ∈ l, RelV (g x) (h x)) → Vals (l.map g) (l.map h)
  | [], _ => .nil
  | x :: l, k => .cons (k x List.mem_cons_self) (vals_map fun y hy => k y (List.mem_cons_of_mem _ hy))
theorem zip3 {α β : Type} {ks : List Int} : ∀ {items : List α} {its : List β}, items.length = its.length → (ks.zip (items.zip its)).map (fun t => (t.1, t.2.2)) = ks.zip its ∧ (ks.zip (items.zip its)).map (fun t => (t.1, t.2.1)) = ks.zip items := by
  induction ks with
  | nil => intros; exact ⟨rfl, rfl⟩
  | cons k ks ih =>
    intro items its h
    cases items with
    | nil =>
      cases its with
      | nil => exact ⟨rfl, rfl⟩
      | cons u its => cases h
    | cons v items =>
      cases its with
      | nil => cases h
      | cons u its =>
        have := ih (items := items) (its := its) (by simpa using h)
        simp only [List.zip_cons_cons, List.map_cons]
        exact ⟨by rw [this.1], by rw [this.2]⟩
theorem out_lift {ks : List Int} {items : List V} {its : List Value} (rv : Vals items its) {out : List Value} (h : KskOut false ks its out) : ∃ outV, Out ks items outV ∧ Vals outV out := by
  obtain ⟨ps, hp, rfl, ho⟩ := h
  obtain ⟨z1, z2⟩ := zip3 (ks := ks) rv.length
  obtain ⟨l', hl, e⟩ := perm_lift _ hp _ z1
  refine ⟨l'.map fun t => t.2.1, ⟨l'.map fun t => (t.1, t.2.1), ?_, ?_, ?_⟩, ?_⟩
  · rw [← z2]; exact hl.map _
  · rw [List.map_map]; rfl
  · have ho : ps.Pairwise (fun p q => p.1 ≤ q.1) := ho
    rw [← e, List.pairwise_map] at ho
    rw [List.pairwise_map]
    exact ho
  · rw [← e, List.map_map]
    refine vals_map fun t ht => ?_
    exact vals_zip rv t.2 (List.of_mem_zip (hl.mem_iff.mp ht)).2
theorem turn_fn {k : Nat} {f : Addr} {fd : FuncData} {ps : List Str} {sp : Sp} {pins : List (Addr × Obj)} {H : Hp} {J : List Int → Hp → Prop} {ks : List Int} {v : V} {u : Value} {E0 : XK} (F : FnOk X.prog X.w X.K X.mg X.base CX0 k f fd ps sp) (hr : Room (k + 2) X.A) (hb : Binds X.K fd ps [])
    (I : Inv X pins σ H s) (r : RelV v u) (h : sp [v] H (fun y H' => ∃ i, y = .int i ∧ J (ks ++ [i]) H') E0) : wpAny (model X.prog X.w) X.A.in1.in1 (call (.ref f) [u]) (Ends X pins σ J ks) (fun _ _ => False) s := by
  have r2 : Vals [v] [u] := .cons r .nil
  have hl : ([u] ++ []).length = ps.length := by
    rw [List.append_nil, ← r2.length]; exact F.len _ _ _ _ h
  refine wpAny_call (codeAny_mono (F.run X.A.in1.in1 X.stack s H ⟨[u], []⟩ [u] [v] _ E0 hr.in1.in1 I.env0.in1.in1 (by have := hb s [u] I.kIn hl; rw [List.append_nil] at this; exact this) r2 h) fun rs s' hq => ?_)
  cases rs with
  | error e => exact hq
  | ok fl =>
    cases fl with
    | ret z =>
      obtain ⟨y, H', I', ry, i, rfl, hj⟩ := I.after hq
      obtain ⟨t, rfl⟩ : ∃ t, z = Value.int i t := ry
      exact ⟨i, t, H', rfl, hj, I'⟩
    | next => exact False.elim hq
    | brk => exact False.elim hq
    | cont => exact False.elim hq
theorem sorted_own {pins : List (Addr × Obj)} {H : Hp} {l f : Addr} {items : List V} {Q : VK} {J : List Int → Hp → Prop} (I : Inv X pins σ H s) (hs : SqL X.K H l items) (h64 : items.length < 64) (j0 : J [] H)
    (turn : ∀ (ks : List Int) (v : V) (u : Value) (pins2 : List (Addr × Obj)) (H' : Hp) (s' : Shared), items[ks.length]? = some v → RelV v u → J ks H' → Inv X pins2 σ H' s' → wpAny (model X.prog X.w) X.A.in1.in1 (call (.ref f) [u]) (Ends X pins2 σ J ks) (fun _ _ => False) s')
    (q : ∀ (ks : List Int) (H' : Hp) (out : List V) (p : Addr), ks.length = items.length → J ks H' → Out ks items out → H' p = none → Q (.ref p) (upd H' p (.lst out))) :
    wpAny (model X.prog X.w) X.A (call (.builtin "sorted") [.ref l] [(Str.ofString "key", .ref f)]) (EP X pins σ Q) X.xe s := by
  obtain ⟨its, rv, hl, hz⟩ := I.list hs
  have hvl : its.length = items.length := rv.length.symm
  have hl2 := hl.isList
  refine call_function_entry_kw kind_sorted plain_sorted entry_sorted (ksk_s1 _ _) ?_
  unfold Builtin.«sorted»
  refine wpAny_bind (m := checkCount "sorted" 1 1 _) (wpAny_pure ?_)
  refine wpAny_bind (collect_list hl2 ?_ (by rw [sizeLine_eq]; omega))
  refine wpAny_bind (wpAny_newList ?_ (by rw [sizeLine_eq]; omega))
  have hsz : ((s.heap.push (seqObj "list" #[] 0)).update s.heap.objs.size (Obj.mapSeq (· ++ its.toArray))).objs.size = s.heap.objs.size + 1 := by
    rw [Heap.size_update, size_push']
  have hoL : (((s.heap.push (seqObj "list" #[] 0)).update s.heap.objs.size (Obj.mapSeq (· ++ its.toArray))).push (seqObj "list" its.toArray 0)).get? (s.heap.objs.size + 1) = some (seqObj "list" its.toArray 0) := by
    rw [← hsz]; exact Heap.get?_push_size _ rfl
  have keep : ∀ b o, s.heap.get? b = some o → (((s.heap.push (seqObj "list" #[] 0)).update s.heap.objs.size (Obj.mapSeq (· ++ its.toArray))).push (seqObj "list" its.toArray 0)).get? b = some o := fun b o q => by
    have hlt : b < s.heap.objs.size := Heap.lt_size q
    rw [Heap.get?_push_ne _ _ _ (by rw [hsz]; exact Nat.ne_of_lt (Nat.lt_succ_of_lt hlt)), Heap.get?_update_ne _ _ _ _ (Nat.ne_of_lt hlt), Heap.get?_push_ne _ _ _ (Nat.ne_of_lt hlt)]
    exact q
  have hsz3 : (((s.heap.push (seqObj "list" #[] 0)).update s.heap.objs.size (Obj.mapSeq (· ++ its.toArray))).push (seqObj "list" its.toArray 0)).objs.size = s.heap.objs.size + 2 := by
    rw [size_push', hsz]
  show wpAny _ _ _ _ _ { s with heap := ((s.heap.push (seqObj "list" #[] 0)).update s.heap.objs.size (Obj.mapSeq (· ++ its.toArray))).push (seqObj "list" its.toArray 0) }
  rw [hsz]
  generalize ((s.heap.push (seqObj "list" #[] 0)).update s.heap.objs.size (Obj.mapSeq (· ++ its.toArray))).push (seqObj "list" its.toArray 0) = h3 at hoL keep hsz3 ⊢
  have I3 : Inv X pins σ H { s with heap := h3 } := I.kept (t' := s.toks) keep
  have nD : H (s.heap.objs.size + 1) = none := I.hok.fresh (Nat.le_succ _)
  have lD : Loose X pins (s.heap.objs.size + 1) := Loose.new I (Nat.le_succ _)
  generalize s.heap.objs.size + 1 = D at hoL nD lD hsz3 ⊢
  refine wpAny_bind (wpAny_holding (wpAny_call_entry_kw slot_list_sort ⟨_, hoL, rfl⟩ entry_list_sort ?body (ksk_l1 _ _)))
  case body =>
    show wpAny (model X.prog X.w) X.A.in1.in1 (Builtin.«list.sort» ⟨[.ref D], [(Str.ofString "key", .ref f)]⟩) _ _ _
    rw [ksk_t1]
    have s1 := Heap.SameBut.update h3 D (Obj.mapSeq fun _ => (#[] : Array Value))
    obtain ⟨e1, ho1⟩ : ∃ e1, (h3.update D (Obj.mapSeq fun _ => (#[] : Array Value))).get? D = some (seqObj "list" #[] e1) := ⟨_, get?_update_seq hoL fun _ => #[]⟩
    have I4 := Loose.turn (t' := s.toks) I3 lD nD fun b o nb q => (s1.2 b nb).trans q
    have hD : D < h3.objs.size := Heap.lt_size hoL
    unfold ksk_tree
    refine wpAny_bind (listItems_at hoL rfl ?_)
    refine wpAny_bind (listUpdate_at hoL rfl ?_ (by rw [List.size_toArray, sizeLine_eq]; omega) (Nat.zero_le _))
    refine wpAny_bind (seqEpoch_at ho1 rfl ?_)
    refine wpAny_bind (wpAny_newTuple ?_ (by show its.length ≤ _; rw [sizeLine_eq]; omega))
    refine wpAny_bind (wpAny_newList ?_ (Nat.zero_le _))
    refine wpAny_holding ?_
    have k5 : ∀ b o, (h3.update D (Obj.mapSeq fun _ => (#[] : Array Value))).get? b = some o → (((h3.update D (Obj.mapSeq fun _ => (#[] : Array Value))).push (seqObj "tuple" its.toArray 0)).push (seqObj "list" #[] 0)).get? b = some o := fun b o q => Heap.get?_push_of_some _ (Heap.get?_push_of_some _ q)
    have I5 := I4.kept (t' := s.toks) k5
    have hkS : ((h3.update D (Obj.mapSeq fun _ => (#[] : Array Value))).push (seqObj "tuple" its.toArray 0)).objs.size = h3.objs.size + 1 := by rw [size_push', Heap.size_update]
    have lK : Loose X pins (h3.objs.size + 1) := Loose.new I3 (Nat.le_succ _)
    have nK : H (h3.objs.size + 1) = none := I3.hok.fresh (Nat.le_succ _)
    show wpAny _ _ (ksk_rest D (.ref f) false its.toArray e1 (.ref ((h3.update D (Obj.mapSeq fun _ => (#[] : Array Value))).push (seqObj "tuple" its.toArray 0)).objs.size)) _ _ _
    have gk : (((h3.update D (Obj.mapSeq fun _ => (#[] : Array Value))).push (seqObj "tuple" its.toArray 0)).push (seqObj "list" #[] 0)).get? (h3.objs.size + 1) = some (seqObj "list" #[] 0) := by rw [← hkS]; exact Heap.get?_push_size _ rfl
    rw [hkS]
    refine rest_ (s := { s with heap := (((h3.update D (Obj.mapSeq fun _ => (#[] : Array Value))).push (seqObj "tuple" its.toArray 0)).push (seqObj "list" #[] 0)) }) J I5 lK lD nK nD (Nat.ne_of_gt (Nat.lt_succ_of_lt hD)) j0 gk (k5 _ _ ho1) (by rw [hvl]; exact h64) (fun ks x pins2 H' s' hx hj I' => ?_) fun ks H' s' out c hkl hj I' n2 ho hout => ?_
    · have hlt : ks.length < items.length := by rw [← hvl]; exact (List.getElem?_eq_some_iff.mp hx).1
      obtain ⟨u, hu, ru⟩ := Vals.get rv (List.getElem?_eq_getElem hlt)
      rw [hx] at hu; cases hu
      exact turn ks _ x pins2 H' s' (List.getElem?_eq_getElem hlt) ru hj I'
    · obtain ⟨outV, h1, h2⟩ := out_lift rv hout
      have hln : outV.length = items.length := by
        obtain ⟨ps, hp, rfl, _⟩ := h1
        rw [List.length_map, hp.length_eq, List.length_zip, hkl, hvl, Nat.min_self]
      have I6 := Inv.track (o := .lst outV) I' lD n2 ⟨by rw [hln, sizeLine_eq]; omega, out.toList, c, h2, by rw [Array.toArray_toList]; exact ho⟩
      refine ⟨_, rfl, ?_⟩
      exact wpAny_pure ⟨_, rfl, .ref D, _, I6, rfl, q ks H' outV D (hkl.trans hvl) hj h1 n2⟩
def rSortKey (K : PySem.W.Frag) (f : Addr) (sp : Sp) : List V → List V → Hp → VK → Prop := fun vs zs H Q => ∃ (l : Addr) (items : List V) (J : List Int → Hp → Prop), vs = [.ref l] ∧ zs = [.ref f] ∧ SqL K H l items ∧ items.length < 64 ∧ J [] H ∧
  (∀ (ks : List Int) (v : V) (H' : Hp), items[ks.length]? = some v → J ks H' → sp [v] H' (fun y H'' => ∃ i, y = .int i ∧ J (ks ++ [i]) H'') VW.noE) ∧
  ∀ (ks : List Int) (H' : Hp) (out : List V) (p : Addr), ks.length = items.length → J ks H' → Out ks items out → H' p = none → Q (.ref p) (upd H' p (.lst out))
theorem cr_sortOwn {k : Nat} {f : Addr} {fd : FuncData} {ps : List Str} {sp : Sp} (F : FnOk X.prog X.w X.K X.mg X.base CX0 k f fd ps sp) (hr : Room (k + 2) X.A) (hb : Binds X.K fd ps []) : CallRK X (.builtin "sorted") [Str.ofString "key"] (rSortKey X.K f sp) := by
  intro pins s σ H vs zs us ws Q I r rz h
  obtain ⟨l, items, J, rfl, rfl, hs, h64, j0, turn, q⟩ := h
  obtain rfl := Vals.ref1 r
  obtain ⟨w1, rfl, e1⟩ := vals1 rz
  obtain rfl : w1 = Value.ref f := e1
  exact sorted_own I hs h64 j0 (fun ks v u pins2 H' s' hv ru hj I' => turn_fn F hr hb I' ru (turn ks v H' hv hj)) q
end
end SK
namespace L2.VW
open PySem PySem.Spec PyProof.Rows
section
variable {K : PySem.W.Frag} {F0 : Hp}
theorem vd_zip {F : Hp} : ∀ {vs : List V} {ds : List D}, VdAll K F vs ds → ∀ p ∈ vs.zip ds, Vd K F p.1 p.2
  | _, _, .nil, p, h => by cases h
  | _, _, .cons a t, p, h => by
    rw [List.zip_cons_cons] at h
    rcases List.mem_cons.mp h with e | h
    · rw [e]; exact a
    · exact vd_zip t p h
theorem vd_map {α : Type} {F : Hp} {g : α → V} {h : α → D} : ∀ {l : List α}, (∀ x ∈ l, Vd K F (g x) (h x)) → VdAll K F (l.map g) (l.map h)
  | [], _ => .nil
  | x :: l, k => .cons (k x List.mem_cons_self) (vd_map fun y hy => k y (List.mem_cons_of_mem _ hy))
theorem out_vd {F : Hp} {ks : List Int} {vs : List V} {ds : List D} (rv : VdAll K F vs ds) {out : List V} (h : SK.Out ks vs out) : ∃ outD, SK.Out ks ds outD ∧ VdAll K F out outD := by
  obtain ⟨ps, hp, rfl, ho⟩ := h
  obtain ⟨z1, z2⟩ := SK.zip3 (ks := ks) rv.len
  obtain ⟨l', hl, e⟩ := perm_lift _ hp _ z2
  refine ⟨l'.map fun t => t.2.2, ⟨l'.map fun t => (t.1, t.2.2), ?_, ?_, ?_⟩, ?_⟩
  · rw [← z1]; exact hl.map _
  · rw [List.map_map]; rfl
  · rw [← e, List.pairwise_map] at ho
    rw [List.pairwise_map]
    exact ho
  · rw [← e, List.map_map]
    refine vd_map fun t ht => ?_
    exact vd_zip rv t.2 (List.of_mem_zip (hl.mem_iff.mp ht)).2
/-- sorted(xs, key=f): the keys are told, the store stays -/
structure SortKS (f : Addr) (spd : SpD) (xs zs : List D) (S : Sto) (P : PV) : Prop where
  ex : ∃ x ds, xs = [x] ∧ zs = [.ref f] ∧ SeqL S x ds ∧ ds.length < 64 ∧ ∃ ks : List Int, ks.length = ds.length ∧
    (∀ (i : Nat) (d : D) (k : Int), ds[i]? = some d → ks[i]? = some k → ∀ P2 : PV, P2 (.int k) S → spd [d] S P2 noX) ∧ ∀ out, SK.Out ks ds out → P (.lst out) S
def dSortKey (f : Addr) (spd : SpD) (da dk : TAD) : TED := fun env S P => da env S fun xs S1 => dk env S1 fun zs S2 => SortKS f spd xs zs S2 P
instance {f : Addr} {spd : SpD} {ta tk : TA} {da dk : TAD} [UpA K F0 ta da] [UpA K F0 tk dk] : UpE K F0 (tCKw (SK.rSortKey K f (upSp K spd)) ta tk) (dSortKey f spd da dk) := ⟨fun r0 h le =>
  UpA.up (t := ta) (td := da) r0 h fun xs S1 F1 H1 vs h1 s1 r1 v1 => UpA.up (t := tk) (td := dk) (r0.at s1 r1) h1 fun zs S2 F2 H2 ws ⟨x, ds, e1, e2, hs, h64, ks, hkl, hk, p⟩ s2 r2 v2 => by
    subst e1; subst e2
    have v1 := v1.mono s2
    cases v1 with
    | cons hx b =>
      cases b
      cases v2 with
      | cons hz b =>
        cases b
        cases hz
        obtain ⟨a, its, rfl, hq, hv⟩ := hs.at r2 hx
        have el : its.length = ds.length := hv.len
        refine ⟨a, its, fun ks' H' => ks' = ks.take ks'.length ∧ ks'.length ≤ ks.length ∧ ∃ F', Same F2 F' ∧ RelH K F0 F' S2 H', rfl, rfl, hq, by rw [el]; exact h64, ⟨rfl, Nat.zero_le _, F2, Same.refl _, r2⟩, fun ks' v H' hv' ⟨j1, j2, F', s3, r3⟩ => ?_, fun ks' H' out q hl ⟨j1, j2, F', s3, r3⟩ ho hqn => ?_⟩
        · obtain ⟨d, hd, hvd⟩ := hv.getL hv'
          have hlt : ks'.length < ks.length := by rw [hkl, ← el]; exact (List.getElem?_eq_some_iff.mp hv').1
          have hki := List.getElem?_eq_getElem hlt
          refine upSp.at (K := K) (F0 := F0) (E := noE) (PE := noX) (P := fun x S' => x = .int ks[ks'.length] ∧ S' = S2) r3 (.cons (hvd.mono s3) .nil) (hk _ d _ hd hki _ ⟨rfl, rfl⟩) fun x S' F'' H'' y ⟨ex, eS⟩ s4 r4 v4 => ?_
          subst ex; subst eS
          cases v4
          refine ⟨_, rfl, ?_, ?_, F'', s3.trans s4, r4⟩
          · rw [List.length_append]
            show ks' ++ [ks[ks'.length]] = ks.take (ks'.length + 1)
            rw [List.take_add_one, hki, ← j1]; rfl
          · rw [List.length_append]; exact hlt
        · have ek : ks' = ks := by
            rw [j1, hl, el, ← hkl, List.take_length]
          subst ek
          obtain ⟨outD, h1, h2⟩ := out_vd (hv.mono s3) ho
          obtain ⟨s5, r5⟩ := r3.newF (ho := .lst out) hqn
          exact le _ _ _ _ _ (p outD h1) (((s1.trans s2).trans s3).trans s5) r5 (.lst upd_same (h2.mono s5))⟩
end
end L2.VW

/-! ## len(set(ints)), whatever they are -/
namespace SetN
open PySem PySem.Spec PyProof.Rows L2
theorem fm_step (val : Nat → Int) (i : Nat) : firstMet val (i + 1) = if (firstMet val i).any (· == val i) then firstMet val i else firstMet val i ++ [val i] := by rw [firstMet_succ]; rfl
theorem fm_mem (val : Nat → Int) : ∀ (i k : Nat), k < i → val k ∈ firstMet val i
  | 0, _, h => absurd h (Nat.not_lt_zero _)
  | i + 1, k, h => by
    rw [fm_step]
    by_cases c : (firstMet val i).any (· == val i) = true
    · rw [if_pos c]
      by_cases e : k = i
      · obtain ⟨y, hy, ey⟩ := List.any_eq_true.mp c
        rw [e, ← eq_of_beq ey]; exact hy
      · exact fm_mem val i k (by omega)
    · rw [if_neg c]
      by_cases e : k = i
      · rw [e]; exact List.mem_append_right _ (List.mem_singleton.mpr rfl)
      · exact List.mem_append_left _ (fm_mem val i k (by omega))
theorem fm_len1 (val : Nat → Int) (i : Nat) : (firstMet val (i + 1)).length ≤ (firstMet val i).length + 1 := by
  rw [fm_step]
  split
  · exact Nat.le_succ _
  · rw [List.length_append]; exact Nat.le_refl _
theorem fm_lt (val : Nat → Int) {j : Nat} (h : val j ∈ firstMet val j) : ∀ i, j < i → (firstMet val i).length < i
  | 0, hj => absurd hj (Nat.not_lt_zero _)
  | i + 1, hj => by
    by_cases e : j = i
    · subst e
      rw [fm_step, if_pos (List.any_eq_true.mpr ⟨_, h, by simp⟩)]
      exact Nat.lt_succ_of_le (firstMet_length_le val j)
    · have := fm_lt val h i (by omega)
      have := fm_len1 val i
      omega
def cnt (ns : List Int) : Nat := (firstMet (fun i => ns.getD i 0) ns.length).length
theorem cnt_nodup {ns : List Int} (h : ns.Nodup) : cnt ns = ns.length := by
  unfold cnt
  rw [RZ.firstMet_nodup h ns.length (Nat.le_refl _), List.take_length]
theorem cnt_le (ns : List Int) : cnt ns ≤ ns.length := firstMet_length_le _ _
theorem cnt_dup {ns : List Int} (h : ¬ ns.Nodup) : cnt ns < ns.length := by
  have : ∃ i j : Nat, ∃ (hi : i < j) (hj : j < ns.length), ns[i]'(Nat.lt_trans hi hj) = ns[j] := by
    apply Classical.byContradiction
    intro k
    apply h
    rw [List.nodup_iff_pairwise_ne, List.pairwise_iff_getElem]
    intro i j hi hj hij e
    exact k ⟨i, j, hij, hj, e⟩
  obtain ⟨i, j, hi, hj, e⟩ := this
  refine fm_lt _ (j := j) ?_ _ hj
  have := fm_mem (fun i => ns.getD i 0) j i hi
  have e1 : ns.getD i 0 = ns.getD j 0 := by
    rw [List.getD_eq_getElem?_getD, List.getD_eq_getElem?_getD, List.getElem?_eq_getElem hj, List.getElem?_eq_getElem (Nat.lt_trans hi hj), e]
  have this : ns.getD i 0 ∈ firstMet (fun i => ns.getD i 0) j := this
  rw [e1] at this
  exact this
theorem cnt_eq (ns : List Int) : cnt ns = ns.length ↔ ns.Nodup := ⟨fun h => Classical.byContradiction fun k => by have := cnt_dup k; omega, cnt_nodup⟩
def tLenSetN (K : PySem.W.Frag) (ta : TE) : TE := fun σ H Q => ta σ H fun x H1 => ∃ (l : Addr) (ns : List Int), x = .ref l ∧ SqL K H1 l (ns.map V.int) ∧ ns.length ≤ 4000 ∧ Q (.int (cnt ns : Nat)) H1
theorem pe_lenSetN {X : Cx} {a : Expr} {ta : TE} {p p2 q pos : Pos} (hg : Gl X "len") (hm : X.mg "len" = none) (hg2 : Gl X "set") (hm2 : X.mg "set" = none) (ha : PE X a ta) (hc : X.calm = true := by rfl)
    (na : starEach [a] X.env = (false, eval a X.env) :: starEach [] X.env := by rfl) : PE X (.Call (.Name "len" p) [.Call (.Name "set" p2) [a] [] q] [] pos) (tLenSetN X.K ta) := by
  refine ⟨fun pins s σ H Q I h => ?_⟩
  refine Call_ (ld_blt I hg hm boot_len ?_)
  refine PyProof.Rows.callWith_builtin1 (PyProof.Rows.args_cons ?_ rfl) rfl rfl
  refine Call_ (ld_blt I hg2 hm2 boot_set ?_)
  refine PyProof.Rows.callWith_type1 (PyProof.Rows.args_cons (thn (ha.run pins s σ H _ I h) fun v s1 ⟨x, H1, I1, r1, q1⟩ => PyProof.Rows.args_nil ?_) na) na rfl
  obtain ⟨l, ns, rfl, hq, hl, q1⟩ := q1
  cases r1
  obtain ⟨its, r, pl, hz⟩ := I1.list hq
  have hlen : its.toArray.size = ns.length := by rw [List.size_toArray, ← r.length, List.length_map]
  refine call_set_list (I1.ok.hd hc) pl.isList (by simpa using RZ.intsAre_vals r) (by rw [hlen]; unfold scanBound; omega) fun h' tk hS hk => ?_
  refine PyProof.Rows.args_nil ?_
  rw [hlen] at hS
  have hc1 := cnt_le ns
  unfold cnt at hc1 q1
  obtain ⟨o, es, ep, t, ho, hex, hd, _, _, _, hf, hn⟩ := hS
  have I2 : Inv X pins σ H1 { s1 with heap := h', toks := tk } := I1.kept fun b o e => hk b o (Heap.lt_size e) e
  exact call_len_set ho hex hd hf (by rw [hn] <;> omega) ⟨.int _, H1, I2.tok _, ⟨_, by rw [hn]⟩, q1⟩
end SetN
namespace L2.VW
open PySem PySem.Spec PyProof.Rows
section
variable {K : PySem.W.Frag} {F0 : Hp}
def dLenSetN (da : TED) : TED := fun env S P => da env S fun x S1 => ∃ ns : List Int, SeqL S1 x (ns.map D.int) ∧ ns.length ≤ 4000 ∧ P (.int (SetN.cnt ns : Nat)) S1
instance {ta : TE} {da : TED} [UpE K F0 ta da] : UpE K F0 (SetN.tLenSetN K ta) (dLenSetN da) := ⟨fun r0 h le =>
  UpE.up (t := ta) (td := da) r0 h fun x S1 F1 H1 v ⟨ns, hs, hl, p⟩ s1 r1 v1 => by
    obtain ⟨a, vs, rfl, hq, hx⟩ := hs.at r1 v1
    rw [VdAll.ints hx] at hq
    exact ⟨a, ns, rfl, hq, hl, le _ _ _ _ _ p s1 r1 (.int _)⟩⟩
end
end L2.VW

/-! ## xs[::-1] of a list -/
namespace L2
open PySem PySem.Spec PyProof.Rows
theorem rvL_pick (its : List Value) : slicePick its.toArray none none (some (-1)) = its.reverse.toArray := by
  unfold slicePick
  have hs : its.toArray.size = its.length := by simp
  have hb : sliceBounds none none (some (-1)) its.length = ((its.length : Int) - 1, -1, -1) := by
    simp only [sliceBounds, Option.getD_some]
    have h1 : ¬ ((-1 : Int) > 0) := by decide
    simp only [h1, if_false]
  rw [hs, hb]
  show ((sliceRange ((its.length : Int) - 1) (-1) (-1)).filterMap (its.toArray[·]?)).toArray = _
  rw [PySem.W.krv_sliceRange, PySem.W.krv_range, List.filterMap_reverse]
  have h := pick_run its.toArray 0 its.length
  have e : (List.range its.length).map (0 + ·) = List.range its.length := by
    rw [show ((0 + ·) : Nat → Nat) = id from funext fun k => Nat.zero_add k, List.map_id]
  rw [e, List.drop_zero] at h
  rw [h]
  simp
section
variable {X : Cx}
def tRvL (K : PySem.W.Frag) (te : TE) : TE := fun σ H Q => te σ H fun x H1 => ∃ a xs, x = .ref a ∧ SqL K H1 a xs ∧ ∀ p, H1 p = none → Q (.ref p) (upd H1 p (.lst xs.reverse))
theorem pe_rvL {e : Expr} {te : TE} {k : Nat} {p1 p2 p3 pos : Pos} (he : PE X e te) : PE X (.Subscript e (.Slice none none (some (.UnaryOp .USub (.Constant (.int 1) k p1) p2)) p3) pos) (tRvL X.K te) := by
  refine ⟨fun pins s σ H Q I h => ?_⟩
  refine Subscript_ (thn (he.run pins s σ H _ I h) fun v s1 ⟨x, H1, I1, r1, q1⟩ => ?_)
  obtain ⟨a, xs, ex, hx, q⟩ := q1
  subst ex
  cases r1
  have hst : PO X (some (.UnaryOp .USub (.Constant (.int 1) k p1) p2)) (tPart (tUn (rU fun i => .int (-i)) (tC (.int 1)))) := po_some (pe_un un_neg pe_int)
  refine wpAny_Slice (thn (po_none.run pins s1 σ H1 (fun o H2 => o = none ∧ H2 = H1) I1 ⟨rfl, rfl⟩) fun vl s2 ⟨l, H2, I2, pl, el, e2⟩ => ?_)
  subst el e2
  refine thn (po_none.run pins s2 σ H2 (fun o H3 => o = none ∧ H3 = H2) I2 ⟨rfl, rfl⟩) fun vu s3 ⟨u, H3, I3, pu, eu, e3⟩ => ?_
  subst eu e3
  refine thn (hst.run pins s3 σ H3 (fun o H4 => o = some (-1) ∧ H4 = H3) I3 ⟨1, rfl, -1, rfl, rfl, rfl⟩) fun vs s4 ⟨o, H4, I4, ps, eo, e4⟩ => ?_
  subst eo e4
  have I5 : Inv X pins σ H4 { s4 with heap := s4.heap.push { cls := .type "slice", data := .fields #[vl, vu, vs] } } := I4.kept (t' := s4.toks) fun b ob q => Heap.get?_push_of_some _ q
  obtain ⟨its, r, ht, hz⟩ := I5.list hx
  have hlen := r.length
  show wpAny (model X.prog X.w) X.A (subscriptTail e (.Slice none none (some (.UnaryOp .USub (.Constant (.int 1) k p1) p2)) p3) (.ref a) (.ref s4.heap.objs.size)) (EP X pins σ Q) X.xe { s4 with heap := s4.heap.push { cls := .type "slice", data := .fields #[vl, vu, vs] } }
  refine tail_any (ops := [.ref a, .ref s4.heap.objs.size]) ht.isList.typeIs (PySem.slot_list_getitem.lookup) ?_ (by with_unfolding_all rfl)
  refine wpAny_getItem_list_slice ht.isList (Heap.IsSliceOf.new _ vl vu vs) pl pu ps (by decide) ?_ (by rw [List.size_toArray]; omega)
  rw [rvL_pick]
  refine ⟨.ref _, _, I5.laid (t' := s4.toks) (o := .lst xs.reverse) (fun b ob q => Heap.get?_push_of_some _ q) (Nat.le_refl _) ?_, rfl, q _ (I5.hok.fresh (Nat.le_refl _))⟩
  exact ⟨by rw [List.length_reverse]; omega, _, 0, r.reverse, Heap.get?_push_size _ rfl⟩
end
end L2
namespace L2.VW
open PySem PySem.Spec PyProof.Rows
section
variable {K : PySem.W.Frag} {F0 : Hp}
/-- xs[::-1], as data -/
def dRvL (da : TED) : TED := fun env S P => da env S fun x S1 => ∃ ds, SeqL S1 x ds ∧ P (.lst ds.reverse) S1
instance {ta : TE} {da : TED} [UpE K F0 ta da] : UpE K F0 (tRvL K ta) (dRvL da) := ⟨fun r0 h le =>
  UpE.up (t := ta) (td := da) r0 h fun x S1 F1 H1 v ⟨ds, hs, p⟩ s1 r1 v1 => by
    obtain ⟨a, xs, rfl, hl, hx⟩ := hs.at r1 v1
    refine ⟨a, xs, rfl, hl, fun q hq => ?_⟩
    obtain ⟨s2, r2⟩ := r1.newF (ho := .lst xs.reverse) hq
    exact le _ _ _ _ _ p (s1.trans s2) r2 (.lst upd_same ((vd_revs hx).mono s2))⟩
end
end L2.VW

/-! ## list(d.items()): a new list of new pairs; dict(..) of a list or a tuple of pairs -/
namespace L2.VW
open PySem PySem.Spec PyProof.Rows
section
variable {K : PySem.W.Frag} {F0 : Hp}
def dListIt (da : TED) : TED := fun env S P => da env S fun x S1 => ∃ a kds, x = .ref a ∧ S1 a = some (.dK kds) ∧ P (.lst (kds.map fun kd => .tup [kD kd.1, kd.2])) S1
theorem it_kvs {F H' : Hp} : ∀ {ts : List Addr} {kvs : List (Key × V)}, Paired (fun (t : Addr) (q : Key × V) => H' t = some (.tup [kV q.1, q.2])) ts kvs → Paired (fun (t : Addr) (q : V × V) => H' t = some (.tup [q.1, q.2])) ts (kvs.map fun q => (kV q.1, q.2))
  | _, _, .nil => .nil
  | _, _, .cons a t => .cons a (it_kvs (F := F) t)
theorem it_rel {F : Hp} : ∀ {kvs : List (Key × V)} {kds : List (Key × D)}, kvs.map (·.1) = kds.map (·.1) → VdAll K F (kvs.map (·.2)) (kds.map (·.2)) →
    Paired (fun (q : V × V) (d : D) => ∃ x y, d = .tup [x, y] ∧ Vd K F q.1 x ∧ Vd K F q.2 y) (kvs.map fun q => (kV q.1, q.2)) (kds.map fun kd => .tup [kD kd.1, kd.2])
  | [], [], _, _ => .nil
  | [], _ :: _, e, _ => by cases e
  | _ :: _, [], e, _ => by cases e
  | p :: r, q :: t, e, h => by
    have e1 := List.cons.inj e
    cases h with
    | cons a b =>
      have ek : p.1 = q.1 := e1.1
      exact .cons ⟨_, _, rfl, by show Vd K F (kV p.1) (kD q.1); rw [ek]; exact vd_keyV, a⟩ (it_rel e1.2 b)
instance {ta : TE} {da : TED} [UpE K F0 ta da] : UpE K F0 (LiI.tListItems ta) (dListIt da) := ⟨fun r0 h le =>
  UpE.up (t := ta) (td := da) r0 h fun x S1 F1 H1 v ⟨a, kds, e, ha, p⟩ s1 r1 v1 => by
    subst e; cases v1
    obtain ⟨kvs, e1, e2, e3⟩ := r1.dK ha
    refine ⟨a, kvs, rfl, e1, fun H' q ts k1 k2 k3 k4 k5 k6 => ?_⟩
    obtain ⟨F', s2, r2, v2⟩ := newPs_at r1 (show LZ.NewPs _ H' q ts _ from ⟨k1, k2, k3, k4, k5, it_kvs (F := F1) k6⟩) (it_rel e2 e3)
    exact le _ _ _ _ _ p (s1.trans s2) r2 v2⟩
end
end L2.VW
namespace L2
open PySem PySem.Spec PyProof.Rows
section
variable {X : Cx}
/-- tuple(xs) of a list: a tuple that is known to have no dict of its own -/
theorem call_tupN : CallR X (.type "tuple") (fun xs H Q => ∃ p ys, xs = [.ref p] ∧ SqL X.K H p ys ∧ ∀ l o, H l = none → o.dict = none → Q (.ref l) (upd H l (.frz o (.tup ys)))) := by
  intro pins s σ H xs us Q I r h
  obtain ⟨p, ys, rfl, hq, q⟩ := h
  obtain ⟨u, rfl, rx⟩ := vals1 r
  cases rx
  obtain ⟨its, r', pl, hz⟩ := I.list hq
  have hlen := r'.length
  refine call_tuple_list pl.isList (fun h' kp => ?_) (by simp only [List.size_toArray] <;> omega)
  have I1 : Inv X pins σ H { s with heap := h' } := I.kept (t' := s.toks) kp
  have I2 : Inv X pins σ (upd H h'.objs.size (.frz { cls := .type "tuple", data := .seq its.toArray } (.tup ys))) { s with heap := h'.push { cls := .type "tuple", data := .seq its.toArray } } :=
    I1.laid (t' := s.toks) (fun b o e => Heap.get?_push_of_some _ e) (Nat.le_refl _) (show ObjOk X.prog X.w _ _ _ (.frz _ (.tup ys)) from ⟨Heap.get?_push_size _ rfl, hz, its, r', IsTup.new _ _⟩)
  exact ⟨.ref h'.objs.size, _, I2, rfl, q _ _ (I1.hok.fresh (Nat.le_refl _)) rfl⟩
theorem prs_told {h : Heap} {ps : List Addr} : ∀ {prs : List (Key × Value)} (n : Nat), (∀ (j : Nat) (q : Key × Value), prs[j]? = some q → ∃ (b : Addr) (u : Value), ps[n + j]? = some b ∧ IsTup h b #[u, q.2] ∧ keyIs q.1 u = true) →
    ∃ ws : List (Value × Value), ws.length = prs.length ∧ ∀ (j : Nat) (u v : Value), ws[j]? = some (u, v) → ∃ (b : Addr) (k : Key), ps[n + j]? = some b ∧ IsTup h b #[u, v] ∧ prs[j]? = some (k, v) ∧ keyIs k u = true
  | [], n, _ => ⟨[], rfl, fun j u v e => by simp at e⟩
  | q :: prs, n, hp => by
    obtain ⟨b, u, e1, e2, e3⟩ := hp 0 q rfl
    obtain ⟨ws, hl, hw⟩ := prs_told (prs := prs) (n + 1) fun j q' e => by
      have := hp (j + 1) q' (by simpa using e)
      rw [show n + 1 + j = n + (j + 1) by omega]; exact this
    refine ⟨(u, q.2) :: ws, by rw [List.length_cons, List.length_cons, hl], fun j u' v' e => ?_⟩
    cases j with
    | zero =>
      have e' : (u, q.2) = (u', v') := Option.some.inj e
      cases e'
      exact ⟨b, q.1, e1, e2, rfl, e3⟩
    | succ j =>
      obtain ⟨b', k', f1, f2, f3, f4⟩ := hw j u' v' (by simpa using e)
      exact ⟨b', k', by rw [show n + (j + 1) = n + 1 + j by omega]; exact f1, f2, by simpa using f3, f4⟩
/-- dict(t) of a list, or of such a tuple, of pairs (key, value) -/
theorem call_dictPX (hcalm : X.calm = true) : CallR X (.type "dict") (fun xs H Q => ∃ (a : Addr) (ps : List Addr) (kvs : List (Key × V)), xs = [.ref a] ∧ (SqL X.K H a (ps.map V.ref) ∨ ∃ o, H a = some (.frz o (.tup (ps.map V.ref))) ∧ o.dict = none) ∧
    Paired (fun p kv => SqT X.K H p [kV kv.1, kv.2]) ps kvs ∧ ∀ p, H p = none → Q (.ref p) (upd H p (.dK (mergeK [] kvs)))) := by
  intro pins s σ H xs us Q I r q
  obtain ⟨a, ps, kvs, ex, hq, hp, q⟩ := q
  rcases hq with hq | ⟨o, hq, hdn⟩
  · exact call_dictP hcalm pins s σ H xs us Q I r ⟨a, ps, kvs, ex, hq, hp, q⟩
  subst ex
  obtain ⟨u, eu, rx⟩ := vals1 r
  subst eu
  cases rx
  have ok : ObjOk X.prog X.w H s.heap a (.frz o (.tup (ps.map V.ref))) := I.hok a _ hq
  obtain ⟨hget, hz, its, rv, o', hget', hcls, n, hdat⟩ := ok
  rw [hget] at hget'; cases hget'
  have ei := refs_at rv
  subst ei
  rw [List.length_map] at hz
  obtain ⟨prs, rel, hl, hpr⟩ := pairs_of I hp
  obtain ⟨ws, hwl, hw⟩ := prs_told (h := s.heap) (ps := ps) (prs := prs) 0 fun j q e => by rw [Nat.zero_add]; exact hpr j q e
  have PA := PairArg.tuple (prog := X.prog) (w := X.w) a (ps.map Value.ref).toArray (fun j => ps.getD j 0) ws
  refine PySem.call_dict_pairs (knd := mixKind X.prog X.w) (kvs := prs) PA (I.ok.hd hcalm) ⟨⟨o, n, hget, hcls, hdn, hdat⟩, by simp [hwl, hl], fun j k v e => ?_⟩ ⟨hwl.symm, fun i key v e => ?_⟩ (by rw [hwl, hl]; exact hz) fun h' tk hd' k => ?_
  · obtain ⟨b, k', e1, e2, _⟩ := hw j k v e
    rw [Nat.zero_add] at e1
    have eg : ps.getD j 0 = b := by rw [List.getD_eq_getElem?_getD, e1]; rfl
    refine ⟨by show (ps.map Value.ref).toArray[j]? = some (Value.ref (ps.getD j 0)); rw [eg]; simp [e1], ?_⟩
    show PairAt s.heap (ps.getD j 0) k v
    rw [eg]
    exact .inl e2
  · obtain ⟨b, k', _, _, e3, e4⟩ := hw i key v e
    exact ⟨k', e3, e4⟩
  · have hm : (s.heap.objs.size == sysModules) = false := beq_eq_false_iff_ne.mpr (Nat.ne_of_gt I.big)
    have hlen : (mergeK [] kvs).length ≤ sizeLine := by
      refine Nat.le_trans (length_mergeK kvs []) ?_
      rw [List.length_nil, Nat.zero_add, rel.length, hl]
      exact hz
    exact ⟨.ref s.heap.objs.size, upd H s.heap.objs.size (.dK (mergeK [] kvs)), I.laid (t' := tk) (fun b o e => k b o (fun h => nomatch h) e) (Nat.le_refl _) (show ObjOk X.prog X.w _ _ _ (.dK (mergeK [] kvs)) from ⟨hlen, hm, merged [] prs, KV.merge rel .nil, hd'⟩), rfl, q _ (I.hok.fresh (Nat.le_refl _))⟩
end
end L2
namespace L2.VW
open PySem PySem.Spec PyProof.Rows
section
variable {K : PySem.W.Frag} {F0 : Hp}
def rTupN (K : PySem.W.Frag) : List V → Hp → VK → Prop := fun xs H Q => ∃ p ys, xs = [.ref p] ∧ SqL K H p ys ∧ ∀ l o, H l = none → o.dict = none → Q (.ref l) (upd H l (.frz o (.tup ys)))
theorem call_tupNA {X : Cx} : CallR X (.type "tuple") (rTupN X.K) := call_tupN
def dTupN : List D → Sto → PV → Prop := fun xs S P => ∃ x ds, xs = [x] ∧ SeqL S x ds ∧ ∀ p, S p = none → P (.ref p) (sup S p (.tpN ds))
instance : UpC K F0 (rTupN K) dTupN := ⟨fun r hv ⟨x, ds, e, h, p⟩ le => by
  subst e
  cases hv with
  | cons hv b =>
    cases b
    obtain ⟨a, xs, rfl, hq, hxs⟩ := h.at r hv
    exact ⟨a, xs, rfl, hq, fun l o hl hd => le _ _ _ _ _ (p l (r.free hl).2) (Same.refl _) (r.new hl (.tpN hd hxs)) (.ref l)⟩⟩
/-- a list of pairs, or a tuple of them that has no dict of its own -/
def PrX (S : Sto) (x : D) (ds : List D) : Prop := SeqL S x ds ∨ ∃ a, x = .ref a ∧ S a = some (.tpN ds)
def rDicPX (K : PySem.W.Frag) : List V → Hp → VK → Prop := fun xs H Q => ∃ (a : Addr) (ps : List Addr) (kvs : List (Key × V)), xs = [.ref a] ∧ (SqL K H a (ps.map V.ref) ∨ ∃ o, H a = some (.frz o (.tup (ps.map V.ref))) ∧ o.dict = none) ∧
    Paired (fun p kv => SqT K H p [kV kv.1, kv.2]) ps kvs ∧ ∀ p, H p = none → Q (.ref p) (upd H p (.dK (mergeK [] kvs)))
theorem call_dicPX {X : Cx} (hc : X.calm = true) : CallR X (.type "dict") (rDicPX X.K) := call_dictPX hc
def dDicPX : List D → Sto → PV → Prop := fun xs S P => ∃ x kds, xs = [x] ∧ PrX S x (kds.map fun kd => .tup [kD kd.1, kd.2]) ∧ ∀ p, S p = none → P (.ref p) (sup S p (.dK (mergeD [] kds)))
instance : UpC K F0 (rDicPX K) dDicPX := ⟨fun {vs xs H Q F S P} r hv ⟨x, kds, e, h, p⟩ le => by
  subst e
  cases hv with
  | cons hv b =>
    cases b
    obtain ⟨a, xs, rfl, hq, hxs⟩ : ∃ a ws, _ = V.ref a ∧ (SqL K H a ws ∨ ∃ o, H a = some (.frz o (.tup ws)) ∧ o.dict = none) ∧ VdAll K F ws (kds.map fun kd => .tup [kD kd.1, kd.2]) := by
      rcases h with h | ⟨a, rfl, h⟩
      · obtain ⟨a, xs, e, hq, hxs⟩ := h.at r hv
        exact ⟨a, xs, e, .inl hq, hxs⟩
      · cases hv
        obtain ⟨o, ws, e1, e2, e3⟩ := r.tpN h
        exact ⟨a, ws, rfl, .inr ⟨o, e1, e2⟩, e3⟩
    obtain ⟨ps, kvs, rfl, h1, h2⟩ := pairs_at r hxs
    have kp := KP.merge (kvs := []) (kds := []) .nil h2
    exact ⟨a, ps, kvs, rfl, hq, h1, fun q hq => le _ _ _ _ _ (p q (r.free hq).2) (Same.refl _) (r.new hq (.dK kp.keys kp.vals)) (.ref q)⟩⟩
end
end L2.VW

/-! ## x or y, of any values -/
namespace L2.VW
open PySem PySem.Spec PyProof.Rows
/-- a value's truth -/
def TrD (S : Sto) (x : D) (k : Bool) : Prop := match x with
  | .non => k = false
  | .bl b => k = b
  | .int i => k = (i != 0)
  | .lst ds => k = !ds.isEmpty
  | .tup ds => k = !ds.isEmpty
  | .ref a => ∃ ds, S a = some (.lst ds) ∧ k = !ds.isEmpty
  | _ => False
section
variable {K : PySem.W.Frag} {F0 : Hp}
theorem vd_emp {F : Hp} {xs : List V} {ds : List D} (h : VdAll K F xs ds) : xs.isEmpty = ds.isEmpty := by cases h <;> rfl
theorem TrD.at {F : Hp} {S : Sto} {H : Hp} {v : V} {x : D} {k : Bool} (r : RelH K F0 F S H) (h : TrD S x k) (hv : Vd K F v x) : TruV K v H k := by
  cases hv with
  | non => exact h
  | bl b => exact h
  | int i => exact h
  | lst h1 h2 => exact .inl ⟨_, .inl (.inl (r.fr _ _ h1)), by rw [vd_emp h2]; exact h⟩
  | tup h1 h2 => exact .inr (.inl ⟨_, .inl (.inl (r.fr _ _ h1)), by rw [vd_emp h2]; exact h⟩)
  | ref a =>
    obtain ⟨ds, h1, h2⟩ := h
    obtain ⟨xs, e, hx⟩ := r.lst h1
    exact .inl ⟨_, .inl (.inl e), by rw [vd_emp hx]; exact h2⟩
  | str _ => exact h.elim
  | byt _ => exact h.elim
  | flt _ => exact h.elim
  | ty _ => exact h.elim
  | seq _ _ => exact h.elim
  | dK _ _ _ => exact h.elim
  | dT _ _ _ => exact h.elim
  | ins _ _ _ => exact h.elim
def dOrT (da db : TED) : TED := fun env S P => da env S fun x S1 => ∃ k, TrD S1 x k ∧ if k = true then P x S1 else db env S1 P
instance {ta tb : TE} {da db : TED} [UpE K F0 ta da] [UpE K F0 tb db] : UpE K F0 (tOrT K ta tb) (dOrT da db) := ⟨fun r0 h le =>
  UpE.up (t := ta) (td := da) r0 h fun x S1 F1 H1 v ⟨k, e, h1⟩ s1 r1 v1 => by
    refine ⟨k, e.at r1 v1, ?_⟩
    cases k with
    | true => exact le _ _ _ _ _ h1 s1 r1 v1
    | false => exact UpE.up (t := tb) (td := db) (r0.at s1 r1) h1 (le.mono s1)⟩
end
end L2.VW
/-! ### zip of a text and a tuple -/
namespace ZS
open PySem PyProof.Rows L2
def ItzS (K : PySem.W.Frag) (z : Str) (b : Addr) : It :=
  ⟨fun i H => ∃ (ys : List V) (c : Nat) (y : V), z.cps[i]? = some c ∧ SqT K H b ys ∧ ys[i]? = some y,
    fun i H v H' => ∃ p c y, v = .ref p ∧ H p = none ∧ H' = upd H p (.tup [.str ⟨#[c]⟩, y]) ∧ z.cps[i]? = some c ∧ ∀ ys, SqT K H b ys → ys[i]? = some y,
    fun i H => ∃ ys : List V, SqT K H b ys ∧ i = min z.cps.size ys.length⟩
theorem sep_of {z TI TO i1 i2 a b : Addr} (D : ZipApart z TI TO i1 i2 a b) : ZipSep2 z TI TO i1 i2 [i1] [i2, b] :=
  ⟨D.TIz, D.TOz, D.TITO, D.TIi1, by simp, by simp [D.i1z.symm], by simp [D.TOi1], D.TIi2, by simp, by simp [D.i2z.symm, D.l2z.symm], by simp [D.TOi2, D.l2TO.symm], by simp [D.i12, D.l2i1.symm], by simp [D.i12.symm]⟩
theorem turn_m {P : Program} {w : World} {K : PySem.W.Frag} {elts : List Expr} {kk : Nat} {tpos : Pos} {a b z TI TO i1 i2 : Addr} (zz : Str) (tt : Tok) (D : ZipApart z TI TO i1 i2 a b) :
    Turn P w K (.Tuple elts kk tpos) (ItzS K zz b) [z, TI, TO, i1, i2] z (fun i h => IsZip h z TI TO .none ∧ IsPair h TI (.ref i1) (.ref i2) ∧ (∃ x y, IsPair h TO x y) ∧ h.IsStrIter i1 (strIterType zz) zz tt i ∧ h.IsTupleIter i2 b i) where
  mem := by simp
  obj := fun i h st c hc => by
    obtain ⟨hz, h1, ⟨x, y, h2⟩, ⟨o1, e1, _, d1⟩, h3⟩ := st
    obtain ⟨o2, e2, _, d2⟩ := h3
    simp only [List.mem_cons, List.not_mem_nil, or_false] at hc
    rcases hc with rfl | rfl | rfl | rfl | rfl
    · exact ⟨_, hz, fun v q => nomatch q⟩
    · exact ⟨_, h1, fun v q => nomatch q⟩
    · exact ⟨_, h2, fun v q => nomatch q⟩
    · exact ⟨o1, e1, fun v q => by rw [d1] at q; cases q⟩
    · exact ⟨o2, e2, fun v q => by rw [d2] at q; cases q⟩
  keep := fun i h h' st k => by
    obtain ⟨hz, h1, ⟨x, y, h2⟩, h3, h4⟩ := st
    exact ⟨k z (by simp) _ hz, k TI (by simp) _ h1, ⟨x, y, k TO (by simp) _ h2⟩, (let ⟨o, ho, r⟩ := h3; ⟨o, k i1 (by simp) o ho, r⟩), h4.at fun o q => k i2 (by simp) o q⟩
  item := by
    intro X hP hw hK hc i pins s σ H E I hf st hg
    subst hP hw hK
    obtain ⟨hz, hTI, ⟨x0, y0, hTO⟩, h1, h2⟩ := st
    obtain ⟨ys, c, y, hx, hqy, hy⟩ := hg
    obtain ⟨its2, rv2, p2, _⟩ := I.tuple hqy
    obtain ⟨u2, hu2, ru2⟩ := rv2.get hy
    have hzl : z < s.heap.objs.size := Heap.lt_size hz
    have b1 : i < zz.cps.size := by
      by_cases q : i < zz.cps.size
      · exact q
      · rw [Array.getElem?_eq_none (by omega)] at hx; cases hx
    have b2 : i < its2.toArray.size := by simpa using (List.getElem?_eq_some_iff.mp hu2).1
    have hh : X.A.in1.handled = none := I.ok.hd hc
    refine wpAny_pyNext_zipD2_item (sep_of D) (Draws.text (A := X.A.in1) hh i1 zz tt) (Draws.tuple (A := X.A.in1) hh i2 b D.l2i2 its2.toArray) hz hTI hTO h1 ⟨h2, p2⟩ b1 b2 fun v1 v2 h' tk q1 q2 z' TO' g1 g2 hT hsz hk => ?_
    obtain ⟨c1, u, hc1, rfl⟩ := q1
    obtain rfl : c1 = c := Option.some.inj (hc1.symm.trans hx)
    obtain rfl : v2 = u2 := by
      have q2 : its2.toArray[i]? = some v2 := q2
      have e : its2.toArray[i]? = some u2 := by simpa using hu2
      exact Option.some.inj (q2.symm.trans e)
    refine ⟨_, rfl, wpAny_letOwnedTupleGo_zip (s := { s with heap := h', toks := tk }) z' fun h'' z'' sb => ?_⟩
    have hT2 : h''.get? s.heap.objs.size = some { cls := .type "tuple", data := .seq #[.str ⟨#[c1]⟩ u, v2] } := (sb.2 _ (Nat.ne_of_gt hzl)).trans hT
    have new : ObjOk X.prog X.w (upd H s.heap.objs.size (.tup [.str ⟨#[c1]⟩, y])) h'' s.heap.objs.size (.tup [.str ⟨#[c1]⟩, y]) := ⟨by show 2 ≤ sizeLine; decide, [.str ⟨#[c1]⟩ u, v2], .cons ⟨u, rfl⟩ (.cons ru2 .nil), ⟨_, hT2, rfl, _, rfl⟩⟩
    have I1 : Inv X pins σ (upd H s.heap.objs.size (.tup [.str ⟨#[c1]⟩, y])) { s with heap := h'', toks := tk } := by
      refine I.turnedNew (t' := tk) (ch := [z, TI, TO, i1, i2]) (fun c o hb q => ?_) hf (Nat.le_refl _) new
      have nn : ∀ d, d ∈ [z, TI, TO, i1, i2] → c ≠ d := fun d hd e => hb (e ▸ hd)
      exact (sb.2 c (nn z (by simp))).trans (hk c o (nn z (by simp)) (nn TO (by simp)) (nn i1 (by simp)) (nn i2 (by simp)) q)
    refine ⟨.ref s.heap.objs.size, _, I1, rfl, ⟨_, c1, y, rfl, I.fresh, rfl, hx, fun l hl => by rw [I.tuple_inj hl hqy]; exact hy⟩, ⟨z'', ?_, ⟨.str ⟨#[c1]⟩ u, v2, ?_⟩, ?_, ?_⟩, fun c hm => ?_⟩
    · exact (sb.2 _ D.TIz).trans (hk _ _ D.TIz D.TITO D.TIi1 D.TIi2 hTI)
    · exact (sb.2 _ D.TOz).trans TO'
    · obtain ⟨o, ho, r⟩ := g1
      exact ⟨o, (sb.2 _ D.i1z).trans ho, r⟩
    · exact g2.1.at fun o q => (sb.2 _ D.i2z).trans q
    · have lt : c < s.heap.objs.size := by
        simp only [List.mem_cons, List.not_mem_nil, or_false] at hm
        obtain ⟨_, e1, _⟩ := h1
        obtain ⟨_, e2, _⟩ := h2
        rcases hm with rfl | rfl | rfl | rfl | rfl
        · exact hzl
        · exact Heap.lt_size hTI
        · exact Heap.lt_size hTO
        · exact Heap.lt_size e1
        · exact Heap.lt_size e2
      rw [upd_ne (Nat.ne_of_lt lt)]
      exact (hf c hm).1
  done := by
    intro X hP hw hK hc i pins s σ H E I hf st hg
    subst hP hw hK
    obtain ⟨hz, hTI, ⟨x0, y0, hTO⟩, h1, h2⟩ := st
    obtain ⟨ys, hqy, hend⟩ := hg
    obtain ⟨its2, rv2, p2, _⟩ := I.tuple hqy
    have l2 : its2.toArray.size = ys.length := by simpa using rv2.length.symm
    have hh : X.A.in1.handled = none := I.ok.hd hc
    refine wpAny_pyNext_zipD2_end (sep_of D) (Draws.text (A := X.A.in1) hh i1 zz tt) (Draws.tuple (A := X.A.in1) hh i2 b D.l2i2 its2.toArray) hz hTI hTO h1 ⟨h2, p2⟩ (by omega) (by omega) (by omega) fun h' tk hk => ⟨rfl, ?_⟩
    refine I.turnedL (t' := tk) (ch := [z, TI, TO, i1, i2]) (fun c o hb q => ?_) hf
    have nn : ∀ d, d ∈ [z, TI, TO, i1, i2] → c ≠ d := fun d hd e => hb (e ▸ hd)
    exact hk c o (nn z (by simp)) (nn TO (by simp)) (nn i1 (by simp)) (nn i2 (by simp)) q
  self := fun A i s Q E st h => wpAny_pyIter_zip st.1 h
def iZipS (K : PySem.W.Frag) (ta : TA) : TI := fun σ H R => ta σ H fun vs H1 => ∃ z b ys, vs = [.str z, .ref b] ∧ SqT K H1 b ys ∧ R (ItzS K z b) H1
theorem pi_zipS {X : Cx} {e e2 : Expr} {ta : TA} {p pos tpos : Pos} {elts : List Expr} {kk : Nat} (hg : Gl X "zip") (hm : X.mg "zip" = none) (ha : PA X [e, e2] ta) (hs : starEach [e, e2] X.env = (false, eval e X.env) :: starEach [e2] X.env := by rfl) (hpl : (backTo pos (starEach [e2] X.env)).any (·.1) = false := by rfl) :
    PI X (.Tuple elts kk tpos) (.Call (.Name "zip" p) [e, e2] [] pos) (iZipS X.K ta) := by
  refine ⟨fun pins s σ H R I h => ?_⟩
  refine Call_ (ld_blt I hg hm boot_zip (callWith_type1 (thn (ha.run pos pins s σ H _ I h) fun us s1 ⟨vs, H1, I1, r1, zz, b, ys, ex, hqy, q⟩ => ?_) hs hpl))
  subst ex
  obtain ⟨t, v, rfl, rfl⟩ : ∃ t v, us = [Value.str zz t, v] ∧ v = Value.ref b := by
    cases r1 with
    | cons r rr =>
      obtain ⟨t, rfl⟩ := r
      cases rr with
      | cons r' rr => cases rr; exact ⟨t, _, rfl, r'⟩
  obtain ⟨its2, rv2, p2, _⟩ := I1.tuple hqy
  have lb : b < s1.heap.objs.size := by obtain ⟨o, e, _⟩ := id p2; exact Heap.lt_size e
  refine zip_begins2 (begins_text zz t) (begins_tuple b its2.toArray) trivial p2 fun h' hz hTI hTO h1 h2 hsz hk => wpAny_pyIter_zip hz ?_
  have I2 : Inv X pins σ H1 { s1 with heap := h' } := I1.kept (t' := s1.toks) hk
  have D := PySem.W.ktu_apart s1.heap.objs.size b b lb lb
  refine ⟨s1.heap.objs.size + 4, [s1.heap.objs.size + 4, s1.heap.objs.size + 2, s1.heap.objs.size + 3, s1.heap.objs.size, s1.heap.objs.size + 1], _, _, H1, rfl, I2, turn_m zz t D, ⟨hz, hTI, ⟨_, _, hTO⟩, ⟨_, h1, rfl, rfl⟩, ⟨_, h2, rfl, rfl⟩⟩, fun c hm => ?_, q⟩
  have le : s1.heap.objs.size ≤ c := by
    simp only [List.mem_cons, List.not_mem_nil, or_false] at hm
    rcases hm with rfl | rfl | rfl | rfl | rfl
    · exact Nat.le_add_right _ _
    · exact Nat.le_add_right _ _
    · exact Nat.le_add_right _ _
    · exact Nat.le_refl _
    · exact Nat.le_add_right _ _
  exact I1.fpOk le (I1.hok.fresh le)
end ZS
/-! lifted -/
namespace L2.VW
open PySem
section
variable {K : PySem.W.Frag} {F0 : Hp}
def wZS (z : Str) (es : List D) : WD := ⟨min z.cps.size es.length, fun _ => True, fun i d => ∃ c b, z.cps[i]? = some c ∧ es[i]? = some b ∧ d = .tup [.str ⟨#[c]⟩, b]⟩
def jZipS (da : TAD) : TID := fun env S P => da env S fun xs S1 => ∃ z es, xs = [.str z, .tup es] ∧ P (wZS z es) S1
instance {ta : TA} {da : TAD} [UpA K F0 ta da] : UpI K F0 (ZS.iZipS K ta) (jZipS da) := ⟨fun r0 h le =>
  UpA.up (t := ta) (td := da) r0 h fun xs S1 F1 H1 vs ⟨z, es, e, p⟩ s1 r1 v1 => by
    subst e
    cases v1 with
    | cons hv b =>
      cases b with
      | cons hu b =>
        cases b
        cases hv
        obtain ⟨b, ys, e', hq', hl'⟩ := tup_at r1 hu
        subst e'
        have bt_ : ∀ {F S H}, Same F1 F → RelH K F0 F S H → ∃ xs, SqT K H b xs ∧ VdAll K F xs es := fun s r => by
          obtain ⟨a', xs, e, hq, hl⟩ := tup_at r (hu.mono s)
          cases e
          exact ⟨xs, hq, hl⟩
        refine ⟨z, b, ys, rfl, hq', le _ _ _ _ _ p s1 r1 ⟨fun i F S H hi s r h => ?_, fun F S H s r h => ?_, fun i F S H y H' hi s r h hz => ?_⟩⟩
        · obtain ⟨ys, hq', hl'⟩ := bt_ s r
          have hi : i < min z.cps.size es.length := hi
          have h2 : i < ys.length := by rw [hl'.len]; omega
          exact ⟨ys, z.cps[i]'(by omega), ys[i], Array.getElem?_eq_getElem _, hq', List.getElem?_eq_getElem h2⟩
        · obtain ⟨ys, hq', hl'⟩ := bt_ s r
          exact ⟨ys, hq', by rw [hl'.len]; rfl⟩
        · obtain ⟨ys, hq', hl'⟩ := bt_ s r
          obtain ⟨T, c, y1, rfl, hT, rfl, hc, hy1⟩ := hz
          obtain ⟨d2, h3, h4⟩ := hl'.getL (hy1 ys hq')
          obtain ⟨F', s2, r2, g2, v2⟩ := pair_new (F1 := F) r hT (.str ⟨#[c]⟩) h4
          exact ⟨F', _, s2, r2, g2, v2, c, d2, hc, h3, rfl⟩⟩
end
end L2.VW

/-! ### a, *b = a list -/
namespace ST
open PySem PyProof.Rows PySem.W
section
variable {prog : Program} {w : World} {A : Around} {E : Value → Shared → Prop} {s : Shared}
theorem unpack_starL {t : Addr} {items : Array Value} {n k : Nat} {Q : List Value → Shared → Prop} (hh : A.handled = none) (ht : s.heap.IsList t items) (hk : k < n) (hn : n ≤ items.size + 1) (sz : items.size ≤ sizeLine)
    (fin : ∀ (h' : Heap) (tk : Nat), (∀ b o, s.heap.get? b = some o → h'.get? b = some o) →
      Q (items.toList.take k ++ [.ref h'.objs.size] ++ items.toList.drop (items.size - (n - 1 - k))) { s with heap := h'.push { cls := .type "list", data := .seq ((items.toList.drop k).take (items.size - (n - 1))).toArray }, toks := tk }) :
    wpAny (model prog w) A (unpackItems (.ref t) n (some k)) Q E s := by
  have ne : t ≠ s.heap.objs.size := by obtain ⟨o, ho, _⟩ := ht; exact Nat.ne_of_lt (Heap.lt_size ho)
  unfold unpackItems notIterableAtAll
  refine wpAny_bind (wpAny_bind (wpAny_specialOf ht.typeIs slot_list_iter.lookup (wpAny_pure ?_)))
  simp only [Bool.false_eq_true, if_false]
  refine wpAny_bind (wpAny_holding (wpAny_pyIter_list ht ?_))
  refine wpAny_bind (wpAny_holding (kun_draw ne k 0 _ _ ⟨_, Heap.get?_push_size _ rfl, rfl, rfl⟩ (ht.push _) (by omega) fun h1 hi1 hs1 => ?_))
  have ht1 : h1.IsList t items := (ht.push _).extBut hs1.extBut ne
  have lk : (List.take k (List.drop 0 items.toList)).length = k := by rw [List.drop_zero, List.length_take]; simp; omega
  rw [if_neg (by rw [lk]; omega)]
  have hs1' : s.heap.objs.size < h1.objs.size := by obtain ⟨o, ho, _⟩ := hi1; exact Heap.lt_size ho
  rw [Nat.zero_add] at hi1
  refine wpAny_bind (wpAny_holding (kun_collect (s := { s with heap := h1 }) (.inr (.inr (.inl rfl))) (Walks.list (A := A.in1) hh s.heap.objs.size t ne items) (fun i u st => st.1.typeIs) (by omega) ⟨hi1, ht1⟩ hs1' (by obtain ⟨o, ho, _⟩ := ht1; exact Heap.lt_size ho) (fun hp2 t2 m1 => ?_) sz))
  have ld : (items.toList.drop k).length = items.size - k := by rw [List.length_drop]; simp
  rw [if_neg (by rw [ld]; omega)]
  have kp : ∀ b o, s.heap.get? b = some o → hp2.get? b = some o := fun b o e => by
    have nb : b ≠ s.heap.objs.size := Nat.ne_of_lt (Heap.lt_size e)
    exact m1 b o nb (hs1.extBut b o nb (Heap.get?_push_of_some _ e))
  refine wpAny_bind (wpAny_newList (wpAny_pure ?_) ?_)
  · have q := fin hp2 t2 kp
    have a1 : items.size - k - (n - 1 - k) = items.size - (n - 1) := by omega
    have a2 : items.toList.drop (items.size - (n - 1 - k)) = (items.toList.drop k).drop (items.size - (n - 1)) := by rw [List.drop_drop]; congr 1; omega
    rw [a2] at q
    rw [ld, a1, List.drop_zero]
    exact q
  · rw [List.length_take, ld]; omega
end
section
open L2
variable {X : Cx} {e : Expr} {es : List Expr} {t : TG} {u : TGs} {pos p : Pos}
def gStarL (K : PySem.W.Frag) (n k : Nat) (u : TGs) : TG := fun v σ H Q => ∃ a xs, v = .ref a ∧ SqL K H a xs ∧ n ≤ xs.length + 1 ∧
  ∀ l, H l = none → u (xs.take k ++ [.ref l] ++ xs.drop (xs.length - (n - 1 - k))) σ (upd H l (.lst ((xs.drop k).take (xs.length - (n - 1))))) Q
theorem pg_starL {n k kk : Nat} (hc : X.calm = true) (h : PGs X es u) (hn : (assignEach es X.env).length = n := by rfl) (hk : (assignEach es X.env).findIdx? (·.1) = some k := by rfl) (hkn : k < n := by decide) : PG X (.Tuple es kk pos) (gStarL X.K n k u) := by
  refine ⟨fun pins s σ H v x Q I r hw => ?_⟩
  obtain ⟨a, xs, rfl, hq, hl, hw⟩ := hw
  cases r
  obtain ⟨its, rv, ht, hz⟩ := I.list hq
  have el : xs.length = its.length := rv.length
  rw [assign_Tuple]
  unfold unpack
  refine wpAny_bind (wpAny_standAt (wpAny_bind (wpAny_holding ?_)))
  rw [hn, hk]
  refine unpack_starL (I.ok.hd hc) ht.isList hkn (by simp; omega) (by simp; omega) fun h' tk kp => ?_
  have I1 : Inv X pins σ H { s with heap := h', toks := tk } := I.kept (t' := tk) kp
  have ez : its.toArray.size = its.length := by simp
  have rm : Vals ((xs.drop k).take (xs.length - (n - 1))) ((its.drop k).take (its.length - (n - 1))) := by rw [el]; exact (vals_cut _ (vals_cut k rv).2).1
  have I2 : Inv X pins σ (upd H h'.objs.size (.lst ((xs.drop k).take (xs.length - (n - 1))))) { s with heap := h'.push { cls := .type "list", data := .seq ((its.drop k).take (its.length - (n - 1))).toArray }, toks := tk } :=
    I1.lnew (t' := tk) rm (by rw [List.length_take, List.length_drop]; omega)
  have rr : Vals (xs.take k ++ [.ref h'.objs.size] ++ xs.drop (xs.length - (n - 1 - k))) (its.take k ++ [.ref h'.objs.size] ++ its.drop (its.length - (n - 1 - k))) := by
    rw [el]
    have r1 : Vals [V.ref h'.objs.size] [Value.ref h'.objs.size] := .cons (show RelV (V.ref h'.objs.size) (Value.ref h'.objs.size) from rfl) .nil
    exact ((vals_cut k rv).1.append r1).append (vals_cut _ rv).2
  have q := h.run pins _ σ _ _ _ Q I2 rr (hw _ I1.fresh)
  simpa using q
end
end ST
/-! lifted -/
namespace L2.VW
open PySem
section
variable {K : PySem.W.Frag} {F0 : Hp}
theorem vdAll_take {F : Hp} : ∀ {vs : List V} {ds : List D} (k : Nat), VdAll K F vs ds → VdAll K F (vs.take k) (ds.take k) ∧ VdAll K F (vs.drop k) (ds.drop k)
  | _, _, 0, h => by simp only [List.take_zero, List.drop_zero]; exact ⟨.nil, h⟩
  | _, _, k + 1, .nil => by simp only [List.take_nil, List.drop_nil]; exact ⟨.nil, .nil⟩
  | _, _, k + 1, .cons a t => ⟨.cons a (vdAll_take k t).1, (vdAll_take k t).2⟩
def kStarL (n k : Nat) (u : TGsD) : TGD := fun x env S P => ∃ ds, SeqL S x ds ∧ n ≤ ds.length + 1 ∧ ∀ p, S p = none → u (ds.take k ++ [.ref p] ++ ds.drop (ds.length - (n - 1 - k))) env (sup S p (.lst ((ds.drop k).take (ds.length - (n - 1))))) P
instance {n k : Nat} {u : TGs} {ud : TGsD} [UpGs K F0 u ud] : UpG K F0 (ST.gStar K n k u) (kStar n k ud) := ⟨fun r0 hv ⟨ds, e, hn, h⟩ le => by
  subst e
  obtain ⟨a, xs, rfl, hq, hx⟩ := tup_at r0.h hv
  refine ⟨a, xs, rfl, hq, by rw [hx.len]; exact hn, fun l hl => ?_⟩
  have rD := r0.h.new hl (.lst ((vdAll_take (ds.length - (n - 1)) (vdAll_take k hx).2).1))
  have vv := (((vdAll_take k hx).1.app (.cons (.ref l) .nil)).app (vdAll_take (ds.length - (n - 1 - k)) hx).2)
  rw [hx.len]
  exact UpGs.up (t := u) (td := ud) (r0.at (Same.refl _) rD) vv (h l (r0.h.free hl).2) le⟩
instance {n k : Nat} {u : TGs} {ud : TGsD} [UpGs K F0 u ud] : UpG K F0 (ST.gStarL K n k u) (kStarL n k ud) := ⟨fun r0 hv ⟨ds, e, hn, h⟩ le => by
  obtain ⟨a, xs, rfl, hq, hx⟩ := e.at r0.h hv
  refine ⟨a, xs, rfl, hq, by rw [hx.len]; exact hn, fun l hl => ?_⟩
  have rD := r0.h.new hl (.lst ((vdAll_take (ds.length - (n - 1)) (vdAll_take k hx).2).1))
  have vv := (((vdAll_take k hx).1.app (.cons (.ref l) .nil)).app (vdAll_take (ds.length - (n - 1 - k)) hx).2)
  rw [hx.len]
  exact UpGs.up (t := u) (td := ud) (r0.at (Same.refl _) rD) vv (h l (r0.h.free hl).2) le⟩
end
end L2.VW

/-! ### t[::-1] -/
namespace RV
open PySem PySem.Spec PyProof.Rows HT
section
variable {prog : Program} {w : World} {A : Around} {E : Value → Shared → Prop} {s : Shared}
theorem adjust_rev (n : Nat) : Builtin.Slice.sliceAdjust none none (-1) (n : Int) = ((n : Int) - 1, -1) := by
  unfold Builtin.Slice.sliceAdjust
  simp
theorem places_rev (n : Nat) : Builtin.Slice.slicePlaces ((n : Int) - 1) (-1) (-1) = n := by
  unfold Builtin.Slice.slicePlaces
  have h1 : ¬ ((-1 : Int) > 0) := by omega
  have h2 : (-(-1 : Int)) = 1 := by decide
  simp only [h1, if_false, h2, Int.ediv_one]
  split <;> omega
theorem fm_congr {α β : Type} {f g : α → Option β} : ∀ {l : List α}, (∀ a ∈ l, f a = g a) → l.filterMap f = l.filterMap g
  | [], _ => rfl
  | a :: r, h => by
    rw [List.filterMap_cons, List.filterMap_cons, h a List.mem_cons_self, fm_congr fun b hb => h b (List.mem_cons_of_mem _ hb)]
theorem pick_rev (xs : Array Value) : ((List.range xs.size).filterMap fun (m : Nat) => xs[(((xs.size : Nat) : Int) - 1 + (m : Int) * (-1)).toNat]?) = xs.toList.reverse := by
  have e : (List.range xs.size).filterMap (fun (m : Nat) => xs[(((xs.size : Nat) : Int) - 1 + (m : Int) * (-1)).toNat]?) = (List.range xs.size).filterMap (fun m => xs.toList.reverse[m]?) := by
    apply fm_congr
    intro m hm
    have hm : m < xs.size := List.mem_range.mp hm
    have : (((xs.size : Nat) : Int) - 1 + (m : Int) * (-1)).toNat = xs.size - 1 - m := by omega
    rw [this, List.getElem?_reverse (by simpa using hm)]
    simp
  rw [e]
  have hl : xs.size = xs.toList.reverse.length := by simp
  rw [hl]
  generalize xs.toList.reverse = l
  clear e hl
  induction l with
  | nil => rfl
  | cons a r ih =>
    rw [List.length_cons, List.range_succ_eq_map, List.filterMap_cons, List.filterMap_map]
    simp only [List.getElem?_cons_zero]
    congr 1
theorem sliceApplied_rev {sl : Addr} {t : Tok} {n : Nat} {Q : Int × Int × Nat → Shared → Prop} (hs : s.heap.IsSliceOf sl .none .none (.int (-1) t)) (h : Q ((n : Int) - 1, -1, n) s) : wpAny (model prog w) A (Builtin.Slice.sliceApplied (.ref sl) (pure (n : Int))) Q E s := by
  obtain ⟨os, hos, hcs, hds⟩ := id hs
  unfold Builtin.Slice.sliceApplied Builtin.Slice.sliceFields
  refine wpAny_bind (wpAny_bind (wpAny_field hos hds (x := .none) rfl (wpAny_bind (wpAny_field hos hds (x := .none) rfl (wpAny_bind (wpAny_field hos hds (x := .int (-1) t) rfl (wpAny_pure ?_)))))))
  refine wpAny_bind (slicePart_int ?_)
  show wpAny _ _ (if ((-1 : Int) == 0) = true then _ else _) _ _ s
  rw [if_neg (by decide)]
  refine wpAny_bind (slicePart_none (wpAny_bind (slicePart_none (wpAny_bind (wpAny_pure ?_)))))
  show wpAny _ _ (match Builtin.Slice.sliceAdjust none none (-1) (n : Int) with | (lo, hi) => pure (lo, (-1 : Int), Builtin.Slice.slicePlaces lo hi (-1))) _ _ s
  rw [adjust_rev n]
  show wpAny _ _ (pure ((n : Int) - 1, (-1 : Int), Builtin.Slice.slicePlaces ((n : Int) - 1) (-1) (-1))) _ _ s
  rw [places_rev]
  exact wpAny_pure h
theorem getItem_tuple_rev {t sl : Addr} {items : Array Value} {tk : Tok} {Q : Value → Shared → Prop} (ht : IsTup s.heap t items) (hs : s.heap.IsSliceOf sl .none .none (.int (-1) tk))
    (h : Q (.ref s.heap.objs.size) { s with heap := s.heap.push { cls := .type "tuple", data := .seq items.toList.reverse.toArray } })
    (hsz : items.size ≤ sizeLine) : wpAny (model prog w) A (getItem (.ref t) (.ref sl)) Q E s := by
  have htake : sizeOk (.seq items.toList.reverse.toArray) := by
    show items.toList.reverse.toArray.size ≤ sizeLine
    rw [List.size_toArray, List.length_reverse, Array.length_toList]
    exact hsz
  obtain ⟨os, hos, hcs, hds⟩ := id hs
  have hTs : s.TypeIs (.ref sl) "slice" := ⟨os, hos, hcs⟩
  unfold getItem
  try with_reducible refine wpAny_holding ?_
  first | refine wpAny_bind (wpAny_pure ?_) | skip
  refine wpAny_bind (wpAny_sequenceKey ht.typeIs (by decide) ?_)
  refine wpAny_bind (wpAny_callSpecial?_slot (name := Str.ofString "__getitem__") ht.typeIs PyProof.Rows.slot_tuple_getitem
    (wpAny_call_entry PyProof.Rows.slot_tuple_getitem ht.typeIs entry_tuple_getitem ?_ (args_tuple_getitem _ _)))
  show wpAny _ _ (Builtin.Tuple.tupleItemsOf (.ref t) >>= _) _ _ s
  refine wpAny_bind (tupleItemsOf_ ht ?_)
  refine wpAny_bind (wpAny_typeOf hTs ?_)
  rw [if_pos (by decide)]
  refine wpAny_bind (sliceApplied_rev hs ?_)
  have hno : ¬ ((((items.size : Nat) : Int) - 1 == 0 && (-1 : Int) == 1 && items.size == items.size) = true) := by
    intro q
    rw [Bool.and_eq_true, Bool.and_eq_true] at q
    exact absurd q.1.2 (by decide)
  show wpAny _ _ (if (((items.size : Nat) : Int) - 1 == 0 && (-1 : Int) == 1 && items.size == items.size) = true then _ else _) _ _ s
  rw [if_neg hno]
  have ep : ((List.range items.size).filterMap fun (m : Nat) => items[(((items.size : Nat) : Int) - 1 + (m : Int) * (-1)).toNat]?).toArray = items.toList.reverse.toArray := by rw [pick_rev]
  rw [ep]
  first
    | exact wpAny_bind (m := Builtin.Tuple.tupleExact _) (wpAny_newObj_type (wpAny_pure ⟨_, rfl, wpAny_pure h⟩) htake)
    | exact wpAny_bind (m := Builtin.Tuple.tupleExact _) (wpAny_newObj_type (wpAny_bind (wpAny_pure (wpAny_pure ⟨_, rfl, wpAny_pure h⟩))) htake)
    | exact wpAny_bind (wpAny_bind (m := Builtin.Tuple.tupleExact _) (wpAny_newObj_type (wpAny_pure (wpAny_pure ⟨_, rfl, wpAny_pure h⟩)) htake))
    | exact wpAny_bind (wpAny_bind (m := Builtin.Tuple.tupleExact _) (wpAny_newObj_type (wpAny_pure ⟨_, rfl, wpAny_pure h⟩) htake))
end
section
open L2
variable {X : Cx} {e m1 : Expr} {te tm : TE} {p2 pos : Pos}
theorem vals_rev : ∀ {xs : List V} {us : List Value}, Vals xs us → Vals xs.reverse us.reverse
  | _, _, .nil => .nil
  | _, _, .cons a t => by
    rw [List.reverse_cons, List.reverse_cons]
    exact (vals_rev t).append (.cons a .nil)
def tRev (K : PySem.W.Frag) (te tm : TE) : TE := fun σ H Q => te σ H fun x H1 => tm σ H1 fun y H2 => y = .int (-1) ∧ ∃ a xs, x = .ref a ∧ SqT K H2 a xs ∧ ∀ p, H2 p = none → Q (.ref p) (upd H2 p (.tup xs.reverse))
theorem pe_rev (he : PE X e te) (hm : PE X m1 tm) : PE X (.Subscript e (.Slice none none (some m1) p2) pos) (tRev X.K te tm) := by
  refine ⟨fun pins s σ H Q I h => ?_⟩
  refine Subscript_ (thn (he.run pins s σ H _ I h) fun v s1 ⟨x, H1, I1, r1, q1⟩ => ?_)
  refine wpAny_Slice ?_
  rw [evalPart_none]
  refine wpAny_pure ?_
  refine wpAny_pure ?_
  refine evalPart_some_step (thn (hm.run pins s1 σ H1 _ I1 q1) fun vm s3 ⟨y, H3, I3, r3, ey, a, xs, ex, hq, q⟩ => ?_)
  subst ey; subst ex
  obtain ⟨tk, rfl⟩ := r3
  cases r1
  have I4 : Inv X pins σ H3 { s3 with heap := s3.heap.push { cls := .type "slice", data := .fields #[.none, .none, .int (-1) tk] } } := I3.kept (t' := s3.toks) fun b ob q => Heap.get?_push_of_some _ q
  obtain ⟨its, r, ht, hz⟩ := I4.tuple hq
  refine tail_any (ops := [.ref a, .ref s3.heap.objs.size]) ht.typeIs PyProof.Rows.slot_tuple_getitem.lookup ?_ (by with_unfolding_all rfl)
  have hlen : its.toArray.size = xs.length := by rw [List.size_toArray]; exact r.length.symm
  refine getItem_tuple_rev ht (Heap.IsSliceOf.new ..) ?_ (by rw [hlen]; exact hz)
  refine ⟨.ref (s3.heap.push { cls := .type "slice", data := .fields #[.none, .none, .int (-1) tk] }).objs.size, _, I4.laid (t' := s3.toks) (o := .tup xs.reverse) (fun b ob q => Heap.get?_push_of_some _ q) (Nat.le_refl _) ?_, rfl, q _ (I4.hok.fresh (Nat.le_refl _))⟩
  exact ⟨by rw [List.length_reverse]; exact hz, _, vals_rev r, IsTup.new _ _⟩
/-- x is True, x None or an int -/
def rIsBl : R2 := fun x y H Q => ∃ b, y = .bl b ∧ (x = .non ∨ ∃ i, x = .int i) ∧ Q (.bl false) H
theorem op_isBl : OpR X (compareOp .Is) rIsBl := by
  intro pins s σ H x y v u Q I rx ry h
  obtain ⟨b, rfl, hx, q⟩ := h
  cases ry
  rcases hx with rfl | ⟨i, rfl⟩
  · cases rx
    exact wpAny_pure ⟨.bl false, H, I, rfl, q⟩
  · obtain ⟨t, rfl⟩ := rx
    exact wpAny_pure ⟨.bl false, H, I, rfl, q⟩
/-- x in a list or tuple of texts: x flat, or a list or tuple -/
def isTx : V → Bool
  | .str _ => true
  | _ => false
def rInQ (K : PySem.W.Frag) : R2 := fun x y H Q => rIn K false x y H Q ∨ ∃ a p xs ys, x = .ref a ∧ y = .ref p ∧ SqL K H p xs ∧ (SqL K H a ys ∨ SqT K H a ys) ∧ xs.all isTx = true ∧ Q (.bl false) H
theorem mem_tx {A : Around} {s : Shared} {v : Value} (h : ∀ (b : Str) (u : Tok), SeqAt.EqAt A s (.str b u) v false) : ∀ {xs : List V} {us : List Value}, Vals xs us → xs.all isTx = true → ∀ u ∈ us, SeqAt.EqAt A s u v false
  | _, _, .nil, _ => fun u hu => by cases hu
  | y :: xs, u :: us, .cons r t, f => fun u' hu => by
    rw [List.all_cons, Bool.and_eq_true] at f
    rcases List.mem_cons.mp hu with rfl | hu
    · cases y with
      | str z => obtain ⟨t, rfl⟩ := r; exact h _ _
      | _ => cases f.1
    · exact mem_tx h t f.2 u' hu
theorem op_inQ (hu : X.A.units + 64 < cLine) : OpR X (compareOp .In) (rInQ X.K) := by
  intro pins s σ H x y v u Q I rx ry h
  rcases h with h | ⟨a, p, xs, ys, rfl, rfl, hq, ha, fs, q⟩
  · exact op_in_seq pins s σ H x y v u Q I rx ry h
  · cases ry
    cases rx
    obtain ⟨its, r, pl, hz⟩ := I.list hq
    have e : its.toArray.any (fun _ => false) = false := by simp
    refine SeqAt.in_listAt (fun _ => false) pl.isList (fun w hw => ?_) (by rw [e]; exact ⟨.bl false, H, I, rfl, q⟩)
    have hw : w ∈ its := by simpa using hw
    rcases ha with ha | ha
    · obtain ⟨_, _, p2, _⟩ := I.list ha
      exact mem_tx (fun b u => SeqAt.EqAt.str_list b u p2.isList (by show X.A.units + 1 < _; omega)) r fs w hw
    · obtain ⟨_, _, p2, _⟩ := I.tuple ha
      exact mem_tx (fun b u => SeqAt.EqAt.str_tuple b u p2 (by show X.A.units + 1 < _; omega)) r fs w hw
end
end RV
/-! lifted -/
namespace L2.VW
open PySem
section
variable {K : PySem.W.Frag} {F0 : Hp}
theorem vdAll_rev {F : Hp} : ∀ {vs : List V} {ds : List D}, VdAll K F vs ds → VdAll K F vs.reverse ds.reverse
  | _, _, .nil => .nil
  | _, _, .cons a t => by
    rw [List.reverse_cons, List.reverse_cons]
    exact (vdAll_rev t).app (.cons a .nil)
def dRev (da dm : TED) : TED := fun env S P => da env S fun x S1 => dm env S1 fun y S2 => y = .int (-1) ∧ ∃ ds, x = .tup ds ∧ P (.tup ds.reverse) S2
instance {ta tm : TE} {da dm : TED} [UpE K F0 ta da] [UpE K F0 tm dm] : UpE K F0 (RV.tRev K ta tm) (dRev da dm) := ⟨fun r0 h le =>
  UpE.up (t := ta) (td := da) r0 h fun x S1 F1 H1 v h1 s1 r1 v1 => UpE.up (t := tm) (td := dm) (r0.at s1 r1) h1 fun y S2 F2 H2 u ⟨e, ds, e2, p⟩ s2 r2 v2 => by
    subst e; subst e2
    cases v2
    obtain ⟨a, xs, rfl, hq, hx⟩ := tup_at r2 (v1.mono s2)
    refine ⟨rfl, a, xs, rfl, hq, fun q hq2 => ?_⟩
    obtain ⟨s3, r3⟩ := r2.newF (ho := .tup xs.reverse) hq2
    exact le _ _ _ _ _ p ((s1.trans s2).trans s3) r3 (.tup upd_same ((vdAll_rev hx).mono s3))⟩
inductive NI : D → Prop
  | non : NI .non
  | int (i : Int) : NI (.int i)
def dIsBl : R2D := fun x y S P => ∃ b, y = .bl b ∧ NI x ∧ P (.bl false) S
instance : UpR K F0 RV.rIsBl dIsBl := ⟨fun r hv hu ⟨b, e, hx, p⟩ le => by
  subst e; cases hu
  cases hx with
  | non => cases hv; exact ⟨b, rfl, .inl rfl, le _ _ _ _ _ p (Same.refl _) r (.bl _)⟩
  | int i => cases hv; exact ⟨b, rfl, .inr ⟨i, rfl⟩, le _ _ _ _ _ p (Same.refl _) r (.bl _)⟩⟩
def inQ (x : D) (ws : List Str) : Bool := match x with
  | .str z => decide (z ∈ ws)
  | _ => false
def okQ : D → Bool
  | .non => true
  | .bl _ => true
  | .int _ => true
  | .str _ => true
  | .lst _ => true
  | .tup _ => true
  | _ => false
/-- x in a list of texts -/
def dInQ : R2D := fun x y S P => ∃ ws : List Str, y = .lst (ws.map D.str) ∧ okQ x = true ∧ P (.bl (inQ x ws)) S
theorem tx_all {F : Hp} : ∀ {ws : List Str} {xs : List V}, VdAll K F xs (ws.map D.str) → xs = ws.map V.str
  | [], _, .nil => rfl
  | z :: r, _, .cons a t => by cases a; rw [tx_all t]; rfl
theorem inV_no {x : V} (h : ∀ z, x ≠ .str z) (f : flatV x = true) : ∀ ws : List Str, inV x (ws.map V.str) = false
  | [] => rfl
  | z :: r => by
    have ih := inV_no h f r
    unfold inV at ih ⊢
    rw [List.map_cons, List.any_cons, ih, Bool.or_false]
    cases x <;> first | rfl | (exact absurd rfl (h _)) | cases f
instance : UpR K F0 (RV.rInQ K) dInQ := ⟨fun {v u x y H Q F S P} r hv hu ⟨ws, e, hx, p⟩ le => by
  subst e
  obtain ⟨b, ys, rfl, hq, hy⟩ := (show SeqL S (.lst (ws.map D.str)) (ws.map D.str) from .inl rfl).at r hu
  obtain rfl := tx_all hy
  have fl : (ws.map V.str).all flatV = true := by rw [List.all_eq_true]; intro z hz; obtain ⟨a, _, rfl⟩ := List.mem_map.mp hz; rfl
  have ft : (ws.map V.str).all RV.isTx = true := by rw [List.all_eq_true]; intro z hz; obtain ⟨a, _, rfl⟩ := List.mem_map.mp hz; rfl
  have nx : ∀ b : Bool, inQ x ws = b → Q (.bl b) H := fun b e => by subst e; exact le _ _ _ _ _ p (Same.refl _) r (.bl _)
  cases hv with
  | non => exact .inl ⟨b, _, rfl, .inl hq, rfl, fl, by rw [inV_no (fun z => by simp) rfl]; exact nx _ rfl⟩
  | bl i => exact .inl ⟨b, _, rfl, .inl hq, rfl, fl, by rw [inV_no (fun z => by simp) rfl]; exact nx _ rfl⟩
  | int i => exact .inl ⟨b, _, rfl, .inl hq, rfl, fl, by rw [inV_no (fun z => by simp) rfl]; exact nx _ rfl⟩
  | str z =>
    obtain ⟨i1, _⟩ := inD_of (K := K) (F := F) (v := .str z) (.str z) rfl hy (by rw [List.all_eq_true]; intro z hz; obtain ⟨a, _, rfl⟩ := List.mem_map.mp hz; rfl)
    exact .inl ⟨b, _, rfl, .inl hq, rfl, fl, by rw [i1, inD_str]; exact nx _ rfl⟩
  | lst h1 h2 => exact .inr ⟨_, b, _, _, rfl, rfl, hq, .inl (.inl (.inl (r.fr _ _ h1))), ft, nx _ rfl⟩
  | tup h1 h2 => exact .inr ⟨_, b, _, _, rfl, rfl, hq, .inr (.inl (.inl (r.fr _ _ h1))), ft, nx _ rfl⟩
  | _ => cases hx⟩
end
end L2.VW
namespace LawK67
open PySem L2
def top (i : Nat) : Stmt := PySem.Challenge.pw_deltaboughs_k67_asks_that_stand_alike.main.body.getD i (.Pass ⟨0, 0, 0, 0⟩)
abbrev s_rows_within : Stmt := top 1
abbrev s_done : Stmt := top 2
abbrev s_is_within : Stmt := top 3
abbrev s_abut : Stmt := top 4
abbrev s_is_timely : Stmt := top 5
abbrev s_events_of : Stmt := top 6
abbrev s_moment_of : Stmt := top 7
abbrev s_answers_by_moments : Stmt := top 8
abbrev s_is_same : Stmt := top 9
abbrev s_stand_alike : Stmt := top 10
abbrev s_held_behind : Stmt := top 11
abbrev s_pool : Stmt := top 13
abbrev s_take : Stmt := top 14
abbrev s_within : Stmt := top 15
abbrev s_law_abut : Stmt := top 16
abbrev s_one_done : Stmt := top 17
abbrev s_moments : Stmt := top 18
abbrev s_placed : Stmt := top 19
abbrev s_played : Stmt := top 20
abbrev s_alike : Stmt := top 21
abbrev s_drawn_ask : Stmt := top 22
abbrev s_cut_pieces : Stmt := top 23
abbrev s_history : Stmt := top 24
abbrev s_answered : Stmt := top 25
abbrev s_bent : Stmt := top 26
abbrev s_pieces_bent : Stmt := top 27
abbrev s_right : Stmt := top 28
abbrev s_law : Stmt := top 29
abbrev n_rows_within : List Str := ["kept", "low", "high", "key"]
abbrev n_done : List Str := ["kept", "ask", "word", "key", "rest", "old", "before", "after"]
abbrev n_is_within : List Str := ["begin", "moment", "end"]
abbrev n_abut : List Str := ["ask", "pieces", "word", "low", "high", "back", "some", "at", "first", "last", "moment"]
abbrev n_is_timely : List Str := ["row", "name", "ask", "begin", "moment", "end", "answer", "piece"]
abbrev n_events_of : List Str := ["asks", "found", "number", "name", "ask", "begin", "moment", "end", "answer", "piece"]
abbrev n_moment_of : List Str := ["event"]
abbrev n_answers_by_moments : List Str := ["pairs", "asks", "kept", "found", "moment", "number", "piece", "ask", "some"]
abbrev n_is_same : List Str := ["one", "other"]
abbrev n_stand_alike : List Str := ["pairs", "asks", "moments", "found", "kept", "number", "name", "ask", "begin", "moment", "end", "answer", "due", "row", "event"]
abbrev n_held_behind : List Str := ["pairs", "asks", "found", "kept"]
abbrev n_pool : List Str := ["_law_script", "_law_k", "_law_cell", "_law_seed"]
abbrev n_take : List Str := ["_law_pool_here", "_law_many", "_law_found"]
abbrev n_within : List Str := ["_law_rows", "_law_first", "_law_end", "_law_row"]
abbrev n_law_abut : List Str := ["_law_bounds", "_law_pieces", "_law_first", "_law_end", "_law_falling", "_law_here", "_law_one", "_law_other", "_law_moment"]
abbrev n_one_done : List Str := ["_law_kept", "_law_ask", "_law_word", "_law_key", "_law_old"]
abbrev n_moments : List Str := ["_law_row", "_law_name", "_law_ask", "_law_start", "_law_moment", "_law_end", "_law_answer", "_law_piece"]
abbrev n_placed : List Str := ["_law_row", "_law_name", "_law_ask", "_law_start", "_law_moment", "_law_end", "_law_answer", "_law_some", "_law_one"]
abbrev n_played : List Str := ["_law_twos", "_law_rows", "_law_kept", "_law_events", "_law_number", "_law_row", "_law_at", "_law_moment", "_law_found", "_law_name", "_law_ask", "_law_start", "_law_moments_here", "_law_end", "_law_answer", "_law_some"]
abbrev n_alike : List Str := ["_law_twos", "_law_rows", "_law_row", "_law_times", "_law_found", "_law_due"]
abbrev n_drawn_ask : List Str := ["_law_pool_here", "_law_has_goings", "_law_key", "_law_value", "_law_way"]
abbrev n_cut_pieces : List Str := ["_law_pool_here", "_law_ask", "_law_times", "_law_word", "_law_first", "_law_end", "_law_falling", "_law_cuts", "_law_turn", "_law_pieces", "_law_one", "_law_other", "_law_moment"]
abbrev n_history : List Str := ["_law_pool_here", "_law_many", "_law_has_goings", "_law_rows", "_law_number", "_law_ask", "_law_start", "_law_times", "_law_end", "_law_moment", "_law_k"]
abbrev n_answered : List Str := ["_law_twos", "_law_rows", "_law_found", "_law_told", "_law_row", "_law_due"]
abbrev n_bent : List Str := ["_law_pool_here", "_law_rows", "_law_at", "_law_name", "_law_ask", "_law_start", "_law_moment", "_law_end", "_law_answer", "_law_way", "_law_other"]
abbrev n_pieces_bent : List Str := ["_law_pool_here", "_law_pieces", "_law_at", "_law_one", "_law_other", "_law_moment", "_law_way"]
abbrev n_right : List Str := ["_law_twos", "_law_rows", "_law_kept", "_law_due", "_law_found", "_law_told"]
abbrev n_law : List Str := ["_law_script", "_law_k", "_law_pool_here", "_law_twos", "_law_rows", "_law_turn", "_law_once", "_law_key"]
theorem sc_rows_within : FnScope n_rows_within ["kept", "low", "high"] (defScope s_rows_within) := ⟨rfl, rfl, rfl, by decide +kernel, rfl, by decide +kernel, by decide +kernel⟩
theorem sc_done : FnScope n_done ["kept", "ask"] (defScope s_done) := ⟨rfl, rfl, rfl, by decide +kernel, rfl, by decide +kernel, by decide +kernel⟩
theorem sc_is_within : FnScope n_is_within ["begin", "moment", "end"] (defScope s_is_within) := ⟨rfl, rfl, rfl, by decide +kernel, rfl, by decide +kernel, by decide +kernel⟩
theorem sc_abut : FnScope n_abut ["ask", "pieces"] (defScope s_abut) := ⟨rfl, rfl, rfl, by decide +kernel, rfl, by decide +kernel, by decide +kernel⟩
theorem sc_is_timely : FnScope n_is_timely ["row"] (defScope s_is_timely) := ⟨rfl, rfl, rfl, by decide +kernel, rfl, by decide +kernel, by decide +kernel⟩
theorem sc_events_of : FnScope n_events_of ["asks"] (defScope s_events_of) := ⟨rfl, rfl, rfl, by decide +kernel, rfl, by decide +kernel, by decide +kernel⟩
theorem sc_moment_of : FnScope n_moment_of ["event"] (defScope s_moment_of) := ⟨rfl, rfl, rfl, by decide +kernel, rfl, by decide +kernel, by decide +kernel⟩
theorem sc_answers_by_moments : FnScope n_answers_by_moments ["pairs", "asks"] (defScope s_answers_by_moments) := ⟨rfl, rfl, rfl, by decide +kernel, rfl, by decide +kernel, by decide +kernel⟩
theorem sc_is_same : FnScope n_is_same ["one", "other"] (defScope s_is_same) := ⟨rfl, rfl, rfl, by decide +kernel, rfl, by decide +kernel, by decide +kernel⟩
theorem sc_stand_alike : FnScope n_stand_alike ["pairs", "asks"] (defScope s_stand_alike) := ⟨rfl, rfl, rfl, by decide +kernel, rfl, by decide +kernel, by decide +kernel⟩
theorem sc_held_behind : FnScope n_held_behind ["pairs", "asks"] (defScope s_held_behind) := ⟨rfl, rfl, rfl, by decide +kernel, rfl, by decide +kernel, by decide +kernel⟩
theorem sc_pool : FnScope n_pool ["_law_script", "_law_k"] (defScope s_pool) := ⟨rfl, rfl, rfl, by decide +kernel, rfl, by decide +kernel, by decide +kernel⟩
theorem sc_take : FnScope n_take ["_law_pool_here", "_law_many"] (defScope s_take) := ⟨rfl, rfl, rfl, by decide +kernel, rfl, by decide +kernel, by decide +kernel⟩
theorem sc_within : FnScope n_within ["_law_rows", "_law_first", "_law_end"] (defScope s_within) := ⟨rfl, rfl, rfl, by decide +kernel, rfl, by decide +kernel, by decide +kernel⟩
theorem sc_law_abut : FnScope n_law_abut ["_law_bounds", "_law_pieces"] (defScope s_law_abut) := ⟨rfl, rfl, rfl, by decide +kernel, rfl, by decide +kernel, by decide +kernel⟩
theorem sc_one_done : FnScope n_one_done ["_law_kept", "_law_ask"] (defScope s_one_done) := ⟨rfl, rfl, rfl, by decide +kernel, rfl, by decide +kernel, by decide +kernel⟩
theorem sc_moments : FnScope n_moments ["_law_row"] (defScope s_moments) := ⟨rfl, rfl, rfl, by decide +kernel, rfl, by decide +kernel, by decide +kernel⟩
theorem sc_placed : FnScope n_placed ["_law_row"] (defScope s_placed) := ⟨rfl, rfl, rfl, by decide +kernel, rfl, by decide +kernel, by decide +kernel⟩
theorem sc_played : FnScope n_played ["_law_twos", "_law_rows"] (defScope s_played) := ⟨rfl, rfl, rfl, by decide +kernel, rfl, by decide +kernel, by decide +kernel⟩
theorem sc_alike : FnScope n_alike ["_law_twos", "_law_rows"] (defScope s_alike) := ⟨rfl, rfl, rfl, by decide +kernel, rfl, by decide +kernel, by decide +kernel⟩
theorem sc_drawn_ask : FnScope n_drawn_ask ["_law_pool_here", "_law_has_goings"] (defScope s_drawn_ask) := ⟨rfl, rfl, rfl, by decide +kernel, rfl, by decide +kernel, by decide +kernel⟩
theorem sc_cut_pieces : FnScope n_cut_pieces ["_law_pool_here", "_law_ask", "_law_times"] (defScope s_cut_pieces) := ⟨rfl, rfl, rfl, by decide +kernel, rfl, by decide +kernel, by decide +kernel⟩
theorem sc_history : FnScope n_history ["_law_pool_here", "_law_many", "_law_has_goings"] (defScope s_history) := ⟨rfl, rfl, rfl, by decide +kernel, rfl, by decide +kernel, by decide +kernel⟩
theorem sc_answered : FnScope n_answered ["_law_twos", "_law_rows"] (defScope s_answered) := ⟨rfl, rfl, rfl, by decide +kernel, rfl, by decide +kernel, by decide +kernel⟩
theorem sc_bent : FnScope n_bent ["_law_pool_here", "_law_rows"] (defScope s_bent) := ⟨rfl, rfl, rfl, by decide +kernel, rfl, by decide +kernel, by decide +kernel⟩
theorem sc_pieces_bent : FnScope n_pieces_bent ["_law_pool_here", "_law_pieces"] (defScope s_pieces_bent) := ⟨rfl, rfl, rfl, by decide +kernel, rfl, by decide +kernel, by decide +kernel⟩
theorem sc_right : FnScope n_right ["_law_twos", "_law_rows"] (defScope s_right) := ⟨rfl, rfl, rfl, by decide +kernel, rfl, by decide +kernel, by decide +kernel⟩
theorem sc_law : FnScope n_law ["_law_script"] (defScope s_law) := ⟨rfl, rfl, rfl, by decide +kernel, rfl, by decide +kernel, by decide +kernel⟩
/-! ### a cut: what stands between a statement and the rest, said once -/
structure Cut (t u : TS) (D : Ends) (σ : St) (H : Hp) : Prop where
  ex : ∃ Mid : St → Hp → Prop, t { D with nx := Mid } σ H ∧ ∀ σ' H', Mid σ' H' → u D σ' H'
theorem cutAt {X : Cx} {st : Stmt} {rest : List Stmt} {t u : TS} (h1 : PS X st t) (h2 : PSs X rest u) : PSs X (st :: rest) (Cut t u) := by
  constructor
  intro pins s σ H D I h
  obtain ⟨Mid, a, b⟩ := h.ex
  apply wpAny_execs_cons
  refine thn (h1.run pins s σ H { D with nx := Mid } I a) ?_
  intro f s1 q
  match f, q with
  | .next, ⟨σ', H', I', m⟩ => exact h2.run pins s1 σ' H' D I' (b σ' H' m)
  | .ret _, q => exact q
  | .brk, q => exact q
  | .cont, q => exact q
theorem un_upd {H : Hp} {a b : Addr} {o : HO} (h : upd H a o b = none) : b ≠ a ∧ H b = none := by
  have n : b ≠ a := fun e => by rw [e, upd_same] at h; cases h
  exact ⟨n, by rwa [upd_ne n] at h⟩
theorem same_upd {H H' : Hp} {a : Addr} {o : HO} (s : Same H H') (h : H a = none) : Same H (upd H' a o) := fun b u e => by
  rw [upd_ne (ne_of_none e h)]; exact s b u e
theorem same_new {H : Hp} {a : Addr} {o : HO} (h : H a = none) : Same H (upd H a o) := same_upd (Same.refl H) h
/-- d[k] = v as one of several targets -/
theorem set_dict {X : Cx} (hu : X.A.units + 1 < cLine) : PSet X (fun o i v H Q => ∃ a H', o = .ref a ∧ DPut H a i v H' ∧ Q H') := by
  intro pins s σ H o i v ov iv u Q I ro ri rv h
  obtain ⟨a, H', rfl, g, q⟩ := h
  cases ro
  exact d_setItem hu I g ri rv fun s' J => ⟨H', J, q⟩
/-- behind i turns of a comprehension that touches nothing that stood: S i is what stands in the new list -/
structure CP (H1 : Hp) (D : Addr) (S : Nat → List V) (i : Nat) (H : Hp) : Prop where
  fr : H1 D = none
  sm : Same H1 H
  at_ : H D = some (.lst (S i))
section
variable {H1 H H' : Hp} {D : Addr} {S : Nat → List V} {i : Nat} {y : V}
theorem CP.start (hD : H1 D = none) (h0 : S 0 = []) : CP H1 D S 0 (upd H1 D (.lst [])) := ⟨hD, same_new hD, by rw [h0]; exact upd_same⟩
theorem CP.push (c : CP H1 D S i H) (s : Same H H') (e : S (i + 1) = S i ++ [y]) : CP H1 D S (i + 1) (upd H' D (.lst (S i ++ [y]))) :=
  ⟨c.fr, same_upd (c.sm.trans s) c.fr, by rw [e]; exact upd_same⟩
theorem CP.skip (c : CP H1 D S i H) (s : Same H H') (e : S (i + 1) = S i) : CP H1 D S (i + 1) H' := ⟨c.fr, c.sm.trans s, by rw [e]; exact s _ _ c.at_⟩
end
theorem Paired.at {α β : Type} {F : α → β → Prop} : ∀ {l : List α} {r : List β} {i : Nat} {x : α}, Paired F l r → l[i]? = some x → ∃ y, r[i]? = some y ∧ F x y
  | _, _, _, _, .nil, e => by simp at e
  | _, _, 0, _, .cons f _, e => by simp at e; subst e; exact ⟨_, rfl, f⟩
  | _, _, i + 1, x, .cons _ t, e => by
    obtain ⟨y, e1, e2⟩ := Paired.at (i := i) (x := x) t (by simpa using e)
    exact ⟨y, by simpa using e1, e2⟩
theorem take_snoc {α : Type} {l : List α} {i : Nat} {x : α} (h : l[i]? = some x) : l.take (i + 1) = l.take i ++ [x] := by
  rw [List.take_add_one, h]; rfl
/-! ### places where a reading is taken up by hand: "go" stops there -/
structure Wrap (p : Prop) : Prop where
  ex : p
theorem pi_w {X : Cx} {tg iter : Expr} {wi : TI} (h : PI X tg iter wi) : PI X tg iter (fun σ H R => wi σ H fun J H1 => Wrap (R J H1)) := by
  refine ⟨fun pins s σ H R I hw => ?_⟩
  refine thn (h.run pins s σ H _ I hw) fun v s1 a => thn a fun itv s2 b => ?_
  obtain ⟨it, fp, tn, J, H', e, I2, T, st, f, r⟩ := b
  exact ⟨it, fp, tn, J, H', e, I2, T, st, f, r.ex⟩
theorem pe_lk {X : Cx} {e : Expr} {t : TE} (h : PE X e t) : PE X e (fun σ H Q => Wrap (tLockE t σ H Q)) :=
  ⟨fun pins s σ H Q I hw => (pe_lock h).run pins s σ H Q I hw.ex⟩
theorem ps_lk {X : Cx} {st : Stmt} {t : TS} (h : PS X st t) : PS X st (fun D σ H => Wrap (tLock t D σ H)) :=
  ⟨fun pins s σ H D I hw => (ps_lock h).run pins s σ H D I hw.ex⟩
/-! ### within a comprehension's block: what is read is said over the def's own context -/
theorem viaE {X : Cx} {e : Expr} {t t' : TE} (h : PE X e t) (q : t = t') : PE X e t' := q ▸ h
theorem viaT {X : Cx} {es : List Expr} {t t' : TT} (h : PTs X es t) (q : t = t') : PTs X es t' := q ▸ h
theorem viaG {X : Cx} {e : Expr} {t t' : TG} (h : PG X e t) (q : t = t') : PG X e t' := q ▸ h
theorem then_ {c : Bool} {A B : Prop} (h : c = true) (a : A) : if c = true then A else B := by rw [if_pos h]; exact a
theorem else_ {c : Bool} {A B : Prop} (h : c = false) (b : B) : if c = true then A else B := by rw [h]; exact b
theorem by2 {c : Bool} {A B : Prop} (h1 : c = true → A) (h2 : c = false → B) : if c = true then A else B := by
  cases c with
  | true => exact h1 rfl
  | false => exact h2 rfl
theorem fm_yes {α β : Type} {ws : List α} {f : α → Bool} {g : α → β} {j : Nat} {x : α} (h : ws[j]? = some x) (c : f x = true) : ((ws.take (j + 1)).filter f).map g = ((ws.take j).filter f).map g ++ [g x] := by
  rw [take_snoc h, List.filter_append, List.map_append, List.filter_cons, if_pos c]; rfl
theorem fm_no {α β : Type} {ws : List α} {f : α → Bool} {g : α → β} {j : Nat} {x : α} (h : ws[j]? = some x) (c : f x = false) : ((ws.take (j + 1)).filter f).map g = ((ws.take j).filter f).map g := by
  rw [take_snoc h, List.filter_append, List.map_append, List.filter_cons, if_neg (by simp [c])]
  show _ ++ [] = _; rw [List.append_nil]
theorem Paired.snoc {α β : Type} {F : α → β → Prop} : ∀ {l : List α} {r : List β} {x : α} {y : β}, Paired F l r → F x y → Paired F (l ++ [x]) (r ++ [y])
  | _, _, _, _, .nil, f => .cons f .nil
  | _, _, _, _, .cons g t, f => .cons g (Paired.snoc t f)
theorem walk_upto {n : Nat} : Walk (Itr 0 n) n (fun _ => True) (YFn fun i => .int (i : Nat)) :=
  walk_range.mono (fun _ h => h) fun i H x H' _ _ h => by
    obtain ⟨h1, h2⟩ := h
    refine ⟨h1, h2.trans ?_⟩
    show V.int (0 + (i : Int)) = V.int i
    rw [Int.zero_add]
/-- an if whose test comes out as b, the heap as it was -/
theorem ifS {tc : TT} {t u : TS} {D : Ends} {σ : St} {H : Hp} (b : Bool) (h : ∀ Q : Bool → Hp → Prop, Q b H → tc σ H Q) (h1 : b = true → t D σ H) (h2 : b = false → u D σ H) : tIfS tc t u D σ H :=
  h _ (by
    cases b with
    | true => exact h1 rfl
    | false => exact h2 rfl)
theorem andQ {a b : Bool} {Q : Bool → Hp → Prop} {H : Hp} {u : Prop} (h : Q (a && b) H) (hu : a = true → Q b H → u) : if a = true then u else Q false H := by
  cases a with
  | true => exact hu rfl h
  | false => exact h
theorem dec_v {i j : Int} : decide (V.int i = V.int j) = decide (i = j) := by simp
theorem map_set_same {α β : Type} {l : List α} {j : Nat} {x y : α} {f : α → β} (h : l[j]? = some x) (e : f y = f x) : (l.set j y).map f = l.map f := by
  apply List.ext_getElem?
  intro n
  rw [List.getElem?_map, List.getElem?_map, List.getElem?_set]
  by_cases c : j = n
  · subst c
    obtain ⟨hl, _⟩ := List.getElem?_eq_some_iff.mp h
    rw [if_pos rfl, if_pos hl, h]
    exact congrArg some e
  · rw [if_neg c]
/-! ### a dict that a call has made, walked: it is locked once it stands, and never let go -/
def tSeal (t : TE) : TE := fun σ H Q => t σ H fun x H1 => ∃ d kvs, x = .ref d ∧ H1 d = some (.dK kvs) ∧ ∀ od, Q x (upd H1 d (.frz od (.dK kvs)))
theorem pe_seal {X : Cx} {e : Expr} {t : TE} (h : PE X e t) : PE X e (tSeal t) := by
  refine ⟨fun pins s σ H Q I hw => ?_⟩
  refine thn (h.run pins s σ H _ I hw) fun v s1 ⟨x, H1, I1, r, d, kvs, ex, hd, q⟩ => ?_
  obtain ⟨od, I2⟩ := I1.lock hd True.intro
  exact ⟨x, _, I2, r, q od⟩
theorem viaS {X : Cx} {l : List Stmt} {t t' : TS} (h : PSs X l t) (q : t = t') : PSs X l t' := q ▸ h
/-! ### tactics: "arith" and "fact" close a side condition, "hp" looks an object up, "ne" parts two addresses, "go" steps through a reading as far as equations and known facts lead -/
local macro_rules | `(tactic| walk_at "arith") => `(tactic| first
  | omega
  | (dsimp only; omega)
  | exact Nat.le_of_ble_eq_true rfl
  | decide
  | exact ⟨by omega, by omega⟩
  | exact Or.inl ⟨by omega, by omega⟩
  | exact Or.inr ⟨by omega, by omega⟩
  | exact ⟨by omega, by omega, by omega, by omega⟩)
local macro_rules | `(tactic| walk_at "ne") => `(tactic| first
  | (with_reducible assumption)
  | (apply Ne.symm; with_reducible assumption)
  | exact ne_of_none (by assumption) (by assumption)
  | exact Ne.symm (ne_of_none (by assumption) (by assumption)))
local macro_rules | `(tactic| walk_at "hp") => `(tactic| first
  | (with_reducible assumption)
  | (with_reducible exact upd_same)
  | ((with_reducible apply Eq.trans (upd_ne (by walk_at "ne"))); walk_at "hp"))
local macro_rules | `(tactic| walk_at "fact") => `(tactic| first
  | apply Eq.refl
  | (with_reducible assumption)
  | ((with_reducible apply SqL.of); walk_at "hp")
  | ((with_reducible apply SqT.of); walk_at "hp")
  | ((with_reducible apply Or.inl); (with_reducible apply SqL.of); walk_at "hp")
  | ((with_reducible apply Or.inr); (with_reducible apply SqT.of); walk_at "hp")
  | walk_at "hp"
  | ((with_reducible apply Rd.of); walk_at "hp")
  | ((with_reducible show tyV _ _ _ _); exact Or.inl ⟨rfl, _, SqL.of (by walk_at "hp")⟩)
  | ((with_reducible show tyV _ _ _ _); exact Or.inr (Or.inr (Or.inl ⟨rfl, Or.inl ⟨_, by walk_at "hp"⟩⟩)))
  | ((with_reducible show IsD _ _); exact Or.inl ⟨_, Or.inl (by walk_at "hp")⟩)
  | ((with_reducible show SqL _ _ _ _); assumption)
  | ((with_reducible show SqT _ _ _ _); assumption)
  | ((with_reducible show SqL _ _ _ _ ∨ _); apply Or.inl; assumption)
  | ((with_reducible show SqL _ _ _ _ ∨ _); apply Or.inr; assumption)
  | ((with_reducible show ∃ xs, SqL _ _ _ xs); apply Exists.intro; first | (apply SqL.of; walk_at "hp") | assumption)
  | ((with_reducible show ∃ xs, SqT _ _ _ xs); apply Exists.intro; first | (apply SqT.of; walk_at "hp") | assumption)
  | walk_at "arith"
  | assumption)
local macro_rules | `(tactic| walk_at "go1") => `(tactic| first
  | apply Exists.intro
  | (apply And.intro; focus (walk_at "fact")))
local macro_rules | `(tactic| walk_at "go") => `(tactic| repeat (walk_at "go1"))
local macro_rules | `(tactic| walk_at "x_then") => `(tactic| ((with_reducible refine then_ ?_ ?_); focus (first | rfl | assumption | (simp; done))))
local macro_rules | `(tactic| walk_at "x_else") => `(tactic| ((with_reducible refine else_ ?_ ?_); focus (first | rfl | assumption | (simp; done))))
/-! ### tactics of the layer without addresses: "sp" looks an object up, "vf" closes a known part, "v" steps -/
local macro_rules | `(tactic| walk_at "sne") => `(tactic| first
  | (with_reducible assumption)
  | (apply Ne.symm; with_reducible assumption)
  | exact VW.sne_of (by assumption) (by assumption)
  | exact Ne.symm (VW.sne_of (by assumption) (by assumption)))
local macro_rules | `(tactic| walk_at "sp") => `(tactic| first
  | (with_reducible assumption)
  | (with_reducible exact VW.sup_same)
  | ((with_reducible apply Eq.trans (VW.sup_ne (by walk_at "sne"))); walk_at "sp")
  | ((with_reducible apply Eq.trans (VW.sdel_ne (by walk_at "sne"))); walk_at "sp"))
local macro_rules | `(tactic| walk_at "sq") => `(tactic| first
  | (with_reducible assumption)
  | exact Or.inl rfl
  | exact Or.inr (Or.inl ⟨_, rfl, by walk_at "sp"⟩)
  | exact Or.inr (Or.inr rfl)
  | exact Or.inr ⟨_, rfl, by walk_at "sp"⟩)
local macro_rules | `(tactic| walk_at "vf") => `(tactic| first
  | apply Eq.refl
  | (with_reducible assumption)
  | ((with_reducible show VW.SeqL _ _ _); walk_at "sq")
  | ((with_reducible show VW.SeqW _ _ _); walk_at "sq")
  | ((with_reducible show VW.Ins _ _ _ _); walk_at "sq")
  | ((with_reducible show VW.DicK _ _ _); walk_at "sq")
  | ((with_reducible show VW.TyIs _ _ _); first | exact Or.inl ⟨rfl, _, by walk_at "sq"⟩ | exact Or.inr ⟨rfl, _, rfl⟩)
  | ((with_reducible show VW.LenS _ _ _); first | exact Or.inl ⟨_, by walk_at "sq", rfl⟩ | exact Or.inr (Or.inl ⟨_, rfl, rfl⟩) | exact Or.inr (Or.inr (Or.inl ⟨_, rfl, by walk_at "arith", rfl⟩)) | exact Or.inr (Or.inr (Or.inr ⟨_, by walk_at "sq", rfl⟩)))
  | ((with_reducible show VW.IsDic _ _); exact Or.inl ⟨_, by walk_at "sq"⟩)
  | ((with_reducible show VW.DGot _ _ _ _); exact VW.dgotI (by walk_at "sq"))
  | ((with_reducible show VW.DGot _ _ _ _); exact Or.inl ⟨_, _, by walk_at "sq", rfl, rfl⟩)
  | ((with_reducible show VW.DPutD _ _ _ _ _); first | exact VW.dputI (by walk_at "sp") (by first | assumption | walk_at "arith") | exact VW.dputI0 (by walk_at "sp"))
  | ((with_reducible show VW.DPopD _ _ _ _ _); exact VW.dpopI (by walk_at "sp") (by assumption))
  | ((with_reducible show VW.IntOf _ _); first | exact VW.IntOf.int _ | exact VW.IntOf.bl _)
  | ((with_reducible show VW.SqS _ _ _); first | exact Or.inl (by walk_at "sq") | exact Or.inr rfl)
  | ((with_reducible show VW.LstS _ _ _); first | exact Or.inl (by walk_at "sq") | exact Or.inr (Or.inl rfl) | exact Or.inr (Or.inr ⟨_, by walk_at "sq", rfl⟩))
  | ((with_reducible show VW.EqS _ _ _); first | exact VW.EqS.int _ _ | exact VW.EqS.str _ _ | exact VW.EqS.bl _ _)
  | ((with_reducible show VW.IxS _ _ _ _); first | exact VW.IxS.lst (by walk_at "sq") (by first | assumption | (apply Eq.refl)) | exact VW.IxS.tup (by first | assumption | (apply Eq.refl)))
  | walk_at "sp"
  | walk_at "arith"
  | assumption)
local macro_rules | `(tactic| walk_at "v1") => `(tactic| first
  | apply Exists.intro
  | (apply And.intro; focus (walk_at "vf")))
local macro_rules | `(tactic| walk_at "v") => `(tactic| repeat (walk_at "v1"))
/-- an error of the class at S is what «except S» names -/
theorem exm_self {K : PySem.W.Frag} {S : Addr} (h1 : PySem.W.subIn K (.ref S) (.type "BaseException") = some true) (h2 : PySem.W.isClsIn K S = true) (h3 : PySem.W.typeIn K (.ref S) = some (.type "type")) (h4 : PySem.W.subIn K (.ref S) (.ref S) = some true) :
    PySem.W.exmOne K (.ref S) (.ref S) = some true := by
  have e1 : (PySem.W.subIn K (.ref S) (.type "BaseException") == some true) = true := by rw [h1] <;> rfl
  have e2 : ((PySem.W.clsIn K S).isSome && PySem.W.typeIn K (.ref S) == some (.type "type")) = true := by
    have h2' : (PySem.W.clsIn K S).isSome = true := h2
    rw [h2', h3] <;> rfl
  show (if (PySem.W.subIn K (.ref S) (.type "BaseException") == some true) = true then (if ((PySem.W.clsIn K S).isSome && PySem.W.typeIn K (.ref S) == some (.type "type")) = true then PySem.W.subIn K (.ref S) (.ref S) else none) else none) = some true
  rw [if_pos e1, if_pos e2]
  exact h4
theorem exm_pair {K : PySem.W.Frag} {S C : Addr} {b : Bool} (h1 : PySem.W.subIn K (.ref S) (.type "BaseException") = some true) (h2 : PySem.W.isClsIn K S = true) (h3 : PySem.W.typeIn K (.ref S) = some (.type "type")) (h4 : PySem.W.subIn K (.ref C) (.ref S) = some b) :
    PySem.W.exmOne K (.ref C) (.ref S) = some b := by
  have e1 : (PySem.W.subIn K (.ref S) (.type "BaseException") == some true) = true := by rw [h1] <;> rfl
  have e2 : ((PySem.W.clsIn K S).isSome && PySem.W.typeIn K (.ref S) == some (.type "type")) = true := by
    have h2' : (PySem.W.clsIn K S).isSome = true := h2
    rw [h2', h3] <;> rfl
  show (if (PySem.W.subIn K (.ref S) (.type "BaseException") == some true) = true then (if ((PySem.W.clsIn K S).isSome && PySem.W.typeIn K (.ref S) == some (.type "type")) = true then PySem.W.subIn K (.ref C) (.ref S) else none) else none) = some b
  rw [if_pos e1, if_pos e2]
  exact h4

/-! ### data that == looks at, flat -/
theorem dp_ints {K : PySem.W.Frag} {H : Hp} : ∀ ns : List Int, DpAll K H (ns.map V.int) (ns.map PyData.int)
  | [] => .nil
  | n :: r => .cons (.int n) (dp_ints r)
theorem lay_ints : ∀ ns : List Int, PyData.canLayAll0 (ns.map PyData.int) = true ∧ PyData.depthAll (ns.map PyData.int) = 0
  | [] => ⟨rfl, rfl⟩
  | n :: r => by
    obtain ⟨a, b⟩ := lay_ints r
    rw [List.map_cons, PyData.canLayAll0, PyData.depthAll, a, b]
    exact ⟨rfl, rfl⟩
theorem shaped_ints (ns : List Int) : SeqAt.shaped (.list (ns.map PyData.int)) = true := by
  obtain ⟨a, b⟩ := lay_ints ns
  unfold SeqAt.shaped
  rw [PyData.canLay0, PyData.depth, a, b]
  rfl
theorem can_ints (ns : List Int) : (PyData.list (ns.map PyData.int)).canLay0 = true := by
  rw [PyData.canLay0, (lay_ints ns).1]
/-! ### dicts: an entry at its place -/
section
variable {κ : Type} [DecidableEq κ]
theorem valV_at : ∀ {kvs : List (κ × V)} {j : Nat} {kv : κ × V}, (kvs.map (·.1)).Nodup → kvs[j]? = some kv → valV kvs kv.1 = some kv.2
  | [], _, _, _, h => by simp at h
  | p :: r, 0, kv, _, h => by
    have e : p = kv := Option.some.inj h
    subst e; exact valV_pos rfl
  | p :: r, j + 1, kv, nd, h => by
    have nd' : p.1 ∉ r.map (·.1) ∧ (r.map (·.1)).Nodup := List.nodup_cons.mp nd
    have h' : r[j]? = some kv := by simpa using h
    have ne : ¬ p.1 = kv.1 := fun e => nd'.1 (by rw [e]; exact List.mem_map_of_mem (List.mem_of_getElem? h'))
    rw [valV_neg ne]; exact valV_at nd'.2 h'
theorem valV_of_not {kvs : List (κ × V)} {k : κ} (h : k ∉ kvs.map (·.1)) : valV kvs k = none := by
  cases e : valV kvs k with
  | none => rfl
  | some v => exact (h (valV_in e)).elim
theorem putK_at {kvs : List (κ × V)} {j : Nat} {kv : κ × V} (v : V) (nd : (kvs.map (·.1)).Nodup) (h : kvs[j]? = some kv) : putK kvs kv.1 v = kvs.set j (kv.1, v) := by
  unfold putK
  rw [if_pos (by rw [valV_any, valV_at nd h]; rfl)]
  apply List.ext_getElem?
  intro i
  rw [List.getElem?_map, List.getElem?_set]
  by_cases e : j = i
  · subst e
    have hl : j < kvs.length := (List.getElem?_eq_some_iff.mp h).1
    rw [if_pos rfl, if_pos hl, h]; simp
  · rw [if_neg e]
    cases hi : kvs[i]? with
    | none => rfl
    | some x =>
      have ne : ¬ x.1 = kv.1 := fun q => e (nd_ix (l := kvs.map (·.1)) (x := kv.1) nd (by rw [List.getElem?_map, h]; rfl) (by rw [List.getElem?_map, hi]; exact congrArg some q))
      simp [ne]
end

/-! ### calls by keyword alone -/
theorem kb_of {K : PySem.W.Frag} {x qual : Str} {st : Stmt} {f : Addr} {fd : FuncData} {ps ks : List Str} {n : Nat} (F : Fun K x qual st f fd) (g : {α : Type} → List α → List α → List α)
    (h0 : ∀ {vs zs : List V} {us ws : List Value}, Vals vs us → Vals zs ws → Vals (g vs zs) (g us ws))
    (h : ∀ (kV doc pm : Value) (an : Option Addr) (cdv ct : Value) (us ws : List Value), us.length = n → ws.length = ks.length → bindArgs (PySem.W.fnOf x qual (defArgs st) (defBody st) (defScope st) .none kV doc pm an cdv ct) ⟨us, ks.zip ws⟩ = pure (ps.zip (g us ws))) :
    KBn K fd ps n ks g g := by
  obtain ⟨oc, od, kV, doc, pm, an, cdv, ct, osl, rfl, lk, hcd⟩ := F.ex
  exact ⟨fun s us ws X l1 l2 => .of_eq (h kV doc pm an cdv ct us ws l1 l2), fun r1 r2 => h0 r1 r2⟩
theorem pe_callK0 {X : Cx} {CX : CXT} {k : Nat} {f : Addr} {fd : FuncData} {ps ks : List Str} {sp : Sp} {E : XK} {x : Str} {p pos : Pos} {kws : List Keyword} {tk : TA} {g : List Value → List Value → List Value} {gV : List V → List V → List V}
    (F : FnOk X.prog X.w X.K X.mg X.base CX k f fd ps sp) (hr : Room k X.A) (hg : Gl X x) (hm : X.mg x = some (.ref f)) (hk : PySem.W.keepIn X.K (.ref f) = true) (hb : KBn X.K fd ps 0 ks g gV) (hx : Passes CX X E) (hkw : PK X kws tk)
    (hall : (backToKw pos (keywordEach kws X.env)).all (·.1.isSome) = true := by rfl) (hks : (backToKw pos (keywordEach kws X.env)).filterMap (·.1) = ks := by rfl) (hd : (x == ("__debug__" : Str)) = false := by decide)
    (hpl : ((backTo pos (starEach [] X.env)).any (·.1) || (backToKw pos (keywordEach kws X.env)).any (·.1.isNone)) = false := by rfl) :
    PE X (.Call (.Name x p) [] kws pos) (tCallN 0 ks.length sp gV E tNil tk) := by
  refine ⟨fun pins s σ H Q I h => ?_⟩
  refine wpAny_Call_Name_kw (ld_glob I hg hm (PySem.W.callWith_KW0 (h₀ := X.base) I.ok.mod.kin hk hall ?_ hpl) hd)
  refine thn (hkw.run pos pins s σ H _ I h) fun ws s2 ⟨zs, H2, I2, rz, _, l2, q⟩ => ⟨I2.kIn, ?_⟩
  rw [hks]
  exact run_fnN (us := []) (vs := []) F hr hb hx I2 .nil rz rfl l2 q
/-- one keyword-only parameter, left out: its default -/
theorem bd_kw {K : PySem.W.Frag} {x qual : Str} {st : Stmt} {D : Addr} {doc pm cdv ct : Value} {an : Option Addr} {ps : List Str} {k : Str} {u : Value} {n : Nat} (hn : PySem.W.nsIn K D k = some (some u)) (hps : ps.length = n + 1)
    (h : ∀ us : List Value, us.length = n → KwChain D [(k, u)] (bindArgs (PySem.W.fnOf x qual (defArgs st) (defBody st) (defScope st) .none (.ref D) doc pm an cdv ct) ⟨us, []⟩) (ps.zip (us ++ [u]))) :
    Binds K (PySem.W.fnOf x qual (defArgs st) (defBody st) (defScope st) .none (.ref D) doc pm an cdv ct) ps [u] := fun s us X hl =>
  BindsTo.of_looks fun M => KwChain.looks X (fun q hq => by rw [List.mem_singleton.mp hq]; exact hn) (h us (by rw [List.length_append, hps] at hl; exact Nat.succ.inj hl))

/-! ### a method called by keywords alone -/
theorem paired_rev {α β : Type} {F : α → β → Prop} : ∀ {l : List α} {r : List β}, Paired F l r → Paired F l.reverse r.reverse
  | _, _, .nil => .nil
  | _ :: _, _ :: _, .cons a t => by
    rw [List.reverse_cons, List.reverse_cons]
    exact (paired_rev t).snoc a
def tMethK (C : Addr) (m : Str) (n : Nat) (sp : Sp) (gV : List V → List V → List V) (E : XK) (ta : TE) (tk : TA) : TE := fun σ H Q => ta σ H fun x H1 => ∃ a dx fs, x = .ref a ∧ H1 a = some (.ins C dx fs) ∧ fs.lookup m = none ∧ tk σ H1 fun zs H2 => zs.length = n ∧ sp (gV [.ref a] zs) H2 Q E
theorem pe_methK0 {X : Cx} {CX : CXT} {k : Nat} {f C : Addr} {fd : FuncData} {ps ks : List Str} {sp : Sp} {E : XK} {m : Str} {pos apos : Pos} {o : Expr} {ta : TE} {kws : List Keyword} {tk : TA} {g : List Value → List Value → List Value} {gV : List V → List V → List V} {pl : Sem Bool} (he : PE X o ta) (c : Cls X.K C) (hm : Meth X.K C m f)
    (F : FnOk X.prog X.w X.K X.mg X.base CX k f fd ps sp) (hr : Room k X.A) (hb : KBn X.K fd ps 1 ks g gV) (hx : Passes CX X E) (hkw : PK X kws tk)
    (hall : (backToKw pos (keywordEach kws X.env)).all (·.1.isSome) = true := by rfl) (hks : (backToKw pos (keywordEach kws X.env)).filterMap (·.1) = ks := by rfl)
    (hpl : ((backTo pos (starEach [] X.env)).any (·.1) || (backToKw pos (keywordEach kws X.env)).any (·.1.isNone)) = false := by rfl)
    (ht : eval (.Call (.Attribute o m apos) [] kws pos) X.env = (do
      let ov ← eval o X.env
      standAt apos.atName
      let (f, first) ← holding [ov] (getMethod ov m pl)
      callWith pos f first (backTo pos (starEach [] X.env)) (backToKw pos (keywordEach kws X.env))) := by rfl) :
    PE X (.Call (.Attribute o m apos) [] kws pos) (tMethK C m ks.length sp gV E ta tk) := by
  refine ⟨fun pins s σ H Q I h => ?_⟩
  refine PySem.W.methodCall_KW (pl := pl) (thn (he.run pins s σ H _ I h) fun u s1 ⟨x, H1, I1, rx, a, dx, fs, ex, ea, l, q⟩ => ?_) ht
  subst ex
  obtain rfl : u = Value.ref a := rx
  refine getmeth_ok I1 ea c hm l ?_
  refine PySem.W.callWith_KW0 (first := [.ref a]) (h₀ := X.base) I.ok.mod.kin hm.kp hall ?_ hpl
  refine thn (hkw.run pos pins s1 σ H1 _ I1 q) fun ws s2 ⟨zs, H2, I2, rz, l2, q2⟩ => ⟨I2.kIn, ?_⟩
  rw [hks]
  exact run_fnN (us := [.ref a]) (vs := [.ref a]) F hr hb hx I2 (.cons rfl .nil) rz rfl l2 q2

/-! ### t != (), t == (): a tuple of any items beside an empty one -/
section
variable {X : Cx}
def rNeT0 (K : PySem.W.Frag) : R2 := fun x y H Q => ∃ a b xs, x = .ref a ∧ y = .ref b ∧ SqT K H a xs ∧ SqT K H b [] ∧ Q (.bl (!decide (xs = []))) H
def rEqT0 (K : PySem.W.Frag) : R2 := fun x y H Q => ∃ a b xs, x = .ref a ∧ y = .ref b ∧ SqT K H a xs ∧ SqT K H b [] ∧ Q (.bl (decide (xs = []))) H
theorem size0 {xs : List V} {its : List Value} (r : Vals xs its) : (its.toArray.size == (#[] : Array Value).size) = decide (xs = []) := by
  cases r with
  | nil => rfl
  | cons _ _ => simp
theorem op_neT0 (hu : X.A.units + 64 < cLine) : OpR X (compareOp .NotEq) (rNeT0 X.K) := by
  intro pins s σ H x y v u Q I rx ry h
  obtain ⟨a, b, xs, rfl, rfl, ha, hb, q⟩ := h
  cases rx
  cases ry
  obtain ⟨its, r1, p1, _⟩ := I.tuple ha
  obtain ⟨its2, r2, p2, _⟩ := I.tuple hb
  cases r2
  refine SeqAt.RcNeAt.tuples (e := fun _ => true) p1 p2 (by omega) (fun j h1 h2 => absurd h2 (by simp)) X.prog X.w _ _ ?_
  refine ⟨.bl (!decide (xs = [])), H, I, ?_, q⟩
  show _ = _
  rw [← size0 r1, List.all_eq_true.mpr fun _ _ => rfl, Bool.true_and]
theorem op_eqT0 (hu : X.A.units + 64 < cLine) : OpR X (compareOp .Eq) (rEqT0 X.K) := by
  intro pins s σ H x y v u Q I rx ry h
  obtain ⟨a, b, xs, rfl, rfl, ha, hb, q⟩ := h
  cases rx
  cases ry
  obtain ⟨its, r1, p1, _⟩ := I.tuple ha
  obtain ⟨its2, r2, p2, _⟩ := I.tuple hb
  cases r2
  refine SeqAt.RcAt.tuples (e := fun _ => true) p1 p2 (by omega) (fun j h1 h2 => absurd h2 (by simp)) X.prog X.w _ _ ?_
  refine ⟨.bl (decide (xs = [])), H, I, ?_, q⟩
  show _ = _
  rw [← size0 r1, List.all_eq_true.mpr fun _ _ => rfl, Bool.true_and]
end

structure Adr where
  (a_rows_within a_done a_is_within a_abut a_is_timely a_events_of a_moment_of a_answers_by_moments a_is_same a_stand_alike a_held_behind a_pool a_take a_within a_law_abut a_one_done a_moments a_placed a_played a_alike a_drawn_ask a_cut_pieces a_history a_answered a_bent a_pieces_bent a_right a_law : Addr)
  (d_rows_within d_done d_is_within d_abut d_is_timely d_events_of d_moment_of d_answers_by_moments d_is_same d_stand_alike d_held_behind d_pool d_take d_within d_law_abut d_one_done d_moments d_placed d_played d_alike d_drawn_ask d_cut_pieces d_history d_answered d_bent d_pieces_bent d_right d_law : FuncData)
structure Txt (w : World) (K : PySem.W.Frag) (mg : Str → Option Value) (A : Adr) : Prop where
  F_rows_within : Fun K "rows_within" "rows_within" s_rows_within A.a_rows_within A.d_rows_within
  b_rows_within : Binds K A.d_rows_within ["kept", "low", "high"] []
  m_rows_within : mg "rows_within" = some (.ref A.a_rows_within)
  F_done : Fun K "done" "done" s_done A.a_done A.d_done
  b_done : Binds K A.d_done ["kept", "ask"] []
  m_done : mg "done" = some (.ref A.a_done)
  F_is_within : Fun K "is_within" "is_within" s_is_within A.a_is_within A.d_is_within
  b_is_within : Binds K A.d_is_within ["begin", "moment", "end"] []
  m_is_within : mg "is_within" = some (.ref A.a_is_within)
  F_abut : Fun K "abut" "abut" s_abut A.a_abut A.d_abut
  b_abut : Binds K A.d_abut ["ask", "pieces"] []
  m_abut : mg "abut" = some (.ref A.a_abut)
  F_is_timely : Fun K "is_timely" "is_timely" s_is_timely A.a_is_timely A.d_is_timely
  b_is_timely : Binds K A.d_is_timely ["row"] []
  m_is_timely : mg "is_timely" = some (.ref A.a_is_timely)
  F_events_of : Fun K "events_of" "events_of" s_events_of A.a_events_of A.d_events_of
  b_events_of : Binds K A.d_events_of ["asks"] []
  m_events_of : mg "events_of" = some (.ref A.a_events_of)
  F_moment_of : Fun K "moment_of" "moment_of" s_moment_of A.a_moment_of A.d_moment_of
  b_moment_of : Binds K A.d_moment_of ["event"] []
  m_moment_of : mg "moment_of" = some (.ref A.a_moment_of)
  F_answers_by_moments : Fun K "answers_by_moments" "answers_by_moments" s_answers_by_moments A.a_answers_by_moments A.d_answers_by_moments
  b_answers_by_moments : Binds K A.d_answers_by_moments ["pairs", "asks"] []
  m_answers_by_moments : mg "answers_by_moments" = some (.ref A.a_answers_by_moments)
  F_is_same : Fun K "is_same" "is_same" s_is_same A.a_is_same A.d_is_same
  b_is_same : Binds K A.d_is_same ["one", "other"] []
  m_is_same : mg "is_same" = some (.ref A.a_is_same)
  F_stand_alike : Fun K "stand_alike" "stand_alike" s_stand_alike A.a_stand_alike A.d_stand_alike
  b_stand_alike : Binds K A.d_stand_alike ["pairs", "asks"] []
  m_stand_alike : mg "stand_alike" = some (.ref A.a_stand_alike)
  F_held_behind : Fun K "held_behind" "held_behind" s_held_behind A.a_held_behind A.d_held_behind
  b_held_behind : Binds K A.d_held_behind ["pairs", "asks"] []
  m_held_behind : mg "held_behind" = some (.ref A.a_held_behind)
  F_pool : Fun K "_law_pool" "_law_pool" s_pool A.a_pool A.d_pool
  b_pool : Binds K A.d_pool ["_law_script", "_law_k"] []
  m_pool : mg "_law_pool" = some (.ref A.a_pool)
  F_take : Fun K "_law_take" "_law_take" s_take A.a_take A.d_take
  b_take : Binds K A.d_take ["_law_pool_here", "_law_many"] []
  m_take : mg "_law_take" = some (.ref A.a_take)
  F_within : Fun K "_law_within" "_law_within" s_within A.a_within A.d_within
  b_within : Binds K A.d_within ["_law_rows", "_law_first", "_law_end"] []
  m_within : mg "_law_within" = some (.ref A.a_within)
  F_law_abut : Fun K "_law_abut" "_law_abut" s_law_abut A.a_law_abut A.d_law_abut
  b_law_abut : Binds K A.d_law_abut ["_law_bounds", "_law_pieces"] []
  m_law_abut : mg "_law_abut" = some (.ref A.a_law_abut)
  F_one_done : Fun K "_law_one_done" "_law_one_done" s_one_done A.a_one_done A.d_one_done
  b_one_done : Binds K A.d_one_done ["_law_kept", "_law_ask"] []
  m_one_done : mg "_law_one_done" = some (.ref A.a_one_done)
  F_moments : Fun K "_law_moments" "_law_moments" s_moments A.a_moments A.d_moments
  b_moments : Binds K A.d_moments ["_law_row"] []
  m_moments : mg "_law_moments" = some (.ref A.a_moments)
  F_placed : Fun K "_law_placed" "_law_placed" s_placed A.a_placed A.d_placed
  b_placed : Binds K A.d_placed ["_law_row"] []
  m_placed : mg "_law_placed" = some (.ref A.a_placed)
  F_played : Fun K "_law_played" "_law_played" s_played A.a_played A.d_played
  b_played : Binds K A.d_played ["_law_twos", "_law_rows"] []
  m_played : mg "_law_played" = some (.ref A.a_played)
  F_alike : Fun K "_law_alike" "_law_alike" s_alike A.a_alike A.d_alike
  b_alike : Binds K A.d_alike ["_law_twos", "_law_rows"] []
  m_alike : mg "_law_alike" = some (.ref A.a_alike)
  F_drawn_ask : Fun K "_law_drawn_ask" "_law_drawn_ask" s_drawn_ask A.a_drawn_ask A.d_drawn_ask
  b_drawn_ask : Binds K A.d_drawn_ask ["_law_pool_here", "_law_has_goings"] []
  m_drawn_ask : mg "_law_drawn_ask" = some (.ref A.a_drawn_ask)
  F_cut_pieces : Fun K "_law_cut_pieces" "_law_cut_pieces" s_cut_pieces A.a_cut_pieces A.d_cut_pieces
  b_cut_pieces : Binds K A.d_cut_pieces ["_law_pool_here", "_law_ask", "_law_times"] []
  m_cut_pieces : mg "_law_cut_pieces" = some (.ref A.a_cut_pieces)
  F_history : Fun K "_law_history" "_law_history" s_history A.a_history A.d_history
  b_history : Binds K A.d_history ["_law_pool_here", "_law_many", "_law_has_goings"] []
  m_history : mg "_law_history" = some (.ref A.a_history)
  F_answered : Fun K "_law_answered" "_law_answered" s_answered A.a_answered A.d_answered
  b_answered : Binds K A.d_answered ["_law_twos", "_law_rows"] []
  m_answered : mg "_law_answered" = some (.ref A.a_answered)
  F_bent : Fun K "_law_bent" "_law_bent" s_bent A.a_bent A.d_bent
  b_bent : Binds K A.d_bent ["_law_pool_here", "_law_rows"] []
  m_bent : mg "_law_bent" = some (.ref A.a_bent)
  F_pieces_bent : Fun K "_law_pieces_bent" "_law_pieces_bent" s_pieces_bent A.a_pieces_bent A.d_pieces_bent
  b_pieces_bent : Binds K A.d_pieces_bent ["_law_pool_here", "_law_pieces"] []
  m_pieces_bent : mg "_law_pieces_bent" = some (.ref A.a_pieces_bent)
  F_right : Fun K "_law_right" "_law_right" s_right A.a_right A.d_right
  b_right : Binds K A.d_right ["_law_twos", "_law_rows"] []
  m_right : mg "_law_right" = some (.ref A.a_right)
  F_law : Fun K "law" "law" s_law A.a_law A.d_law
  b_law : Binds K A.d_law ["_law_script"] []
  m_law : mg "law" = some (.ref A.a_law)
  n_len : mg "len" = none
  n_all : mg "all" = none
  n_dict : mg "dict" = none
  n_list : mg "list" = none
  n_range : mg "range" = none
  n_max : mg "max" = none
  n_min : mg "min" = none
  n_isinstance : mg "isinstance" = none
  n_repr : mg "repr" = none
  n_sorted : mg "sorted" = none
  n_set : mg "set" = none
  n_enumerate : mg "enumerate" = none
  n_zip : mg "zip" = none
  n_int : mg "int" = none
  n_bool : mg "bool" = none
  n_tuple : mg "tuple" = none
  n_str : mg "str" = none
section
variable {P : Program} {w : World} {K : PySem.W.Frag} {mg : Str → Option Value} {base : Heap} {A : Adr}

/-! ### the drawing -/
def spPool : VW.SpD := fun ds S P _ => ∃ (ns : List Int) (k : Nat) (x : VW.D), ds = [x, .int k] ∧ VW.SeqL S x (ns.map VW.D.int) ∧ ns.length ≤ 63 ∧ k ≤ 63 ∧
  ∀ (p : Addr) (c s : Int), S p = none → 0 ≤ c → 0 ≤ s → s < 2147483648 → P (.ref p) (VW.sup S p (.lst [.int c, .int s]))
def spTake : VW.SpD := fun ds S P _ => ∃ (q : Addr) (m : Int), ds = [.ref q, .int m] ∧ VW.PoolS S q ∧ 0 < m ∧ m < 1073741824 ∧ ∀ (r : Int) (S' : VW.Sto), 0 ≤ r → r < m → VW.Drawn S q S' → P (.int r) S'
theorem atI_map {ns : List Int} {k : Nat} (h : k < ns.length) : atI (ns.map VW.D.int) (k : Int) = some (.int (ns[k])) := atI_nat (by rw [List.getElem?_map, List.getElem?_eq_getElem h]; rfl)
theorem ok_pool (T : Txt w K mg A) : FnOk P w K mg base CX0 1 A.a_pool A.d_pool ["_law_script", "_law_k"] (VW.upSp K spPool) := by
  refine T.F_pool.ok sc_pool (VW.upSp.len fun ds S P PE h => by obtain ⟨_, _, _, rfl, _⟩ := h; rfl) (fun cdv A' outer s H vs Q E hr h => ?_)
  obtain ⟨F, S, ds, P', PE, rh, hv, ⟨ns, k, x, rfl, hS, hl, hk, q⟩, lv, lx⟩ := h
  haveI : VW.XLe K F E PE := ⟨lx⟩
  refine ⟨_, (pss_cons (ps_set (i := 2) sc_pool.nd rfl (Or.inl rfl) pe_int)
      (VW.cutAt (ps_if (pt_cmpR op_lt (pv 1) (pe_callB VW.call_lenA (by rfl) T.n_len PySem.boot_len (pa_cons (pv 0) pa_nil)) (nomark _))
      (pss_one (ps_set (i := 2) sc_pool.nd rfl (Or.inl rfl) (pe_ix ix_list (pv 0) (pv 1) (fun _ _ => rfl))))
      pss_nil)
      (pss_cons (ps_set (i := 3) sc_pool.nd rfl (Or.inl rfl) (pe_op op_mod (pe_op op_mul (pe_op op_add (pe_op op_add (pe_op op_mod (pv 2) pe_int) (pe_op op_mul (pe_op op_mul pe_int (pv 1)) (pv 1))) pe_int) pe_int) pe_int))
      (VW.cutAt (ps_if (pt_cmpR op_lt (pv 2) (pe_op op_pow pe_int pe_int) (nomark _))
      (pss_one (ps_set (i := 2) sc_pool.nd rfl (Or.inl rfl) pe_int))
      pss_nil)
      (pss_one (ps_ret (pe_lst (pa_cons (pv 2) (pa_cons (pe_op op_add (pe_op op_mod (pe_op op_mul (pv 3) (pv 3)) pe_int) pe_int) pa_nil))))))))), ?_⟩
  dsimp only [cxOf, Cx.nox, Cx.wish]
  refine VW.body_up rh hv lv ?_
  have ek : (7919 : Int) * k < 1000000 := by omega
  walk_at "v"
  refine ⟨fun env S' => ∃ c : Int, env = [some x, some (.int k), some (.int c), none] ∧ S' = S, ?_, ?_⟩
  · walk_at "v"
    refine ite2 (fun c => ?_) (fun c => ?_)
    · have c : (k : Int) < (ns.map VW.D.int).length := of_decide_eq_true c
      rw [List.length_map] at c
      have hx := atI_map (ns := ns) (k := k) (by omega)
      walk_at "v"
      rfl
    · walk_at "v"
      rfl
  · rintro env S' ⟨c, rfl, rfl⟩
    walk_at "v"
    show VW.dCut _ _ _ [some x, some (.int k), some (.int c), some (.int ((c % 2147483629 + 7919 * (k : Int) * k + 11) * 48271 % 2147483647))] S'
    generalize hs : (c % 2147483629 + 7919 * (k : Int) * k + 11) * 48271 % 2147483647 = sd
    have h0 : 0 ≤ sd ∧ sd < 2147483647 := by omega
    refine ⟨fun env S'' => ∃ c' : Int, env = [some x, some (.int k), some (.int c'), some (.int sd)] ∧ S'' = S' ∧ 0 ≤ c', ?_, ?_⟩
    · walk_at "v"
      refine ite2 (fun c => ?_) (fun c => ?_)
      · walk_at "v"
        exact Int.le_refl _
      · walk_at "v"
        have c := of_decide_eq_false (Bool.eq_false_iff.mpr c)
        have e : (10 : Int) ^ (18 : Int).toNat = 1000000000000000000 := by decide
        omega
    · rintro env S'' ⟨c', rfl, rfl, c0⟩
      walk_at "v"
      exact fun p hp => q p c' (sd * sd % 2147483587 + 1) hp c0 (by omega) (by omega)
theorem ok_take (T : Txt w K mg A) : FnOk P w K mg base CX0 1 A.a_take A.d_take ["_law_pool_here", "_law_many"] (VW.upSp K spTake) := by
  refine T.F_take.ok sc_take (VW.upSp.len fun ds S P PE h => by obtain ⟨_, _, rfl, _⟩ := h; rfl) (fun cdv A' outer s H vs Q E hr h => ?_)
  obtain ⟨F, S, ds, P', PE, rh, hv, ⟨q, m, rfl, ⟨c, s0, hq, h1, h2, h3⟩, m0, m1, k⟩, lv, lx⟩ := h
  haveI : VW.XLe K F E PE := ⟨lx⟩
  refine ⟨_, (pss_cons (ps_if (pt_cmpR op_gt (pe_ix ix_list (pv 0) pe_int (fun _ _ => rfl)) pe_int (nomark _))
      (pss_cons (ps_set (i := 2) sc_take.nd rfl (Or.inl rfl) (pe_op op_mod (pe_ix ix_list (pv 0) pe_int (fun _ _ => rfl)) (pv 1)))
      (pss_cons (ps_asg (pe_op op_fdiv (pe_ix ix_list (pv 0) pe_int (fun _ _ => rfl)) (pv 1)) (pg_sub (pv 0) pe_int set_list))
      (pss_one (ps_ret (pv 2)))))
      pss_nil)
      (pss_cons (ps_asg (pe_op op_mod (pe_op op_add (pe_op op_mul (pe_ix ix_list (pv 0) pe_int (fun _ _ => rfl)) pe_int) pe_int) pe_int) (pg_sub (pv 0) pe_int set_list))
      (pss_one (ps_ret (pe_op op_mod (pe_op op_fdiv (pe_op op_mod (pe_op op_mul (pe_ix ix_list (pv 0) pe_int (fun _ _ => rfl)) (pe_ix ix_list (pv 0) pe_int (fun _ _ => rfl))) pe_int) pe_int) (pv 1)))))), ?_⟩
  dsimp only [cxOf, Cx.nox, Cx.wish]
  refine VW.body_up rh hv lv ?_
  have z0 : atI [VW.D.int c, .int s0] 0 = some (.int c) := atI_nat (j := 0) rfl
  have z1 : ∀ a, atI [a, VW.D.int s0] 1 = some (.int s0) := fun a => atI_nat (j := 1) rfl
  have z2 : ∀ a, atI [a, VW.D.int ((s0 * 48271 + 12345) % 2147483647)] 1 = some (.int ((s0 * 48271 + 12345) % 2147483647)) := fun a => atI_nat (j := 1) rfl
  walk_at "v"
  refine ite2 (fun cp => ?_) (fun cp => ?_)
  · have cp : 0 < c := of_decide_eq_true cp
    walk_at "v"
    exact k (c % m) _ (Int.emod_nonneg _ (by omega)) (Int.emod_lt_of_pos _ m0) ⟨c / m, s0, rfl, Int.ediv_nonneg h1 (by omega), h2, h3⟩
  · walk_at "v"
    have z : ∀ r : Int, 0 ≤ r → r < m → P' (.int r) (VW.sup S q (.lst [.int c, .int ((s0 * 48271 + 12345) % 2147483647)])) := fun r r0 r1 => k r _ r0 r1 ⟨c, _, rfl, h1, Int.emod_nonneg _ (by decide), by omega⟩
    exact z _ (Int.emod_nonneg _ (by omega)) (Int.emod_lt_of_pos _ m0)

/-! ### xs == [], xs != []: a list of any items beside an empty one; t == (), t != () -/
section
variable {X : Cx} {F0 : Hp}
def rEqL0 (K : PySem.W.Frag) : R2 := fun x y H Q => ∃ a b xs, x = .ref a ∧ y = .ref b ∧ SqL K H a xs ∧ SqL K H b [] ∧ Q (.bl (decide (xs = []))) H
def rNeL0 (K : PySem.W.Frag) : R2 := fun x y H Q => ∃ a b xs, x = .ref a ∧ y = .ref b ∧ SqL K H a xs ∧ SqL K H b [] ∧ Q (.bl (!decide (xs = []))) H
theorem op_eqL0 (hu : X.A.units + 64 < cLine) : OpR X (compareOp .Eq) (rEqL0 X.K) := by
  intro pins s σ H x y v u Q I rx ry h
  obtain ⟨a, b, xs, rfl, rfl, ha, hb, q⟩ := h
  cases rx
  cases ry
  obtain ⟨its, r1, p1, _⟩ := I.list ha
  obtain ⟨its2, r2, p2, _⟩ := I.list hb
  cases r2
  cases r1 with
  | nil => exact SeqAt.RcAt.lists (e := fun _ => true) p1.isList p2.isList rfl (by omega) (fun j h1 h2 => absurd h2 (by simp)) X.prog X.w _ _ ⟨.bl true, H, I, rfl, q⟩
  | cons c t => exact SeqAt.RcAt.lists_lengths p1.isList p2.isList (by simp) (by omega) X.prog X.w _ _ ⟨.bl false, H, I, rfl, q⟩
theorem op_neL0 (hu : X.A.units + 64 < cLine) : OpR X (compareOp .NotEq) (rNeL0 X.K) := by
  intro pins s σ H x y v u Q I rx ry h
  obtain ⟨a, b, xs, rfl, rfl, ha, hb, q⟩ := h
  cases rx
  cases ry
  obtain ⟨its, r1, p1, _⟩ := I.list ha
  obtain ⟨its2, r2, p2, _⟩ := I.list hb
  cases r2
  cases r1 with
  | nil => exact SeqAt.RcNeAt.lists (e := fun _ => true) p1.isList p2.isList rfl (by omega) (fun j h1 h2 => absurd h2 (by simp)) X.prog X.w _ _ ⟨.bl false, H, I, rfl, q⟩
  | cons c t => exact SeqAt.RcNeAt.lists_lengths p1.isList p2.isList (by simp) (by omega) X.prog X.w _ _ ⟨.bl true, H, I, rfl, q⟩
def dEqL0 : VW.R2D := fun x y S P => ∃ ds, VW.SeqL S x ds ∧ VW.SeqL S y [] ∧ P (.bl ds.isEmpty) S
def dNeL0 : VW.R2D := fun x y S P => ∃ ds, VW.SeqL S x ds ∧ VW.SeqL S y [] ∧ P (.bl (!ds.isEmpty)) S
theorem emp_eq {F : Hp} {xs : List V} {ds : List VW.D} (h : VW.VdAll K F xs ds) : decide (xs = []) = ds.isEmpty := by cases h <;> simp
instance : VW.UpR K F0 (rEqL0 K) dEqL0 := ⟨fun {v u x y H Q F S P} r hv hu ⟨ds, e1, e2, p⟩ le => by
  obtain ⟨a, xs, rfl, hq, hx⟩ := e1.at r hv
  obtain ⟨b, ys, rfl, hq2, hy⟩ := e2.at r hu
  cases hy
  exact ⟨a, b, xs, rfl, rfl, hq, hq2, by rw [emp_eq hx]; exact le _ _ _ _ _ p (Same.refl _) r (.bl _)⟩⟩
instance : VW.UpR K F0 (rNeL0 K) dNeL0 := ⟨fun {v u x y H Q F S P} r hv hu ⟨ds, e1, e2, p⟩ le => by
  obtain ⟨a, xs, rfl, hq, hx⟩ := e1.at r hv
  obtain ⟨b, ys, rfl, hq2, hy⟩ := e2.at r hu
  cases hy
  exact ⟨a, b, xs, rfl, rfl, hq, hq2, by rw [emp_eq hx]; exact le _ _ _ _ _ p (Same.refl _) r (.bl _)⟩⟩
def dEqT0 : VW.R2D := fun x y S P => ∃ ds, x = .tup ds ∧ y = .tup [] ∧ P (.bl ds.isEmpty) S
def dNeT0 : VW.R2D := fun x y S P => ∃ ds, x = .tup ds ∧ y = .tup [] ∧ P (.bl (!ds.isEmpty)) S
instance : VW.UpR K F0 (rEqT0 K) dEqT0 := ⟨fun {v u x y H Q F S P} r hv hu ⟨ds, e1, e2, p⟩ le => by
  subst e1; subst e2
  obtain ⟨a, xs, rfl, hq, hx⟩ := VW.tup_at r hv
  obtain ⟨b, ys, rfl, hq2, hy⟩ := VW.tup_at r hu
  cases hy
  exact ⟨a, b, xs, rfl, rfl, hq, hq2, by rw [emp_eq hx]; exact le _ _ _ _ _ p (Same.refl _) r (.bl _)⟩⟩
instance : VW.UpR K F0 (rNeT0 K) dNeT0 := ⟨fun {v u x y H Q F S P} r hv hu ⟨ds, e1, e2, p⟩ le => by
  subst e1; subst e2
  obtain ⟨a, xs, rfl, hq, hx⟩ := VW.tup_at r hv
  obtain ⟨b, ys, rfl, hq2, hy⟩ := VW.tup_at r hu
  cases hy
  exact ⟨a, b, xs, rfl, rfl, hq, hq2, by rw [emp_eq hx]; exact le _ _ _ _ _ p (Same.refl _) r (.bl _)⟩⟩
end

/-! ### asks, answers, rows -/
inductive Ask where
  | find (k : Int) | put (k v : Int) | take (k : Int) | change (k o n : Int)
def Ask.d : Ask → VW.D
  | .find k => .tup [.str "find", .int k]
  | .put k v => .tup [.str "put", .int k, .int v]
  | .take k => .tup [.str "take", .int k]
  | .change k o n => .tup [.str "change", .int k, .int o, .int n]
inductive An where
  | non | bl (b : Bool) | int (i : Int)
deriving DecidableEq
def An.d : An → VW.D
  | .non => .non | .bl b => .bl b | .int i => .int i
def oI : Option Int → VW.D
  | none => .non | some i => .int i
def oA : Option Int → An
  | none => .non | some i => .int i
theorem oA_d (o : Option Int) : (oA o).d = oI o := by cases o <;> rfl
/-! ### what is kept: keys with values -/
def kv (m : List (Int × Int)) : List (Int × VW.D) := m.map fun p => (p.1, .int p.2)
def getA (m : List (Int × Int)) (k : Int) : Option Int := (m.find? fun p => decide (p.1 = k)).map (·.2)
def putA (m : List (Int × Int)) (k v : Int) : List (Int × Int) := if (m.any fun p => decide (p.1 = k)) = true then m.map (fun p => if p.1 = k then (p.1, v) else p) else m ++ [(k, v)]
def dropA (m : List (Int × Int)) (k : Int) : List (Int × Int) := m.filter fun p => decide (p.1 ≠ k)
theorem kv_len (m : List (Int × Int)) : (kv m).length = m.length := List.length_map ..
theorem kv_get (m : List (Int × Int)) (k : Int) : VW.getI (kv m) k = (getA m k).map VW.D.int := by
  unfold VW.getI getA kv
  rw [List.find?_map, Option.map_map, Option.map_map]; rfl
theorem kv_put (m : List (Int × Int)) (k v : Int) : VW.putI (kv m) k (.int v) = kv (putA m k v) := by
  unfold VW.putI putA kv
  have e1 : ((m.map fun p : Int × Int => (p.1, VW.D.int p.2)).any fun p => decide (p.1 = k)) = m.any fun p => decide (p.1 = k) := by rw [List.any_map]; rfl
  rw [e1]
  split
  · rw [List.map_map, List.map_map]
    apply List.map_congr_left
    intro p _
    show (if p.1 = k then (p.1, VW.D.int v) else (p.1, .int p.2)) = ((if p.1 = k then (p.1, v) else p).1, VW.D.int (if p.1 = k then (p.1, v) else p).2)
    by_cases c : p.1 = k
    · rw [if_pos c, if_pos c]
    · rw [if_neg c, if_neg c]
  · rw [List.map_append]; rfl
theorem kv_drop (m : List (Int × Int)) (k : Int) : VW.dropI (kv m) k = kv (dropA m k) := by
  unfold VW.dropI dropA kv
  rw [List.filter_map]; rfl
theorem putA_len (m : List (Int × Int)) (k v : Int) : (putA m k v).length ≤ m.length + 1 := by
  unfold putA
  split
  · rw [List.length_map]; omega
  · rw [List.length_append]; exact Nat.le_refl _
theorem dropA_len (m : List (Int × Int)) (k : Int) : (dropA m k).length ≤ m.length := List.length_filter_le _ _
/-- an ask, done at once -/
def one (m : List (Int × Int)) : Ask → An × List (Int × Int)
  | .find k => (oA (getA m k), m)
  | .put k v => (oA (getA m k), putA m k v)
  | .take k => (oA (getA m k), if (getA m k).isSome = true then dropA m k else m)
  | .change k o n => if getA m k = some o then (.bl true, putA m k n) else (.bl false, m)
theorem one_len (m : List (Int × Int)) (a : Ask) : (one m a).2.length ≤ m.length + 1 := by
  cases a with
  | find k => exact Nat.le_succ _
  | put k v => exact putA_len m k v
  | take k =>
    show (if (getA m k).isSome = true then dropA m k else m).length ≤ _
    by_cases c : (getA m k).isSome = true
    · rw [if_pos c]; exact Nat.le_succ_of_le (dropA_len m k)
    · rw [if_neg c]; exact Nat.le_succ _
  | change k o n =>
    show (if getA m k = some o then (An.bl true, putA m k n) else (.bl false, m)).2.length ≤ _
    by_cases c : getA m k = some o
    · rw [if_pos c]; exact putA_len m k n
    · rw [if_neg c]; exact Nat.le_succ _
/-- what dropping a key that isn't there does -/
theorem dropA_none {m : List (Int × Int)} {k : Int} (h : getA m k = none) : dropA m k = m := by
  unfold getA at h
  rw [Option.map_eq_none_iff, List.find?_eq_none] at h
  unfold dropA
  rw [List.filter_eq_self]
  intro p hp
  have := h p hp
  simpa using this
theorem take_drop {m : List (Int × Int)} {k : Int} : (if (getA m k).isSome = true then dropA m k else m) = dropA m k := by
  cases e : getA m k with
  | none => rw [if_neg (by decide), dropA_none e]
  | some v => exact if_pos rfl
theorem dgotA {S : VW.Sto} {x : VW.D} {m : List (Int × Int)} {k : Int} (h : VW.DicK S x (VW.iK (kv m))) : VW.DGot S x (.int k) ((getA m k).map VW.D.int) := by
  rw [← kv_get]; exact VW.dgotI h
theorem dputA {S : VW.Sto} {a : Addr} {m : List (Int × Int)} {k v : Int} (h : S a = some (.dK (VW.iK (kv m)))) (hl : m.length < sizeLine) : VW.DPutD S a (.int k) (.int v) (VW.sup S a (.dK (VW.iK (kv (putA m k v))))) := by
  rw [← kv_put]; exact VW.dputI h (by rw [kv_len]; exact hl)
theorem dpopA {S : VW.Sto} {a : Addr} {m : List (Int × Int)} {k v : Int} (h : S a = some (.dK (VW.iK (kv m)))) (hg : getA m k = some v) : VW.DPopD S a (.int k) (.int v) (VW.sup S a (.dK (VW.iK (kv (dropA m k))))) := by
  rw [← kv_drop]; exact VW.dpopI h (by rw [kv_get, hg]; rfl)

local macro_rules | `(tactic| walk_at "vf") => `(tactic| first
  | ((with_reducible show VW.DGot _ _ _ _); exact dgotA (by walk_at "sq"))
  | ((with_reducible show VW.DPutD _ _ _ _ _); exact dputA (by walk_at "sp") (by first | assumption | walk_at "arith"))
  | ((with_reducible show VW.DPopD _ _ _ _ _); exact dpopA (by walk_at "sp") (by assumption)))

theorem got_d {o : Option Int} : (o.map VW.D.int).getD .non = (oA o).d := by cases o <;> rfl
theorem sup_le {S S1 : VW.Sto} {a : Addr} {o : VW.HD} (k : ∀ b u, S b = some u → S1 b = some u) : ∀ b u, VW.sup S a o b = some u → VW.sup S1 a o b = some u := fun b u h => by
  by_cases c : b = a
  · rw [c, VW.sup_same] at h ⊢; exact h
  · rw [VW.sup_ne c] at h ⊢; exact k b u h
theorem eq_ints {S : VW.Sto} {i j : Int} : VW.eqP (VW.pyS S (.int i)) (VW.pyS S (.int j)) = decide (i = j) := by
  have e : ∀ i, VW.pyS S (.int i) = some (.int i) := fun i => by show VW.py (.int i) = _; rw [VW.py]
  rw [e, e]
  show PyData.eqv (.int i) (.int j) = _
  simp only [PyData.eqv]
  rfl
def spOne : VW.SpD := VW.sp2 fun x y S P _ => ∃ a m k, x = .ref a ∧ S a = some (.dK (VW.iK (kv m))) ∧ y = Ask.d k ∧ m.length < 1000 ∧ P (one m k).1.d (VW.sup S a (.dK (VW.iK (kv (one m k).2))))
theorem ok_done (T : Txt w K mg A) : FnOk P w K mg base CX0 1 A.a_done A.d_done ["kept", "ask"] (VW.upSp K (spOne)) := by
  refine T.F_done.ok sc_done (VW.upSp.len VW.sp2_len) (fun cdv A' outer s H vs Q E hr h => ?_)
  obtain ⟨F, S, ds, P', PE, rh, hv, ⟨x1, x2, rfl, h⟩, lv, lx⟩ := h
  have hS0 := (fun (X : VW.Sto) (e : X = S) => e) S rfl
  haveI : VW.XLe K F E PE := ⟨lx⟩
  have hu := hu_of hr
  refine ⟨_, (pss_cons (ps_asg (pv 1) (ST.pg_star (n := 3) (k := 2) rfl (pgs_cons (pg_name (i := 2) sc_done.nd rfl (Or.inl rfl)) (pgs_cons (pg_name (i := 3) sc_done.nd rfl (Or.inl rfl)) (ST.pgs_star (pg_name (i := 4) sc_done.nd rfl (Or.inl rfl)) pgs_nil)))))
      (pss_cons (ps_set (i := 5) sc_done.nd rfl (Or.inl rfl) (pe_dget1 hu (pv 0) (pv 3) ⟨rfl, rfl, rfl, rfl⟩))
      (pss_cons (ps_if (pt_cmpR op_eq (pv 2) pe_str (nomark _))
      (pss_one (ps_dput hu (pv 0) (pv 3) (pe_ix ix_list (pv 4) pe_int (fun _ _ => rfl)) rfl))
      pss_nil)
      (pss_cons (ps_if (PW.pt (pw_and (pt_cmpR op_eq (pv 2) pe_str (nomark _)) (pw_and1 (pt_cmp (pc_din hu (pv 3) (pv 0))))))
      (pss_one (ps_expr (pe_dpop1 (pv 0) (pv 3) ⟨rfl, rfl, rfl, rfl⟩)))
      pss_nil)
      (pss_cons (ps_if (pt_cmpR op_ne (pv 2) pe_str (nomark _))
      (pss_one (ps_ret (pv 5)))
      pss_nil)
      (pss_cons (ps_asg (pv 4) (pg_lst (n := 2) rfl (pgs_cons (pg_name (i := 6) sc_done.nd rfl (Or.inl rfl)) (pgs_cons (pg_name (i := 7) sc_done.nd rfl (Or.inl rfl)) pgs_nil))))
      (pss_cons (ps_if (PW.pt (pw_or (pt_cmp (pc_dnotin hu (pv 3) (pv 0))) (pw_or1 (pt_cmpR (VW.op_nePl hr.units) (pv 5) (pv 6) (nomark _)))))
      (pss_one (ps_ret pe_bl))
      pss_nil)
      (pss_cons (ps_dput hu (pv 0) (pv 3) (pv 7) rfl)
      (pss_one (ps_ret pe_bl)))))))))), ?_⟩
  try dsimp only [cxOf, Cx.nox, Cx.wish, List.map]
  refine VW.body_less rh hv lv ?_
  obtain ⟨a, m, k, rfl, ha, rfl, hl, k1⟩ := h
  have hl' : m.length < sizeLine := by rw [sizeLine_eq]; omega
  cases k with
  | find k =>
    show VW.dSeq _ _ _ [_, some (.tup [.str "find", .int k]), _, _, _, _, _, _] S
    walk_at "v"
    intro p hp
    have ha1 := VW.less_sup (u := .lst []) hp _ _ ha
    have hp1 : VW.sup S p (.lst []) p = some (.lst []) := VW.sup_same
    show VW.kCons _ _ _ _ (VW.sup S p (.lst [])) _
    have bk : ∀ b u, S b = some u → VW.sup S p (.lst []) b = some u := VW.less_sup hp
    generalize VW.sup S p (.lst []) = S1 at ha1 hp1 bk ⊢
    walk_at "v"
    have k2 : P' (oA (getA m k)).d (VW.sup S a (.dK (VW.iK (kv m)))) := k1
    rw [VW.sup_self ha, ← got_d] at k2
    exact ⟨S, bk, k2⟩
  | put k v =>
    show VW.dSeq _ _ _ [_, some (.tup [.str "put", .int k, .int v]), _, _, _, _, _, _] S
    walk_at "v"
    intro p hp
    have ha1 := VW.less_sup (u := .lst [.int v]) hp _ _ ha
    have hp1 : VW.sup S p (.lst [.int v]) p = some (.lst [.int v]) := VW.sup_same
    show VW.kCons _ _ _ _ (VW.sup S p (.lst [.int v])) _
    have bk : ∀ b u, S b = some u → VW.sup S p (.lst [.int v]) b = some u := VW.less_sup hp
    generalize VW.sup S p (.lst [.int v]) = S1 at ha1 hp1 bk ⊢
    walk_at "v"
    have k2 : P' (oA (getA m k)).d (VW.sup S a (.dK (VW.iK (kv (putA m k v))))) := k1
    rw [← got_d] at k2
    exact ⟨_, sup_le bk, k2⟩
  | take k =>
    show VW.dSeq _ _ _ [_, some (.tup [.str "take", .int k]), _, _, _, _, _, _] S
    walk_at "v"
    intro p hp
    have ha1 := VW.less_sup (u := .lst []) hp _ _ ha
    have hp1 : VW.sup S p (.lst []) p = some (.lst []) := VW.sup_same
    show VW.kCons _ _ _ _ (VW.sup S p (.lst [])) _
    have bk : ∀ b u, S b = some u → VW.sup S p (.lst []) b = some u := VW.less_sup hp
    generalize VW.sup S p (.lst []) = S1 at ha1 hp1 bk ⊢
    walk_at "v"
    have k2 : P' (oA (getA m k)).d (VW.sup S a (.dK (VW.iK (kv (if (getA m k).isSome = true then dropA m k else m))))) := k1
    rw [← got_d] at k2
    cases c : getA m k with
    | none =>
      rw [c] at k2
      have k3 : P' .non (VW.sup S a (.dK (VW.iK (kv m)))) := k2
      rw [VW.sup_self ha] at k3
      walk_at "v"
      exact ⟨S, bk, k3⟩
    | some v =>
      rw [c] at k2
      walk_at "v"
      exact ⟨_, sup_le bk, k2⟩
  | change k o n =>
    show VW.dSeq _ _ _ [_, some (.tup [.str "change", .int k, .int o, .int n]), _, _, _, _, _, _] S
    walk_at "v"
    intro p hp
    have ha1 := VW.less_sup (u := .lst [.int o, .int n]) hp _ _ ha
    have hp1 : VW.sup S p (.lst [.int o, .int n]) p = some (.lst [.int o, .int n]) := VW.sup_same
    show VW.kCons _ _ _ _ (VW.sup S p (.lst [.int o, .int n])) _
    have bk : ∀ b u, S b = some u → VW.sup S p (.lst [.int o, .int n]) b = some u := VW.less_sup hp
    generalize VW.sup S p (.lst [.int o, .int n]) = S1 at ha1 hp1 bk ⊢
    walk_at "v"
    cases c : getA m k with
    | none =>
      have k2 : P' (one m (.change k o n)).1.d (VW.sup S a (.dK (VW.iK (kv (one m (.change k o n)).2)))) := k1
      have e : one m (.change k o n) = (.bl false, m) := (show (if getA m k = some o then (An.bl true, putA m k n) else (.bl false, m)) = _ from if_neg (by rw [c]; intro h; cases h))
      rw [e, VW.sup_self ha] at k2
      walk_at "v"
      exact ⟨S, bk, k2⟩
    | some w =>
      have k2 : P' (one m (.change k o n)).1.d (VW.sup S a (.dK (VW.iK (kv (one m (.change k o n)).2)))) := k1
      walk_at "v"
      rw [show (Option.map VW.D.int (some w)).getD VW.D.non = .int w from rfl, eq_ints]
      by_cases cw : w = o
      · have e : one m (.change k o n) = (.bl true, putA m k n) := (show (if getA m k = some o then (An.bl true, putA m k n) else (.bl false, m)) = _ from if_pos (by rw [c, cw]))
        rw [e] at k2
        rw [decide_eq_true cw]
        walk_at "v"
        exact ⟨_, sup_le bk, k2⟩
      · have e : one m (.change k o n) = (.bl false, m) := (show (if getA m k = some o then (An.bl true, putA m k n) else (.bl false, m)) = _ from if_neg (by rw [c]; intro h; cases h; exact cw rfl))
        rw [e, VW.sup_self ha] at k2
        rw [decide_eq_false cw]
        walk_at "v"
        exact ⟨S, bk, k2⟩

local macro_rules | `(tactic| walk_at "vf") => `(tactic| first
  | ((with_reducible show VW.DGot _ _ _ _); exact dgotA (by walk_at "sq"))
  | ((with_reducible show VW.DPutD _ _ _ _ _); exact dputA (by walk_at "sp") (by first | assumption | walk_at "arith"))
  | ((with_reducible show VW.DPopD _ _ _ _ _); exact dpopA (by walk_at "sp") (by assumption)))

/-! ### pieces of goings; rows -/
structure Pc where
  fst : Int
  lst : Option Int
  mom : Int
def Pc.d (p : Pc) : VW.D := .tup [.int p.fst, oI p.lst, .int p.mom]
/-- answers, rows among them -/
inductive An2 where
  | non | bl (b : Bool) | int (i : Int) | rows (xs : List (Int × Int))
deriving DecidableEq
def pairD (p : Int × Int) : VW.D := .tup [.int p.1, .int p.2]
def An2.d : An2 → VW.D
  | .non => .non | .bl b => .bl b | .int i => .int i | .rows xs => .lst (xs.map pairD)
def An.up : An → An2
  | .non => .non | .bl b => .bl b | .int i => .int i
inductive Wk where
  | ask (k : Ask) (m : Option Int)
  | going (low : Int) (high : Option Int) (back : Bool) (ps : List Pc)
def Wk.ad : Wk → VW.D
  | .ask k _ => k.d
  | .going l h b _ => .tup [.str "going", .int l, oI h, .bl b]
def Wk.md : Wk → VW.D
  | .ask _ m => oI m
  | .going _ _ _ ps => .lst (ps.map Pc.d)
structure Row where
  nm : Str
  w : Wk
  b : Option Int
  e : Option Int
  an : An2
def Row.d (r : Row) : VW.D := .tup [.str r.nm, r.w.ad, oI r.b, r.w.md, oI r.e, r.an.d]
/-! ### timely rows -/
/-- behind a begin, ahead of an end where there is one -/
def inW (b m e : Option Int) : Bool := match b, m with
  | some b, some m => decide (b < m) && (match e with | none => true | some e => decide (m < e))
  | _, _ => false
def spWithin : VW.SpD := VW.sp3 fun x y z S P _ => ∃ b m e, x = oI b ∧ y = oI m ∧ z = oI e ∧ P (.bl (inW b m e)) S
theorem ok_is_within (T : Txt w K mg A) : FnOk P w K mg base CX0 1 A.a_is_within A.d_is_within ["begin", "moment", "end"] (VW.upSp K (spWithin)) := by
  refine T.F_is_within.ok sc_is_within (VW.upSp.len VW.sp3_len) (fun cdv A' outer s H vs Q E hr h => ?_)
  obtain ⟨F, S, ds, P', PE, rh, hv, ⟨x1, x2, x3, rfl, h⟩, lv, lx⟩ := h
  haveI : VW.XLe K F E PE := ⟨lx⟩
  have hu := hu_of hr
  refine ⟨_, (pss_one (ps_ret (pe_and (pe_cmpR VW.op_notNA (pv 0) pe_non (nomark _)) (pe_and (pe_cmpR VW.op_notNA (pv 1) pe_non (nomark _)) (pe_and (pe_cmpR op_lt (pv 0) (pv 1) (nomark _)) (pe_one (pe_or (pe_cmpR VW.op_isNA (pv 2) pe_non (nomark _)) (pe_one (pe_cmpR op_lt (pv 1) (pv 2) (nomark _)))))))))), ?_⟩
  try dsimp only [cxOf, Cx.nox, Cx.wish, List.map]
  refine VW.body_up rh hv lv ?_
  obtain ⟨b, m, e, rfl, rfl, rfl, k⟩ := h
  cases b with
  | none => simp only [oI] at k ⊢; walk_at "v"; exact k
  | some b =>
    cases m with
    | none => simp only [oI] at k ⊢; walk_at "v"; exact k
    | some m =>
      cases e with
      | none =>
        simp only [oI] at k ⊢
        have k : P' (.bl (decide (b < m) && true)) S := k
        walk_at "v"
        refine ite2 (fun c => ?_) (fun c => ?_)
        · rw [c] at k
          walk_at "v"
          exact k
        · rw [Bool.eq_false_iff.mpr c] at k
          walk_at "v"
          exact k
      | some e =>
        simp only [oI] at k ⊢
        have k : P' (.bl (decide (b < m) && decide (m < e))) S := k
        walk_at "v"
        refine ite2 (fun c => ?_) (fun c => ?_)
        · rw [c] at k
          walk_at "v"
          exact k
        · rw [Bool.eq_false_iff.mpr c] at k
          walk_at "v"
          exact k
/-! ### pieces that abut -/
theorem eq_oI {S : VW.Sto} {a b : Option Int} : VW.eqP (VW.pyS S (oI a)) (VW.pyS S (oI b)) = decide (a = b) := by
  have eN : VW.pyS S .non = some .none := by show VW.py .non = _; rw [VW.py]
  have eI : ∀ i, VW.pyS S (.int i) = some (.int i) := fun i => by show VW.py (.int i) = _; rw [VW.py]
  cases a with
  | none =>
    cases b with
    | none =>
      show VW.eqP (VW.pyS S .non) (VW.pyS S .non) = _
      rw [eN]; show PyData.eqv .none .none = _; simp [PyData.eqv]
    | some j =>
      show VW.eqP (VW.pyS S .non) (VW.pyS S (.int j)) = _
      rw [eN, eI]; show PyData.eqv .none (.int j) = _; simp [PyData.eqv]
  | some i =>
    cases b with
    | none =>
      show VW.eqP (VW.pyS S (.int i)) (VW.pyS S .non) = _
      rw [eN, eI]; show PyData.eqv (.int i) .none = _; simp [PyData.eqv]
    | some j =>
      show VW.eqP (VW.pyS S (.int i)) (VW.pyS S (.int j)) = _
      rw [eI, eI]; show PyData.eqv (.int i) (.int j) = _; simp only [PyData.eqv, Option.some.injEq]; rfl
def abutL : Option Int → List Pc → Option Int → Bool
  | at1, [], hi => decide (at1 = hi)
  | at1, p :: r, hi => if at1 = some p.fst ∧ ∀ l, p.lst = some l → p.fst < l then abutL p.lst r hi else false
def abutG (low : Int) (hi : Option Int) (back : Bool) (ps : List Pc) : Bool :=
  if ∃ h, hi = some h ∧ h ≤ low then ps.isEmpty else !ps.isEmpty && abutL (some low) (if back then ps.reverse else ps) hi
theorem oI_ok (S : VW.Sto) (a : Option Int) : VW.okP (VW.pyS S (oI a)) = true := by
  cases a with
  | none => show VW.okP (VW.py .non) = true; rw [VW.py]; rfl
  | some i => show VW.okP (VW.py (.int i)) = true; rw [VW.py]; rfl
def spAbut : VW.SpD := VW.sp2 fun x y S P _ => ∃ low hi back ps, x = .tup [.str "going", .int low, oI hi, .bl back] ∧ y = .lst (ps.map Pc.d) ∧ ps.length < 1000 ∧ P (.bl (abutG low hi back ps)) S
theorem ok_abut (T : Txt w K mg A) : FnOk P w K mg base CX0 1 A.a_abut A.d_abut ["ask", "pieces"] (VW.upSp K (spAbut)) := by
  refine T.F_abut.ok sc_abut (VW.upSp.len VW.sp2_len) (fun cdv A' outer s H vs Q E hr h => ?_)
  obtain ⟨F, S, ds, P', PE, rh, hv, ⟨x1, x2, rfl, h⟩, lv, lx⟩ := h
  haveI : VW.XLe K F E PE := ⟨lx⟩
  have hu := hu_of hr
  refine ⟨_, (pss_cons (ps_asg (pv 0) (pg_tup (n := 4) rfl (pgs_cons (pg_name (i := 2) sc_abut.nd rfl (Or.inl rfl)) (pgs_cons (pg_name (i := 3) sc_abut.nd rfl (Or.inl rfl)) (pgs_cons (pg_name (i := 4) sc_abut.nd rfl (Or.inl rfl)) (pgs_cons (pg_name (i := 5) sc_abut.nd rfl (Or.inl rfl)) pgs_nil))))))
      (VW.cutAt (ps_if (PW.pt (pw_and (pt_cmpR VW.op_notNA (pv 4) pe_non (nomark _)) (pw_and1 (pt_cmpR op_le (pv 4) (pv 3) (nomark _)))))
      (pss_one (ps_ret (pe_cmpR (op_eqL0 hr.units) (pv 1) (VW.pe_kp (pe_lst pa_nil)) (nomark _))))
      pss_nil)
      (pss_cons (ps_set (i := 6) sc_abut.nd rfl (Or.inl rfl) (pv 1))
      (VW.cutAt (ps_if (pt_val (pv 5))
      (pss_one (ps_set (i := 6) sc_abut.nd rfl (Or.inl rfl) (pe_rvL (pv 1))))
      pss_nil)
      (pss_cons (ps_set (i := 7) sc_abut.nd rfl (Or.inl rfl) (pv 3))
      (pss_cons (ps_for PassesOwn.never rfl (pi_list (pv 6)) (pg_tup (n := 3) rfl (pgs_cons (pg_name (i := 8) sc_abut.nd rfl (Or.inl rfl)) (pgs_cons (pg_name (i := 9) sc_abut.nd rfl (Or.inl rfl)) (pgs_cons (pg_name (i := 10) sc_abut.nd rfl (Or.inl rfl)) pgs_nil))))
      (pss_cons (ps_if (PW.pt (pw_or (pt_cmpR VW.op_isNA (pv 7) pe_non (nomark _)) (pw_or (pt_cmpR (VW.op_nePl hr.units) (pv 8) (pv 7) (nomark _)) (pw_or1 (PW.pt (pw_and (pt_cmpR VW.op_notNA (pv 9) pe_non (nomark _)) (pw_and1 (pt_cmpR op_le (pv 9) (pv 8) (nomark _)))))))))
      (pss_one (ps_ret pe_bl))
      pss_nil)
      (pss_one (ps_set (i := 7) sc_abut.nd rfl (Or.inl rfl) (pv 9)))))
      (pss_one (ps_ret (pe_and (pe_cmpR (op_neL0 hr.units) (pv 6) (VW.pe_kp (pe_lst pa_nil)) (nomark _)) (pe_one (pe_cmpR (VW.op_eqPl hr.units) (pv 7) (pv 4) (nomark _)))))))))))), ?_⟩
  try dsimp only [cxOf, Cx.nox, Cx.wish, List.map]
  refine VW.body_up rh hv lv ?_
  obtain ⟨low, hi, back, ps, rfl, rfl, hl, k⟩ := h
  have hl' : (ps.map Pc.d).length < sizeLine := by rw [List.length_map, sizeLine_eq]; omega
  show VW.dSeq _ _ _ [some (.tup [.str "going", .int low, oI hi, .bl back]), some (.lst (ps.map Pc.d)), none, none, none, none, none, none, none, none, none] S
  unfold abutG at k
  have em : (ps.map Pc.d).isEmpty = ps.isEmpty := by cases ps <;> rfl
  walk_at "v"
  refine ⟨fun env S2 => env = [some (.tup [.str "going", .int low, oI hi, .bl back]), some (.lst (ps.map Pc.d)), some (.str "going"), some (.int low), some (oI hi), some (.bl back), none, none, none, none, none] ∧ S2 = S ∧ ¬ ∃ h, hi = some h ∧ h ≤ low, ?_, ?_⟩
  · walk_at "v"
    cases hi with
    | none =>
      rw [show (!VW.isNon (oI none)) = false from rfl]
      walk_at "v"
      exact fun z => by obtain ⟨h, e, _⟩ := z; cases e
    | some h =>
      rw [show (!VW.isNon (oI (some h))) = true from rfl]
      show (if true = true then _ else _)
      walk_at "v"
      refine ite2 (fun c => ?_) (fun c => ?_)
      · have c : h ≤ low := of_decide_eq_true c
        rw [if_pos ⟨h, rfl, c⟩] at k
        walk_at "v"
        rw [em]
        exact k
      · have c : ¬ h ≤ low := fun z => c (decide_eq_true z)
        walk_at "v"
        exact fun z => by obtain ⟨h2, e, h3⟩ := z; cases e; exact c h3
  · rintro env S2 ⟨rfl, rfl, hn⟩
    rw [if_neg hn] at k
    walk_at "v"
    refine ⟨fun env S3 => env = [some (.tup [.str "going", .int low, oI hi, .bl back]), some (.lst (ps.map Pc.d)), some (.str "going"), some (.int low), some (oI hi), some (.bl back), some (.lst ((if back then ps.reverse else ps).map Pc.d)), none, none, none, none] ∧ S3 = S2, ?_, ?_⟩
    · cases back with
      | true =>
        walk_at "v"
        exact ⟨by rw [if_pos rfl, List.map_reverse]; rfl, rfl⟩
      | false =>
        walk_at "v"
        rfl
    · rintro env S3 ⟨rfl, rfl⟩
      have el : (if back then ps.reverse else ps).isEmpty = ps.isEmpty := by cases back <;> simp
      rw [← el] at k
      have hl2 : (if back then ps.reverse else ps).length < 1000 := by cases back <;> simpa using hl
      generalize (if back then ps.reverse else ps) = qs at k hl2 ⊢
      have hq' : (qs.map Pc.d).length < sizeLine := by rw [List.length_map, sizeLine_eq]; omega
      walk_at "v"
      refine VW.ForD.mk ⟨fun j env S4 => Wrap (∃ (at1 : Option Int) (v8 v9 v10 : Option VW.D), env = [some (.tup [.str "going", .int low, oI hi, .bl back]), some (.lst (ps.map Pc.d)), some (.str "going"), some (.int low), some (oI hi), some (.bl back), some (.lst (qs.map Pc.d)), some (oI at1), v8, v9, v10] ∧ S4 = S3 ∧ abutL (some low) qs hi = abutL at1 (qs.drop j) hi), ?_, fun _ _ _ _ _ => Or.inl rfl, ?_, ?_⟩
      · exact ⟨some low, _, _, _, rfl, rfl, rfl⟩
      · rintro j x env S4 hj hx ⟨at1, v8, v9, v10, rfl, rfl, ha⟩
        obtain ⟨p, hp, rfl⟩ : ∃ p, qs[j]? = some p ∧ Pc.d p = x := by
          have hx : (qs.map Pc.d)[j]? = some x := hx
          rw [List.getElem?_map] at hx
          exact Option.map_eq_some_iff.mp hx
        have hjl := (List.getElem?_eq_some_iff.mp hp).1
        have edr : qs.drop j = p :: qs.drop (j + 1) := by
          rw [List.drop_eq_getElem_cons hjl]
          congr 1
          have := List.getElem?_eq_getElem hjl
          rw [hp] at this; cases this; rfl
        rw [edr] at ha
        have ne : qs.isEmpty = false := by cases qs with
          | nil => cases hjl
          | cons _ _ => rfl
        rw [ne] at k
        have ha : abutL (some low) qs hi = if at1 = some p.fst ∧ ∀ l, p.lst = some l → p.fst < l then abutL p.lst (qs.drop (j + 1)) hi else false := ha
        show VW.kTup _ _ (.tup [.int p.fst, oI p.lst, .int p.mom]) _ S4 _
        have bad : ¬ (at1 = some p.fst ∧ ∀ l, p.lst = some l → p.fst < l) → P' (.bl false) S4 := fun c => by
          rw [ha, if_neg c] at k; exact k
        walk_at "v"
        cases at1 with
        | none =>
          rw [show VW.isNon (oI none) = true from rfl]
          walk_at "v"
          exact bad fun h => by cases h.1
        | some at1 =>
          rw [show VW.isNon (oI (some at1)) = false from rfl]
          walk_at "v"
          have e1 : VW.eqP (VW.pyS S4 (.int p.fst)) (VW.pyS S4 (oI (some at1))) = decide (some p.fst = some at1) := eq_oI (a := some p.fst) (b := some at1)
          rw [e1]
          by_cases c1 : p.fst = at1
          · rw [decide_eq_true (by rw [c1]), show (!true) = false from rfl]
            walk_at "v"
            cases el : p.lst with
            | none =>
              rw [show (!VW.isNon (oI none)) = false from rfl]
              walk_at "v"
              refine ⟨p.lst, _, _, _, by rw [el]; rfl, rfl, ?_⟩
              rw [ha, if_pos ⟨by rw [c1], fun l h => by rw [el] at h; cases h⟩]
            | some l =>
              rw [show (!VW.isNon (oI (some l))) = true from rfl]
              walk_at "v"
              refine ite2 (fun c2 => ?_) (fun c2 => ?_)
              · have c2 : l ≤ p.fst := of_decide_eq_true c2
                walk_at "v"
                exact bad fun h => by have := h.2 l el; omega
              · have c2 : ¬ l ≤ p.fst := fun z => c2 (decide_eq_true z)
                walk_at "v"
                refine ⟨p.lst, _, _, _, by rw [el]; rfl, rfl, ?_⟩
                rw [ha, if_pos ⟨by rw [c1], fun l2 h => by rw [el] at h; cases h; omega⟩]
          · rw [decide_eq_false (fun h => c1 (Option.some.inj h)), show (!false) = true from rfl]
            walk_at "v"
            exact bad fun h => c1 (Option.some.inj h.1).symm
      · rintro env S4 ⟨at1, v8, v9, v10, rfl, rfl, ha⟩
        rw [show qs.drop (VW.wL (VW.D.lst (qs.map Pc.d)) (qs.map Pc.d)).n = [] from by show qs.drop (qs.map Pc.d).length = []; rw [List.length_map, List.drop_length]] at ha
        have ha : abutL (some low) qs hi = decide (at1 = hi) := ha
        rw [ha] at k
        walk_at "v"
        have em2 : (qs.map Pc.d).isEmpty = qs.isEmpty := by cases qs <;> rfl
        rw [em2]
        cases ne : qs.isEmpty with
        | true =>
          rw [ne] at k
          rw [show (!true) = false from rfl] at k ⊢
          walk_at "v"
          exact k
        | false =>
          rw [ne] at k
          rw [show (!false) = true from rfl] at k ⊢
          have o1 := oI_ok S4 at1
          have o2 := oI_ok S4 hi
          walk_at "v"
          rw [eq_oI]
          exact k

local macro_rules | `(tactic| walk_at "vf") => `(tactic| first
  | ((with_reducible show VW.DGot _ _ _ _); exact dgotA (by walk_at "sq"))
  | ((with_reducible show VW.DPutD _ _ _ _ _); exact dputA (by walk_at "sp") (by first | assumption | walk_at "arith"))
  | ((with_reducible show VW.DPopD _ _ _ _ _); exact dpopA (by walk_at "sp") (by assumption)))

/-! ### timely -/
/-- a going that has ended: its begin, and its pieces within -/
def goB : Option Int → Int → List Pc → Bool
  | none, _, _ => false
  | some b, e, ps => decide (b < e) && (ps.map fun p => inW (some b) (some p.mom) (some e)).all id
def timely (r : Row) : Bool := match r.w with
  | .ask _ m => (r.e.isNone && m.isNone) || inW r.b m r.e
  | .going low hi back ps => match r.e with
    | none => true
    | some e => abutG low hi back ps && goB r.b e ps
def momF (b e : Option Int) : VW.D → Option VW.D
  | .tup [_, _, .int m] => some (.bl (inW b (some m) e))
  | _ => none
theorem momF_of (b e : Option Int) (ps : List Pc) : (ps.map Pc.d).filterMap (momF b e) = (ps.map fun p => inW b (some p.mom) e).map VW.D.bl := by
  rw [List.filterMap_map, List.map_map, ← List.filterMap_eq_map]; rfl
theorem ask_word (k : Ask) : ∃ (z : Str) (tl : List VW.D), k.d = .tup (.str z :: tl) ∧ atI (VW.D.str z :: tl) 0 = some (.str z) ∧ decide (z = ("going" : Str)) = false := by
  cases k with
  | find a => exact ⟨_, _, rfl, rfl, by decide +kernel⟩
  | put a b => exact ⟨_, _, rfl, rfl, by decide +kernel⟩
  | take a => exact ⟨_, _, rfl, rfl, by decide +kernel⟩
  | change a b c => exact ⟨_, _, rfl, rfl, by decide +kernel⟩
def Row.small (r : Row) : Prop := match r.w with
  | .ask _ _ => True
  | .going _ _ _ ps => ps.length < 1000
def spTimely : VW.SpD := VW.sp1 fun x S P _ => ∃ r, x = Row.d r ∧ r.small ∧ P (.bl (timely r)) S
theorem ok_is_timely (T : Txt w K mg A) : FnOk P w K mg base CX0 2 A.a_is_timely A.d_is_timely ["row"] (VW.upSp K (spTimely)) := by
  refine T.F_is_timely.ok sc_is_timely (VW.upSp.len VW.sp1_len) (fun cdv A' outer s H vs Q E hr h => ?_)
  obtain ⟨F, S, ds, P', PE, rh, hv, ⟨x1, rfl, h⟩, lv, lx⟩ := h
  haveI : VW.XLe K F E PE := ⟨lx⟩
  have hu := hu_of hr
  refine ⟨_, (pss_cons (ps_asg (pv 0) (pg_tup (n := 6) rfl (pgs_cons (pg_name (i := 1) sc_is_timely.nd rfl (Or.inl rfl)) (pgs_cons (pg_name (i := 2) sc_is_timely.nd rfl (Or.inl rfl)) (pgs_cons (pg_name (i := 3) sc_is_timely.nd rfl (Or.inr rfl)) (pgs_cons (pg_name (i := 4) sc_is_timely.nd rfl (Or.inl rfl)) (pgs_cons (pg_name (i := 5) sc_is_timely.nd rfl (Or.inr rfl)) (pgs_cons (pg_name (i := 6) sc_is_timely.nd rfl (Or.inl rfl)) pgs_nil))))))))
      (pss_cons (ps_if (pt_cmpR op_ne (pe_ix ix_tup (pv 2) pe_int (fun _ _ => rfl)) pe_str (nomark _))
      (pss_one (ps_ret (pe_or (pe_and (pe_cmpR VW.op_isNA (pv 5) pe_non (nomark _)) (pe_one (pe_cmpR VW.op_isNA (pv 4) pe_non (nomark _)))) (pe_one (pe_call (ok_is_within T) (hr.mono (by decide)) rfl T.m_is_within T.F_is_within.kp T.b_is_within .nil VW.pass0F (pa_cons (pv 3) (pa_cons (pv 4) (pa_cons (pv 5) pa_nil))))))))
      pss_nil)
      (pss_cons (ps_if (pt_cmpR VW.op_isNA (pv 5) pe_non (nomark _))
      (pss_one (ps_ret pe_bl))
      pss_nil)
      (pss_one (ps_ret (pe_and (pe_call (ok_abut T) (hr.mono (by decide)) rfl T.m_abut T.F_abut.kp T.b_abut .nil VW.pass0F (pa_cons (pv 2) (pa_cons (pv 4) pa_nil))) (pe_and (pe_cmpR VW.op_notNA (pv 3) pe_non (nomark _)) (pe_and (pe_cmpR op_lt (pv 3) (pv 5) (nomark _)) (pe_one (pe_callB (cr_all rfl) (by rfl) T.n_all (by decide +kernel) (pa_cons (VW.pe_kp (pe_lc (own := [("piece", 7)]) rfl sc_is_timely.nd (pi_list (pv 4)) (blkOk_by (own := [("piece", 7)]) (N := n_is_timely) (sc := defScope s_is_timely) (by decide +kernel)) (fun _ _ _ _ _ => viaG (pg_name (i := 7) sc_is_timely.nd rfl (Or.inl rfl)) (by first | rfl | (dsimp only [Cx.blk]; done) | (dsimp only [Cx.blk]; rfl))) (fun _ _ _ _ _ => viaT pts_nil (by first | rfl | (dsimp only [Cx.blk]; done) | (dsimp only [Cx.blk]; rfl))) (fun _ _ _ _ _ => viaE (pe_call (ok_is_within T) (hr.mono (by decide)) rfl T.m_is_within T.F_is_within.kp T.b_is_within .nil VW.pass0F (pa_cons (pv 3) (pa_cons (pe_ix ix_tup (pv 7) pe_int (fun _ _ => rfl)) (pa_cons (pv 5) pa_nil)))) (by first | rfl | (dsimp only [Cx.blk]; done) | (dsimp only [Cx.blk]; rfl))))) pa_nil))))))))))), ?_⟩
  try dsimp only [cxOf, Cx.nox, Cx.wish, List.map]
  refine VW.body_up rh hv lv ?_
  obtain ⟨⟨nm, w, b, e, an⟩, rfl, hs, k⟩ := h
  cases w with
  | ask ka m =>
    obtain ⟨z, tl, ad, a0, ez⟩ := ask_word ka
    show VW.dSeq _ _ _ [some (.tup [.str nm, ka.d, oI b, oI m, oI e, an.d]), none, none, none, none, none, none, none] S
    have k : P' (.bl ((e.isNone && m.isNone) || inW b m e)) S := k
    walk_at "v"
    rw [ez, show (!false) = true from rfl]
    walk_at "v"
    cases e with
    | none =>
      show (if VW.isNon .non = true then _ else _)
      walk_at "v"
      cases m with
      | none =>
        rw [show VW.isNon (oI none) = true from rfl]
        walk_at "v"
        exact k
      | some m =>
        rw [show VW.isNon (oI (some m)) = false from rfl]
        walk_at "v"
        exact k
    | some e =>
      show (if VW.isNon (.int e) = true then _ else _)
      walk_at "v"
      exact k
  | going low hi back ps =>
    show VW.dSeq _ _ _ [some (.tup [.str nm, .tup [.str "going", .int low, oI hi, .bl back], oI b, .lst (ps.map Pc.d), oI e, an.d]), none, none, none, none, none, none, none] S
    have hs : ps.length < 1000 := hs
    have hl' : (ps.map Pc.d).length < sizeLine := by rw [List.length_map, sizeLine_eq]; omega
    walk_at "v"
    cases e with
    | none =>
      show (if VW.isNon .non = true then _ else _)
      walk_at "v"
      exact k
    | some e =>
      show (if VW.isNon (.int e) = true then _ else _)
      have k : P' (.bl (abutG low hi back ps && goB b e ps)) S := k
      walk_at "v"
      refine ite2 (fun c => ?_) (fun c => ?_)
      · rw [c, Bool.true_and] at k
        walk_at "v"
        cases b with
        | none =>
          rw [show (!VW.isNon (oI none)) = false from rfl]
          walk_at "v"
          exact k
        | some b =>
          rw [show (!VW.isNon (oI (some b))) = true from rfl]
          have k : P' (.bl (decide (b < e) && (ps.map fun p => inW (some b) (some p.mom) (some e)).all id)) S := k
          walk_at "v"
          refine ite2 (fun c2 => ?_) (fun c2 => ?_)
          · rw [c2, Bool.true_and] at k
            walk_at "v"
            refine VW.lcD_pure (ps.map Pc.d) (momF (some b) (some e)) rfl (fun i d e => e) hl' (fun L acc hL => Or.inl rfl) ?_ ?_
            · intro x S3 Zy Zn hx hS hy hn
              obtain ⟨p, hm, rfl⟩ := List.mem_map.mp hx
              have pd : p.d = .tup [.int p.fst, oI p.lst, .int p.mom] := rfl
              have hy2 := hy (.bl (inW (some b) (some p.mom) (some e))) rfl
              show VW.kName 7 p.d _ S3 _
              walk_at "v"
              exact ⟨(show VW.D.int p.mom = oI (some p.mom) from rfl), (show oI (some e) = oI (some e) from rfl), hy2⟩
            · rw [momF_of]
              walk_at "v"
              exact k
          · rw [Bool.eq_false_iff.mpr c2, Bool.false_and] at k
            walk_at "v"
            exact k
      · rw [Bool.eq_false_iff.mpr c, Bool.false_and] at k
        walk_at "v"
        exact k

local macro_rules | `(tactic| walk_at "vf") => `(tactic| first
  | ((with_reducible show VW.DGot _ _ _ _); exact dgotA (by walk_at "sq"))
  | ((with_reducible show VW.DPutD _ _ _ _ _); exact dputA (by walk_at "sp") (by first | assumption | walk_at "arith"))
  | ((with_reducible show VW.DPopD _ _ _ _ _); exact dpopA (by walk_at "sp") (by assumption)))

/-! ### what stands at moments -/
structure Ev where
  mom : Int
  num : Nat
  pc : Option Pc
def oP : Option Pc → VW.D
  | none => .non | some p => p.d
def Ev.d (e : Ev) : VW.D := .tup [.int e.mom, .int (e.num : Int), oP e.pc]
def evR (i : Nat) (r : Row) : List Ev := match r.w with
  | .ask _ none => []
  | .ask _ (some m) => [⟨m, i, none⟩]
  | .going _ _ _ ps => if r.e.isSome = true then ps.map fun p => ⟨p.mom, i, some p⟩ else []
def evF : Nat → List Row → List Ev
  | _, [] => []
  | i, r :: rs => evR i r ++ evF (i + 1) rs
theorem evF_snoc {r : Row} : ∀ {xs : List Row} {i : Nat}, evF i (xs ++ [r]) = evF i xs ++ evR (i + xs.length) r
  | [], i => by show evR i r ++ [] = [] ++ evR (i + 0) r; rw [List.append_nil, List.nil_append]; rfl
  | x :: xs, i => by
    show evR i x ++ evF (i + 1) (xs ++ [r]) = (evR i x ++ evF (i + 1) xs) ++ evR (i + (xs.length + 1)) r
    rw [evF_snoc, List.append_assoc]
    congr 3
    omega
def Row.few (r : Row) : Prop := match r.w with
  | .ask _ _ => True
  | .going _ _ _ ps => ps.length ≤ 20
theorem evR_len {i : Nat} {r : Row} (h : r.few) : (evR i r).length ≤ 20 := by
  unfold evR; unfold Row.few at h
  split
  · exact Nat.zero_le _
  · exact (by decide : 1 ≤ 20)
  · rename_i hw
    rw [hw] at h
    split
    · rw [List.length_map]; exact h
    · exact Nat.zero_le _
structure Few (rs : List Row) : Prop where
  len : rs.length ≤ 10
  all : ∀ r ∈ rs, r.few
def pcF (i : Nat) : VW.D → Option VW.D
  | .tup [a, b, .int m] => some (.tup [.int m, .int (i : Int), .tup [a, b, .int m]])
  | _ => none
theorem pcF_of (i : Nat) (ps : List Pc) : (ps.map Pc.d).filterMap (pcF i) = (ps.map fun p => (⟨p.mom, i, some p⟩ : Ev)).map Ev.d := by
  rw [List.filterMap_map, List.map_map, ← List.filterMap_eq_map]; rfl
def spEvs : VW.SpD := VW.sp1 fun x S P _ => ∃ rs : List Row, x = .lst (rs.map Row.d) ∧ Few rs ∧ P (.lst ((evF 0 rs).map Ev.d)) S
theorem ok_events_of (T : Txt w K mg A) : FnOk P w K mg base CX0 1 A.a_events_of A.d_events_of ["asks"] (VW.upSp K (spEvs)) := by
  refine T.F_events_of.ok sc_events_of (VW.upSp.len VW.sp1_len) (fun cdv A' outer s H vs Q E hr h => ?_)
  obtain ⟨F, S, ds, P', PE, rh, hv, ⟨x1, rfl, h⟩, lv, lx⟩ := h
  have hS0 := (fun (X : VW.Sto) (e : X = S) => e) S rfl
  haveI : VW.XLe K F E PE := ⟨lx⟩
  have hu := hu_of hr
  refine ⟨_, (pss_cons (ps_set (i := 1) sc_events_of.nd rfl (Or.inl rfl) (pe_lst pa_nil))
      (pss_cons (ps_for PassesOwn.never rfl (pi_enum (by rfl) T.n_enumerate (pa_cons (pv 0) pa_nil)) (pg_tup (n := 2) rfl (pgs_cons (pg_name (i := 2) sc_events_of.nd rfl (Or.inr rfl)) (pgs_cons (pg_tup (n := 6) rfl (pgs_cons (pg_name (i := 3) sc_events_of.nd rfl (Or.inl rfl)) (pgs_cons (pg_name (i := 4) sc_events_of.nd rfl (Or.inl rfl)) (pgs_cons (pg_name (i := 5) sc_events_of.nd rfl (Or.inl rfl)) (pgs_cons (pg_name (i := 6) sc_events_of.nd rfl (Or.inl rfl)) (pgs_cons (pg_name (i := 7) sc_events_of.nd rfl (Or.inl rfl)) (pgs_cons (pg_name (i := 8) sc_events_of.nd rfl (Or.inl rfl)) pgs_nil))))))) pgs_nil)))
      (pss_one (ps_if (PW.pt (pw_and (pt_cmpR op_eq (pe_ix ix_tup (pv 4) pe_int (fun _ _ => rfl)) pe_str (nomark _)) (pw_and1 (pt_cmpR VW.op_notNA (pv 7) pe_non (nomark _)))))
      (pss_one (ps_expr (pe_bm PySem.F.plainAttrs_list PySem.F.slot_list_extend PySem.F.type_list_extend mt_extend (pv 1) (pa_cons (VW.pe_kp (pe_lc (own := [("piece", 9)]) rfl sc_events_of.nd (pi_list (pv 6)) (blkOk_by (own := [("piece", 9)]) (N := n_events_of) (sc := defScope s_events_of) (by decide +kernel)) (fun _ _ _ _ _ => viaG (pg_name (i := 9) sc_events_of.nd rfl (Or.inl rfl)) (by first | rfl | (dsimp only [Cx.blk]; done) | (dsimp only [Cx.blk]; rfl))) (fun _ _ _ _ _ => viaT pts_nil (by first | rfl | (dsimp only [Cx.blk]; done) | (dsimp only [Cx.blk]; rfl))) (fun _ _ _ _ _ => viaE (pe_tup (pa_cons (pe_ix ix_tup (pv 9) pe_int (fun _ _ => rfl)) (pa_cons (pv 2) (pa_cons (pv 9) pa_nil)))) (by first | rfl | (dsimp only [Cx.blk]; done) | (dsimp only [Cx.blk]; rfl))))) pa_nil))))
      (pss_one (ps_if (PW.pt (pw_and (pt_cmpR op_ne (pe_ix ix_tup (pv 4) pe_int (fun _ _ => rfl)) pe_str (nomark _)) (pw_and1 (pt_cmpR VW.op_notNA (pv 6) pe_non (nomark _)))))
      (pss_one (ps_expr (pe_bm PySem.F.plainAttrs_list PySem.F.slot_list_append PySem.F.type_list_append mt_append (pv 1) (pa_cons (pe_tup (pa_cons (pv 6) (pa_cons (pv 2) (pa_cons pe_non pa_nil)))) pa_nil))))
      pss_nil)))))
      (pss_one (ps_ret (pv 1))))), ?_⟩
  try dsimp only [cxOf, Cx.nox, Cx.wish, List.map]
  refine VW.body_frzS rh hv lv ?_
  obtain ⟨rs, rfl, few, k⟩ := h
  have hl := few.len
  show VW.dSeq _ _ _ [some (.lst (rs.map Row.d)), none, none, none, none, none, none, none, none, none] S
  walk_at "v"
  intro L hL
  walk_at "v"
  refine VW.ForD.mk ⟨fun j env S4 => Wrap (∃ v2 v3 v4 v5 v6 v7 v8 v9, env = [some (.lst (rs.map Row.d)), some (.ref L), v2, v3, v4, v5, v6, v7, v8, v9] ∧ S4 = VW.sup S L (.lst ((evF 0 (rs.take j)).map Ev.d)) ∧ (evF 0 (rs.take j)).length ≤ 20 * j), ?_, fun _ _ _ _ _ => Or.inl rfl, ?_, ?_⟩
  · exact ⟨_, _, _, _, _, _, _, _, rfl, rfl, Nat.le_refl _⟩
  · rintro j x env S4 hj hx ⟨v2, v3, v4, v5, v6, v7, v8, v9, rfl, rfl, hel⟩
    obtain ⟨d, hd, rfl⟩ := hx
    rw [List.getElem?_map] at hd
    obtain ⟨r, hr2, rfl⟩ := Option.map_eq_some_iff.mp hd
    have hjl := (List.getElem?_eq_some_iff.mp hr2).1
    have fr := few.all r (List.mem_of_getElem? hr2)
    have nl := evR_len (i := j) fr
    have nx : evF 0 (rs.take (j + 1)) = evF 0 (rs.take j) ++ evR j r := by
      rw [List.take_add_one, hr2]
      show evF 0 (rs.take j ++ [r]) = _
      rw [evF_snoc, List.length_take, Nat.min_eq_left (by omega), Nat.zero_add]
    generalize evF 0 (rs.take j) = evs at hel nx ⊢
    have hsz : (evs.map Ev.d).length < sizeLine := by rw [List.length_map, sizeLine_eq]; omega
    obtain ⟨nm, w, b, e, an⟩ := r
    cases w with
    | ask ka m =>
      obtain ⟨z, tl, ad, a0, ez⟩ := ask_word ka
      show VW.kTup _ _ (.tup [.int (j : Int), .tup [.str nm, ka.d, oI b, oI m, oI e, an.d]]) _ _ _
      walk_at "v"
      rw [ez]
      walk_at "v"
      rw [ez, show (!false) = true from rfl]
      walk_at "v"
      cases m with
      | none =>
        rw [show (!VW.isNon (oI none)) = false from rfl]
        walk_at "v"
        rw [if_neg (by decide)]
        walk_at "v"
        refine ⟨_, _, _, _, _, _, _, _, rfl, ?_, ?_⟩
        · rw [nx, show evR j ⟨nm, .ask ka none, b, e, an⟩ = [] from rfl, List.append_nil]
        · rw [nx, show evR j ⟨nm, .ask ka none, b, e, an⟩ = [] from rfl, List.append_nil]; omega
      | some m =>
        rw [show (!VW.isNon (oI (some m))) = true from rfl]
        walk_at "v"
        rw [VW.sup_sup]
        refine ⟨_, _, _, _, _, _, _, _, rfl, ?_, ?_⟩
        · rw [nx, List.map_append]; rfl
        · rw [nx, List.length_append]; omega
    | going low hi back ps =>
      show VW.kTup _ _ (.tup [.int (j : Int), .tup [.str nm, .tup [.str "going", .int low, oI hi, .bl back], oI b, .lst (ps.map Pc.d), oI e, an.d]]) _ _ _
      walk_at "v"
      cases e with
      | none =>
        rw [show (!VW.isNon (oI none)) = false from rfl]
        walk_at "v"
        rw [show (!decide ((Str.ofString "going") = Str.ofString "going")) = false from by rw [decide_eq_true rfl]; rfl]
        walk_at "v"
        refine ⟨_, _, _, _, _, _, _, _, rfl, ?_, ?_⟩
        · rw [nx, show evR j ⟨nm, .going low hi back ps, b, none, an⟩ = [] from rfl, List.append_nil]
        · rw [nx, show evR j ⟨nm, .going low hi back ps, b, none, an⟩ = [] from rfl, List.append_nil]; omega
      | some e =>
        rw [show (!VW.isNon (oI (some e))) = true from rfl]
        walk_at "v"
        have hps : ps.length ≤ 20 := fr
        refine VW.lcD_pure (ps.map Pc.d) (pcF j) rfl (fun i d e => e) (by rw [List.length_map, sizeLine_eq]; omega) (fun L acc hL => Or.inl rfl) ?_ ?_
        · intro x S3 Zy Zn hx hS hy hn
          obtain ⟨p, hm, rfl⟩ := List.mem_map.mp hx
          have pd : p.d = .tup [.int p.fst, oI p.lst, .int p.mom] := rfl
          have hy2 := hy (.tup [.int p.mom, .int (j : Int), p.d]) rfl
          show VW.kName 9 p.d _ S3 _
          walk_at "v"
          exact hy2
        rw [pcF_of]
        walk_at "v"
        rw [VW.sup_sup]
        refine ⟨by rw [List.length_map, List.length_map, List.length_map, sizeLine_eq]; omega, ?_⟩
        refine ⟨_, _, _, _, _, _, _, _, rfl, ?_, ?_⟩
        · rw [nx, List.map_append]; rfl
        · rw [nx, List.length_append]; omega
  · rintro env S4 ⟨v2, v3, v4, v5, v6, v7, v8, v9, rfl, rfl, hel⟩
    walk_at "v"
    rw [show rs.take (VW.wE (VW.D.lst (rs.map Row.d)) (rs.map Row.d)).n = rs from by show rs.take (rs.map Row.d).length = rs; rw [List.length_map, List.take_length]]
    refine ⟨L, _, rfl, VW.sup_same, S, fun a o h => ?_, k⟩
    rw [VW.sdel_sup hL]; exact h

local macro_rules | `(tactic| walk_at "vf") => `(tactic| first
  | ((with_reducible show VW.DGot _ _ _ _); exact dgotA (by walk_at "sq"))
  | ((with_reducible show VW.DPutD _ _ _ _ _); exact dputA (by walk_at "sp") (by first | assumption | walk_at "arith"))
  | ((with_reducible show VW.DPopD _ _ _ _ _); exact dpopA (by walk_at "sp") (by assumption)))

/-! ### pairs, rising by their keys -/
def Up (xs : List (Int × Int)) : Prop := xs.Pairwise fun p q => p.1 < q.1
theorem up_uniq : ∀ {xs ys : List (Int × Int)}, xs.Perm ys → Up xs → Up ys → xs = ys
  | [], ys, h, _, _ => (List.nil_perm.mp h).symm
  | x :: xs, [], h, _, _ => absurd h.length_eq (by simp)
  | x :: xs, y :: ys, h, hx, hy => by
    have hx' := List.pairwise_cons.mp hx
    have hy' := List.pairwise_cons.mp hy
    have e : x = y := by
      have m1 : x ∈ y :: ys := h.mem_iff.mp List.mem_cons_self
      have m2 : y ∈ x :: xs := h.mem_iff.mpr List.mem_cons_self
      rcases List.mem_cons.mp m1 with e | m1
      · exact e
      rcases List.mem_cons.mp m2 with e | m2
      · exact e.symm
      have a := hx'.1 y m2
      have b := hy'.1 x m1
      omega
    subst e
    rw [up_uniq (List.Perm.cons_inv h) hx'.2 hy'.2]
def insP (p : Int × Int) : List (Int × Int) → List (Int × Int)
  | [] => [p]
  | q :: r => if p.1 < q.1 then p :: q :: r else q :: insP p r
def isort : List (Int × Int) → List (Int × Int)
  | [] => []
  | p :: r => insP p (isort r)
theorem insP_perm (p : Int × Int) : ∀ l, (insP p l).Perm (p :: l)
  | [] => List.Perm.refl _
  | q :: r => by
    unfold insP
    split
    · exact List.Perm.refl _
    · exact ((insP_perm p r).cons q).trans (List.Perm.swap p q r)
theorem isort_perm : ∀ l, (isort l).Perm l
  | [] => List.Perm.refl _
  | p :: r => (insP_perm p (isort r)).trans ((isort_perm r).cons p)
theorem insP_up {p : Int × Int} : ∀ {l}, Up l → (∀ q ∈ l, q.1 ≠ p.1) → Up (insP p l)
  | [], _, _ => List.pairwise_singleton _ _
  | q :: r, h, n => by
    have h' := List.pairwise_cons.mp h
    unfold insP
    by_cases c : p.1 < q.1
    · rw [if_pos c]
      refine List.pairwise_cons.mpr ⟨fun z hz => ?_, h⟩
      rcases List.mem_cons.mp hz with e | hz
      · rw [e]; exact c
      · have := h'.1 z hz; omega
    · rw [if_neg c]
      have := n q List.mem_cons_self
      refine List.pairwise_cons.mpr ⟨fun z hz => ?_, insP_up h'.2 fun z hz => n z (List.mem_cons_of_mem _ hz)⟩
      rcases List.mem_cons.mp ((insP_perm p r).mem_iff.mp hz) with e | hz
      · rw [e]; omega
      · exact h'.1 z hz
theorem isort_up : ∀ {l : List (Int × Int)}, (l.map (·.1)).Nodup → Up (isort l)
  | [], _ => List.Pairwise.nil
  | p :: r, h => by
    rw [List.map_cons, List.nodup_cons] at h
    refine insP_up (isort_up h.2) fun q hq e => h.1 ?_
    exact List.mem_map.mpr ⟨q, (isort_perm r).mem_iff.mp hq, e⟩
def inB (low : Int) (hi : Option Int) (k : Int) : Bool := decide (low ≤ k) && (match hi with | none => true | some h => decide (k < h))
def rowsW (m : List (Int × Int)) (low : Int) (hi : Option Int) : List (Int × Int) := (isort m).filter fun p => inB low hi p.1
theorem getA_of {m : List (Int × Int)} (nd : (m.map (·.1)).Nodup) {p : Int × Int} (h : p ∈ m) : getA m p.1 = some p.2 := by
  induction m with
  | nil => cases h
  | cons q r ih =>
    rw [List.map_cons, List.nodup_cons] at nd
    unfold getA
    rw [List.find?_cons]
    rcases List.mem_cons.mp h with e | h
    · rw [e, decide_eq_true rfl]; rfl
    · have : q.1 ≠ p.1 := fun e => nd.1 (e ▸ List.mem_map.mpr ⟨p, h, rfl⟩)
      rw [decide_eq_false this]
      exact ih nd.2 h
theorem keys_sorted {m : List (Int × Int)} (nd : (m.map (·.1)).Nodup) {ys : List Int} (h : VW.SortedI (m.map (·.1)) ys) : ys = (isort m).map (·.1) := by
  have hu := isort_up nd
  have up2 : ((isort m).map (·.1)).Pairwise (· < ·) := by rw [List.pairwise_map]; exact hu
  have hp : ys.Perm ((isort m).map (·.1)) := h.pm.trans ((isort_perm m).map _).symm
  have nd2 : ys.Nodup := h.pm.nodup_iff.mpr nd
  have up1 : ys.Pairwise (· < ·) := by
    have := h.pw
    rw [List.pairwise_iff_getElem] at this ⊢
    rw [List.nodup_iff_pairwise_ne, List.pairwise_iff_getElem] at nd2
    intro i j hi hj hij
    have a := this i j hi hj hij
    have b := nd2 i j hi hj hij
    omega
  have e1 := up_uniq (xs := ys.map fun k => (k, 0)) (ys := ((isort m).map (·.1)).map fun k => (k, 0)) (hp.map _) (by unfold Up; rw [List.pairwise_map]; exact up1) (by unfold Up; rw [List.pairwise_map]; exact up2)
  have e2 := congrArg (List.map (·.1)) e1
  rw [List.map_map, List.map_map] at e2
  have id1 : ∀ l : List Int, l.map ((fun p : Int × Int => p.1) ∘ fun k => (k, 0)) = l := fun l => by
    induction l with
    | nil => rfl
    | cons a l ih => rw [List.map_cons, ih]; rfl
  rw [id1, id1] at e2
  exact e2
def rowF (m : List (Int × Int)) (low : Int) (hi : Option Int) : VW.D → Option VW.D
  | .int k => if inB low hi k = true then some (.tup [.int k, ((getA m k).map VW.D.int).getD .non]) else none
  | _ => none
theorem rowF_of {m : List (Int × Int)} (nd : (m.map (·.1)).Nodup) (low : Int) (hi : Option Int) : (((isort m).map (·.1)).map VW.D.int).filterMap (rowF m low hi) = (rowsW m low hi).map pairD := by
  unfold rowsW
  have hm : ∀ p ∈ isort m, getA m p.1 = some p.2 := fun p hp => getA_of nd ((isort_perm m).mem_iff.mp hp)
  generalize isort m = l at hm
  induction l with
  | nil => rfl
  | cons p l ih =>
    have ih := ih fun q hq => hm q (List.mem_cons_of_mem _ hq)
    have hp := hm p List.mem_cons_self
    rw [List.map_cons, List.map_cons]
    have e : rowF m low hi (.int p.1) = if inB low hi p.1 = true then some (pairD p) else none := by
      show (if inB low hi p.1 = true then some (VW.D.tup [.int p.1, ((getA m p.1).map VW.D.int).getD .non]) else none) = _
      rw [hp]; rfl
    by_cases c : inB low hi p.1 = true
    · rw [List.filterMap_cons_some (b := pairD p) (by rw [e, if_pos c]), List.filter_cons_of_pos (p := fun p : Int × Int => inB low hi p.1) c, ih]; rfl
    · rw [List.filterMap_cons_none (by rw [e, if_neg c]), List.filter_cons_of_neg (p := fun p : Int × Int => inB low hi p.1) c, ih]
def spRows : VW.SpD := VW.sp3 fun x y z S P _ => ∃ m low hi, VW.DicK S x (VW.iK (kv m)) ∧ y = .int low ∧ z = oI hi ∧ (m.map (·.1)).Nodup ∧ m.length < 64 ∧ P (.lst ((rowsW m low hi).map pairD)) S
theorem ok_rows_within (T : Txt w K mg A) : FnOk P w K mg base CX0 1 A.a_rows_within A.d_rows_within ["kept", "low", "high"] (VW.upSp K (spRows)) := by
  refine T.F_rows_within.ok sc_rows_within (VW.upSp.len VW.sp3_len) (fun cdv A' outer s H vs Q E hr h => ?_)
  obtain ⟨F, S, ds, P', PE, rh, hv, ⟨x1, x2, x3, rfl, h⟩, lv, lx⟩ := h
  haveI : VW.XLe K F E PE := ⟨lx⟩
  have hu := hu_of hr
  refine ⟨_, (pss_one (ps_ret (VW.pe_kp (pe_lc (own := [("key", 3)]) rfl sc_rows_within.nd (pi_list (VW.pe_kp (pe_callB (VW.call_sortDI rfl) (by rfl) T.n_sorted (by decide +kernel) (pa_cons (pv 0) pa_nil)))) (blkOk_by (own := [("key", 3)]) (N := n_rows_within) (sc := defScope s_rows_within) (by decide +kernel)) (fun _ _ _ _ _ => viaG (pg_name (i := 3) sc_rows_within.nd rfl (Or.inl rfl)) (by first | rfl | (dsimp only [Cx.blk]; done) | (dsimp only [Cx.blk]; rfl))) (fun _ _ _ _ _ => viaT (pts_one (PW.pt (pw_and (pt_cmpR op_ge (pv 3) (pv 1) (nomark _)) (pw_and1 (PW.pt (pw_or (pt_cmpR VW.op_isNA (pv 2) pe_non (nomark _)) (pw_or1 (pt_cmpR op_lt (pv 3) (pv 2) (nomark _))))))))) (by first | rfl | (dsimp only [Cx.blk]; done) | (dsimp only [Cx.blk]; rfl))) (fun _ _ _ _ _ => viaE (pe_tup (pa_cons (pv 3) (pa_cons (pe_dget hu (pv 0) (pv 3) (fun _ _ => rfl)) pa_nil))) (by first | rfl | (dsimp only [Cx.blk]; done) | (dsimp only [Cx.blk]; rfl))))))), ?_⟩
  try dsimp only [cxOf, Cx.nox, Cx.wish, List.map]
  refine VW.body_up rh hv lv ?_
  obtain ⟨m, low, hi, hx, rfl, rfl, nd, hl, k⟩ := h
  have hkl : (kv m).length < 64 := by rw [kv_len]; exact hl
  show VW.dRet _ _ [some x1, some (.int low), some (oI hi), none] S
  walk_at "v"
  intro ys hys
  have ek : (kv m).map (fun x => x.fst) = m.map (·.1) := by unfold kv; rw [List.map_map]; rfl
  rw [ek] at hys
  obtain rfl := keys_sorted nd hys
  have hil : (((isort m).map (·.1)).map VW.D.int).length < sizeLine := by rw [List.length_map, List.length_map, (isort_perm m).length_eq, sizeLine_eq]; omega
  walk_at "v"
  refine VW.lcD_pure _ (rowF m low hi) rfl (fun i d e => e) hil (fun L acc hL => Or.inl rfl) ?_ ?_
  · intro x S3 Zy Zn hx3 hS hy hn
    obtain ⟨key, hm, rfl⟩ := List.mem_map.mp hx3
    obtain ⟨p, hp, rfl⟩ := List.mem_map.mp hm
    have hg := getA_of nd ((isort_perm m).mem_iff.mp hp)
    have hx4 : VW.DicK S3 x1 (VW.iK (kv m)) := by
      rcases hx with e | ⟨a, e, h⟩
      · exact .inl e
      · exact .inr ⟨a, e, hS _ _ h⟩
    have hdg : VW.DGot S3 x1 (.int p.1) (some (.int p.2)) := by
      have := dgotA (k := p.1) hx4
      rw [hg] at this; exact this
    have ef : rowF m low hi (.int p.1) = if inB low hi p.1 = true then some (.tup [.int p.1, .int p.2]) else none := by
      show (if inB low hi p.1 = true then some (VW.D.tup [.int p.1, ((getA m p.1).map VW.D.int).getD .non]) else none) = _
      rw [hg]; rfl
    rw [ef] at hy hn
    show VW.kName 3 (.int p.1) _ S3 _
    walk_at "v"
    refine ite2 (fun c => ?_) (fun c => ?_)
    · cases hi with
      | none =>
        have ib : inB low none p.1 = true := by unfold inB; rw [c]; rfl
        rw [ib] at hy
        walk_at "v"
        refine ⟨(by rw [hg]; rfl : (getA m p.1).map VW.D.int = some (.int p.2)), ?_⟩
        walk_at "v"
        exact hy _ rfl
      | some h =>
        have ib : inB low (some h) p.1 = decide (p.1 < h) := by unfold inB; rw [c]; rfl
        rw [ib] at hy hn
        walk_at "v"
        refine ite2 (fun c2 => ?_) (fun c2 => ?_)
        · rw [c2] at hy
          walk_at "v"
          refine ⟨(by rw [hg]; rfl : (getA m p.1).map VW.D.int = some (.int p.2)), ?_⟩
          walk_at "v"
          exact hy _ rfl
        · rw [Bool.eq_false_iff.mpr c2] at hn
          walk_at "v"
          exact hn rfl
    · have ib : inB low hi p.1 = false := by unfold inB; rw [Bool.eq_false_iff.mpr c]; rfl
      rw [ib] at hn
      walk_at "v"
      exact hn rfl
  · rw [rowF_of nd]
    exact k
def spRowsM : VW.SpD := VW.sp3 fun x y z S P _ => ∃ m low hi, VW.DicK S x (VW.iK (kv m)) ∧ y = .int low ∧ z = oI hi ∧ (m.map (·.1)).Nodup ∧ m.length < 64 ∧ ∀ p, S p = none → P (.ref p) (VW.sup S p (.lst ((rowsW m low hi).map pairD)))
theorem ok_rows_withinM (T : Txt w K mg A) : FnOk P w K mg base CX0 1 A.a_rows_within A.d_rows_within ["kept", "low", "high"] (VW.upSp K (spRowsM)) := by
  refine T.F_rows_within.ok sc_rows_within (VW.upSp.len VW.sp3_len) (fun cdv A' outer s H vs Q E hr h => ?_)
  obtain ⟨F, S, ds, P', PE, rh, hv, ⟨x1, x2, x3, rfl, h⟩, lv, lx⟩ := h
  have hS0 := (fun (X : VW.Sto) (e : X = S) => e) S rfl
  haveI : VW.XLe K F E PE := ⟨lx⟩
  have hu := hu_of hr
  refine ⟨_, (pss_one (ps_ret (VW.pe_lcM (own := [("key", 3)]) rfl sc_rows_within.nd (pi_list (VW.pe_kp (pe_callB (VW.call_sortDI rfl) (by rfl) T.n_sorted (by decide +kernel) (pa_cons (pv 0) pa_nil)))) (blkOk_by (own := [("key", 3)]) (N := n_rows_within) (sc := defScope s_rows_within) (by decide +kernel)) (fun _ _ _ _ _ => viaG (pg_name (i := 3) sc_rows_within.nd rfl (Or.inl rfl)) (by first | rfl | (dsimp only [Cx.blk]; done) | (dsimp only [Cx.blk]; rfl))) (fun _ _ _ _ _ => viaT (pts_one (PW.pt (pw_and (pt_cmpR op_ge (pv 3) (pv 1) (nomark _)) (pw_and1 (PW.pt (pw_or (pt_cmpR VW.op_isNA (pv 2) pe_non (nomark _)) (pw_or1 (pt_cmpR op_lt (pv 3) (pv 2) (nomark _))))))))) (by first | rfl | (dsimp only [Cx.blk]; done) | (dsimp only [Cx.blk]; rfl))) (fun _ _ _ _ _ => viaE (pe_tup (pa_cons (pv 3) (pa_cons (pe_dget hu (pv 0) (pv 3) (fun _ _ => rfl)) pa_nil))) (by first | rfl | (dsimp only [Cx.blk]; done) | (dsimp only [Cx.blk]; rfl)))))), ?_⟩
  try dsimp only [cxOf, Cx.nox, Cx.wish, List.map]
  refine VW.body_up rh hv lv ?_
  obtain ⟨m, low, hi, hx, rfl, rfl, nd, hl, k⟩ := h
  have hkl : (kv m).length < 64 := by rw [kv_len]; exact hl
  show VW.dRet _ _ [some x1, some (.int low), some (oI hi), none] S
  walk_at "v"
  intro ys hys
  have ek : (kv m).map (fun x => x.fst) = m.map (·.1) := by unfold kv; rw [List.map_map]; rfl
  rw [ek] at hys
  obtain rfl := keys_sorted nd hys
  have hil : (((isort m).map (·.1)).map VW.D.int).length < sizeLine := by rw [List.length_map, List.length_map, (isort_perm m).length_eq, sizeLine_eq]; omega
  walk_at "v"
  refine VW.lcM_pure _ (rowF m low hi) rfl (fun i d e => e) hil (fun L acc hL => Or.inl rfl) ?_ ?_
  · intro x S3 Zy Zn hx3 hS hy hn
    obtain ⟨key, hm, rfl⟩ := List.mem_map.mp hx3
    obtain ⟨p, hp, rfl⟩ := List.mem_map.mp hm
    have hg := getA_of nd ((isort_perm m).mem_iff.mp hp)
    have hx4 : VW.DicK S3 x1 (VW.iK (kv m)) := by
      rcases hx with e | ⟨a, e, h⟩
      · exact .inl e
      · exact .inr ⟨a, e, hS _ _ h⟩
    have hdg : VW.DGot S3 x1 (.int p.1) (some (.int p.2)) := by
      have := dgotA (k := p.1) hx4
      rw [hg] at this; exact this
    have ef : rowF m low hi (.int p.1) = if inB low hi p.1 = true then some (.tup [.int p.1, .int p.2]) else none := by
      show (if inB low hi p.1 = true then some (VW.D.tup [.int p.1, ((getA m p.1).map VW.D.int).getD .non]) else none) = _
      rw [hg]; rfl
    rw [ef] at hy hn
    show VW.kName 3 (.int p.1) _ S3 _
    walk_at "v"
    refine ite2 (fun c => ?_) (fun c => ?_)
    · cases hi with
      | none =>
        have ib : inB low none p.1 = true := by unfold inB; rw [c]; rfl
        rw [ib] at hy
        walk_at "v"
        refine ⟨(by rw [hg]; rfl : (getA m p.1).map VW.D.int = some (.int p.2)), ?_⟩
        walk_at "v"
        exact hy _ rfl
      | some h =>
        have ib : inB low (some h) p.1 = decide (p.1 < h) := by unfold inB; rw [c]; rfl
        rw [ib] at hy hn
        walk_at "v"
        refine ite2 (fun c2 => ?_) (fun c2 => ?_)
        · rw [c2] at hy
          walk_at "v"
          refine ⟨(by rw [hg]; rfl : (getA m p.1).map VW.D.int = some (.int p.2)), ?_⟩
          walk_at "v"
          exact hy _ rfl
        · rw [Bool.eq_false_iff.mpr c2] at hn
          walk_at "v"
          exact hn rfl
    · have ib : inB low hi p.1 = false := by unfold inB; rw [Bool.eq_false_iff.mpr c]; rfl
      rw [ib] at hn
      walk_at "v"
      exact hn rfl
  · rw [rowF_of nd]
    exact k

local macro_rules | `(tactic| walk_at "vf") => `(tactic| first
  | ((with_reducible show VW.DGot _ _ _ _); exact dgotA (by walk_at "sq"))
  | ((with_reducible show VW.DPutD _ _ _ _ _); exact dputA (by walk_at "sp") (by first | assumption | walk_at "arith"))
  | ((with_reducible show VW.DPopD _ _ _ _ _); exact dpopA (by walk_at "sp") (by assumption)))




/-! ### events, by their moments -/
def spMom : VW.SpD := VW.sp1 fun x S P _ => ∃ e, x = Ev.d e ∧ P (.int e.mom) S
theorem ok_moment_of (T : Txt w K mg A) : FnOk P w K mg base CX0 1 A.a_moment_of A.d_moment_of ["event"] (VW.upSp K (spMom)) := by
  refine T.F_moment_of.ok sc_moment_of (VW.upSp.len VW.sp1_len) (fun cdv A' outer s H vs Q E hr h => ?_)
  obtain ⟨F, S, ds, P', PE, rh, hv, ⟨x1, rfl, h⟩, lv, lx⟩ := h
  haveI : VW.XLe K F E PE := ⟨lx⟩
  have hu := hu_of hr
  refine ⟨_, (pss_one (ps_ret (pe_ix ix_tup (pv 0) pe_int (fun _ _ => rfl)))), ?_⟩
  try dsimp only [cxOf, Cx.nox, Cx.wish, List.map]
  refine VW.body_up rh hv lv ?_
  obtain ⟨⟨m, n, p⟩, rfl, k⟩ := h
  show VW.dRet _ _ [some (.tup [.int m, .int (n : Int), oP p])] S
  walk_at "v"
  exact k
def UpE (xs : List Ev) : Prop := xs.Pairwise fun p q => p.mom < q.mom
theorem upE_uniq : ∀ {xs ys : List Ev}, xs.Perm ys → UpE xs → UpE ys → xs = ys
  | [], ys, h, _, _ => (List.nil_perm.mp h).symm
  | x :: xs, [], h, _, _ => absurd h.length_eq (by simp)
  | x :: xs, y :: ys, h, hx, hy => by
    have hx' := List.pairwise_cons.mp hx
    have hy' := List.pairwise_cons.mp hy
    have e : x = y := by
      have m1 : x ∈ y :: ys := h.mem_iff.mp List.mem_cons_self
      have m2 : y ∈ x :: xs := h.mem_iff.mpr List.mem_cons_self
      rcases List.mem_cons.mp m1 with e | m1
      · exact e
      rcases List.mem_cons.mp m2 with e | m2
      · exact e.symm
      have a := hx'.1 y m2
      have b := hy'.1 x m1
      omega
    subst e
    rw [upE_uniq (List.Perm.cons_inv h) hx'.2 hy'.2]
def insE (p : Ev) : List Ev → List Ev
  | [] => [p]
  | q :: r => if p.mom < q.mom then p :: q :: r else q :: insE p r
def esort : List Ev → List Ev
  | [] => []
  | p :: r => insE p (esort r)
theorem insE_perm (p : Ev) : ∀ l, (insE p l).Perm (p :: l)
  | [] => List.Perm.refl _
  | q :: r => by
    unfold insE
    split
    · exact List.Perm.refl _
    · exact ((insE_perm p r).cons q).trans (List.Perm.swap p q r)
theorem esort_perm : ∀ l, (esort l).Perm l
  | [] => List.Perm.refl _
  | p :: r => (insE_perm p (esort r)).trans ((esort_perm r).cons p)
theorem insE_up {p : Ev} : ∀ {l}, UpE l → (∀ q ∈ l, q.mom ≠ p.mom) → UpE (insE p l)
  | [], _, _ => List.pairwise_singleton _ _
  | q :: r, h, n => by
    have h' := List.pairwise_cons.mp h
    unfold insE
    by_cases c : p.mom < q.mom
    · rw [if_pos c]
      refine List.pairwise_cons.mpr ⟨fun z hz => ?_, h⟩
      rcases List.mem_cons.mp hz with e | hz
      · rw [e]; exact c
      · have := h'.1 z hz; omega
    · rw [if_neg c]
      have := n q List.mem_cons_self
      refine List.pairwise_cons.mpr ⟨fun z hz => ?_, insE_up h'.2 fun z hz => n z (List.mem_cons_of_mem _ hz)⟩
      rcases List.mem_cons.mp ((insE_perm p r).mem_iff.mp hz) with e | hz
      · rw [e]; omega
      · exact h'.1 z hz
theorem esort_up : ∀ {l : List Ev}, (l.map (·.mom)).Nodup → UpE (esort l)
  | [], _ => List.Pairwise.nil
  | p :: r, h => by
    rw [List.map_cons, List.nodup_cons] at h
    refine insE_up (esort_up h.2) fun q hq e => h.1 ?_
    exact List.mem_map.mpr ⟨q, (esort_perm r).mem_iff.mp hq, e⟩
/-- what sorted(events, key=moment_of) tells -/
theorem out_sorted {evs : List Ev} (nd : (evs.map (·.mom)).Nodup) {out : List VW.D} (h : SK.Out (evs.map (·.mom)) (evs.map Ev.d) out) : out = (esort evs).map Ev.d := by
  obtain ⟨ps, hp, rfl, ho⟩ := h
  have ez : ∀ l : List Ev, (l.map (·.mom)).zip (l.map Ev.d) = l.map fun e => (e.mom, e.d) := fun l => by
    induction l with
    | nil => rfl
    | cons e r ih => rw [List.map_cons, List.map_cons, List.zip_cons_cons, ih]; rfl
  rw [ez] at hp
  obtain ⟨l, hl, e⟩ := perm_lift _ hp evs rfl
  subst e
  have hu : UpE l := by
    rw [List.pairwise_map] at ho
    have nd2 : (l.map (·.mom)).Nodup := (hl.map _).nodup_iff.mpr nd
    rw [List.nodup_iff_pairwise_ne, List.pairwise_map] at nd2
    unfold UpE
    rw [List.pairwise_iff_getElem] at ho nd2 ⊢
    intro i j hi hj hij
    have a := ho i j hi hj hij
    have b := nd2 i j hi hj hij
    have a : l[i].mom ≤ l[j].mom := a
    omega
  rw [upE_uniq (hl.trans (esort_perm evs).symm) hu (esort_up nd), List.map_map]; rfl
/-! ### dicts from numbers to whatever -/
def kvG {α : Type} (f : α → VW.D) (m : List (Int × α)) : List (Int × VW.D) := m.map fun p => (p.1, f p.2)
def getG {α : Type} (m : List (Int × α)) (k : Int) : Option α := (m.find? fun p => decide (p.1 = k)).map (·.2)
def putG {α : Type} (m : List (Int × α)) (k : Int) (v : α) : List (Int × α) := if (m.any fun p => decide (p.1 = k)) = true then m.map (fun p => if p.1 = k then (p.1, v) else p) else m ++ [(k, v)]
theorem kvG_get {α : Type} {f : α → VW.D} (m : List (Int × α)) (k : Int) : VW.getI (kvG f m) k = (getG m k).map f := by
  unfold VW.getI getG kvG
  rw [List.find?_map, Option.map_map, Option.map_map]; rfl
theorem kvG_put {α : Type} {f : α → VW.D} (m : List (Int × α)) (k : Int) (v : α) : VW.putI (kvG f m) k (f v) = kvG f (putG m k v) := by
  unfold VW.putI putG kvG
  have e1 : ((m.map fun p : Int × α => (p.1, f p.2)).any fun p => decide (p.1 = k)) = m.any fun p => decide (p.1 = k) := by rw [List.any_map]; rfl
  rw [e1]
  split
  · rw [List.map_map, List.map_map]
    apply List.map_congr_left
    intro p _
    show (if p.1 = k then (p.1, f v) else (p.1, f p.2)) = ((if p.1 = k then (p.1, v) else p).1, f (if p.1 = k then (p.1, v) else p).2)
    by_cases c : p.1 = k
    · rw [if_pos c, if_pos c]
    · rw [if_neg c, if_neg c]
  · rw [List.map_append]; rfl
theorem putG_len {α : Type} (m : List (Int × α)) (k : Int) (v : α) : (putG m k v).length ≤ m.length + 1 := by
  unfold putG
  split
  · rw [List.length_map]; omega
  · rw [List.length_append]; exact Nat.le_refl _

local macro_rules | `(tactic| walk_at "vf") => `(tactic| first
  | ((with_reducible show VW.DGot _ _ _ _); exact dgotA (by walk_at "sq"))
  | ((with_reducible show VW.DPutD _ _ _ _ _); exact dputA (by walk_at "sp") (by first | assumption | walk_at "arith"))
  | ((with_reducible show VW.DPopD _ _ _ _ _); exact dpopA (by walk_at "sp") (by assumption)))

/-! ### what the asks do, one by one -/
def askAt (rs : List Row) (i : Nat) : Ask := match (rs[i]?).map Row.w with
  | some (.ask k _) => k
  | _ => .find 0
def backAt (rs : List Row) (i : Nat) : Bool := match (rs[i]?).map Row.w with
  | some (.going _ _ b _) => b
  | _ => false
def prevR (F : List (Int × An2)) (n : Int) : List (Int × Int) := match getG F n with
  | some (.rows xs) => xs
  | _ => []
abbrev Pl := List (Int × An2) × List (Int × Int)
def plS (rs : List Row) (st : Pl) (e : Ev) : Pl := match e.pc with
  | none => (putG st.1 (e.num : Int) (one st.2 (askAt rs e.num)).1.up, (one st.2 (askAt rs e.num)).2)
  | some p => (putG st.1 (e.num : Int) (.rows (prevR st.1 e.num ++ (if backAt rs e.num then (rowsW st.2 p.fst p.lst).reverse else rowsW st.2 p.fst p.lst))), st.2)
def play (rs : List Row) (ps : List (Int × Int)) : Pl := (esort (evF 0 rs)).foldl (plS rs) ([], ps)
/-- an event stands at its row -/
inductive EvOk (rs : List Row) : Ev → Prop
  | ask (m : Int) (i : Nat) (r : Row) (k : Ask) (o : Option Int) : rs[i]? = some r → r.w = .ask k o → EvOk rs ⟨m, i, none⟩
  | going (m : Int) (i : Nat) (p : Pc) (r : Row) (l : Int) (h : Option Int) (b : Bool) (ps : List Pc) : rs[i]? = some r → r.w = .going l h b ps → EvOk rs ⟨m, i, some p⟩
theorem evR_ok {rs : List Row} {i : Nat} {r : Row} (h : rs[i]? = some r) : ∀ e ∈ evR i r, EvOk rs e := by
  intro e he
  unfold evR at he
  split at he
  · cases he
  · rename_i hw
    rw [List.mem_singleton.mp he]
    exact .ask _ _ r _ _ h hw
  · rename_i hw
    split at he
    · obtain ⟨p, hp, rfl⟩ := List.mem_map.mp he
      exact .going _ _ _ r _ _ _ _ h hw
    · cases he
theorem evF_ok {all : List Row} : ∀ {rs : List Row} {i : Nat}, (∀ j r, rs[j]? = some r → all[i + j]? = some r) → ∀ e ∈ evF i rs, EvOk all e
  | [], _, _, e, he => by cases he
  | r :: rs, i, h, e, he => by
    rcases List.mem_append.mp he with he | he
    · exact evR_ok (h 0 r rfl) e he
    · exact evF_ok (rs := rs) (i := i + 1) (fun j r' hj => by
        have := h (j + 1) r' hj
        rw [show i + 1 + j = i + (j + 1) by omega]; exact this) e he
/-! ### keys stay apart -/
theorem putA_keys {m : List (Int × Int)} {k v : Int} (nd : (m.map (·.1)).Nodup) : ((putA m k v).map (·.1)).Nodup := by
  unfold putA
  by_cases c : (m.any fun p => decide (p.1 = k)) = true
  · rw [if_pos c, List.map_map]
    have : ((fun p : Int × Int => p.1) ∘ fun p => if p.1 = k then (p.1, v) else p) = fun p => p.1 := by
      funext p
      show (if p.1 = k then (p.1, v) else p).1 = p.1
      by_cases e : p.1 = k
      · rw [if_pos e]
      · rw [if_neg e]
    rw [this]; exact nd
  · rw [if_neg c, List.map_append, List.nodup_append]
    refine ⟨nd, by simp, fun a ha b hb e => c ?_⟩
    have hb : b = k := by simpa using hb
    obtain ⟨p, hp, rfl⟩ := List.mem_map.mp ha
    exact List.any_eq_true.mpr ⟨p, hp, decide_eq_true (e.trans hb)⟩
theorem dropA_keys {m : List (Int × Int)} {k : Int} (nd : (m.map (·.1)).Nodup) : ((dropA m k).map (·.1)).Nodup := by
  unfold dropA
  exact nd.sublist (List.filter_sublist.map _)
theorem one_keys {m : List (Int × Int)} {a : Ask} (nd : (m.map (·.1)).Nodup) : ((one m a).2.map (·.1)).Nodup := by
  cases a with
  | find k => exact nd
  | put k v => exact putA_keys nd
  | take k =>
    show ((if (getA m k).isSome = true then dropA m k else m).map (·.1)).Nodup
    split
    · exact dropA_keys nd
    · exact nd
  | change k o n =>
    show ((if getA m k = some o then (An.bl true, putA m k n) else (.bl false, m)).2.map (·.1)).Nodup
    split
    · exact putA_keys nd
    · exact nd

local macro_rules | `(tactic| walk_at "vf") => `(tactic| first
  | ((with_reducible show VW.DGot _ _ _ _); exact dgotA (by walk_at "sq"))
  | ((with_reducible show VW.DPutD _ _ _ _ _); exact dputA (by walk_at "sp") (by first | assumption | walk_at "arith"))
  | ((with_reducible show VW.DPopD _ _ _ _ _); exact dpopA (by walk_at "sp") (by assumption)))

/-! ### answers by moments -/
theorem dgotG {α : Type} {f : α → VW.D} {S : VW.Sto} {x : VW.D} {m : List (Int × α)} {k : Int} (h : VW.DicK S x (VW.iK (kvG f m))) : VW.DGot S x (.int k) ((getG m k).map f) := by
  rw [← kvG_get]; exact VW.dgotI h
theorem dputG {α : Type} {f : α → VW.D} {S : VW.Sto} {a : Addr} {m : List (Int × α)} {k : Int} {v : α} (h : S a = some (.dK (VW.iK (kvG f m)))) (hl : m.length < sizeLine) : VW.DPutD S a (.int k) (f v) (VW.sup S a (.dK (VW.iK (kvG f (putG m k v))))) := by
  rw [← kvG_put]
  exact VW.dputI h (by unfold kvG; rw [List.length_map]; exact hl)
theorem kv_pairs (ps : List (Int × Int)) : ps.map pairD = (VW.iK (kv ps)).map fun kd => .tup [VW.kD kd.1, kd.2] := by
  unfold VW.iK kv
  rw [List.map_map, List.map_map]; rfl
theorem kv_merge {ps : List (Int × Int)} (nd : (ps.map (·.1)).Nodup) : VW.mergeD [] (VW.iK (kv ps)) = VW.iK (kv ps) := by
  rw [VW.mergeD_apart _ [] _, List.nil_append]
  rw [List.nil_append]
  unfold VW.iK kv
  rw [List.map_map, List.pairwise_map]
  rw [List.nodup_iff_pairwise_ne, List.pairwise_map] at nd
  refine nd.imp fun {a b} h e => h ?_
  exact Sum.inl.inj e
structure Prs (ps : List (Int × Int)) : Prop where
  len : ps.length ≤ 8
  nd : (ps.map (·.1)).Nodup
def evC (rs : List Row) : List Ev := evF 0 rs
theorem An.up_d (a : An) : a.d = a.up.d := by cases a <;> rfl
/-- answers of goings are rows, not too many -/
def GoF (rs : List Row) (n : Nat) (F : List (Int × An2)) : Prop := ∀ p ∈ F, ∀ (i : Nat) (r : Row) l h b ps, p.1 = (i : Int) → rs[i]? = some r → r.w = .going l h b ps → ∃ xs, p.2 = .rows xs ∧ xs.length ≤ n
theorem goF_put {rs : List Row} {n n' : Nat} {F : List (Int × An2)} {k : Int} {a : An2} (g : GoF rs n F) (hn : n ≤ n') (ha : ∀ (i : Nat) (r : Row) l h b ps, k = (i : Int) → rs[i]? = some r → r.w = .going l h b ps → ∃ xs, a = .rows xs ∧ xs.length ≤ n') : GoF rs n' (putG F k a) := by
  have old : ∀ p ∈ F, ∀ (i : Nat) (r : Row) l h b ps, p.1 = (i : Int) → rs[i]? = some r → r.w = .going l h b ps → ∃ xs, p.2 = .rows xs ∧ xs.length ≤ n' := fun p hp i r l h b ps e1 e2 e3 => by
    obtain ⟨xs, e, hl⟩ := g p hp i r l h b ps e1 e2 e3
    exact ⟨xs, e, Nat.le_trans hl hn⟩
  unfold putG
  split
  · intro p hp
    obtain ⟨p0, hp0, rfl⟩ := List.mem_map.mp hp
    by_cases c : p0.1 = k
    · rw [if_pos c]
      intro i r l h b ps e1 e2 e3
      exact ha i r l h b ps (c.symm.trans e1) e2 e3
    · rw [if_neg c]; exact old p0 hp0
  · intro p hp
    rcases List.mem_append.mp hp with h | h
    · exact old p h
    · rw [List.mem_singleton.mp h]
      intro i r l h b ps e1 e2 e3
      exact ha i r l h b ps e1 e2 e3
theorem prev_ok {rs : List Row} {n i : Nat} {F : List (Int × An2)} {r : Row} {l : Int} {h : Option Int} {b : Bool} {ps : List Pc} (g : GoF rs n F) (hr : rs[i]? = some r) (hw : r.w = .going l h b ps) :
    (VW.getI (kvG An2.d F) (i : Int)).getD (.lst []) = .lst ((prevR F (i : Int)).map pairD) ∧ (prevR F (i : Int)).length ≤ n := by
  rw [kvG_get]
  unfold prevR
  cases e : getG F (i : Int) with
  | none => exact ⟨rfl, Nat.zero_le _⟩
  | some a =>
    unfold getG at e
    obtain ⟨p, hp, rfl⟩ := Option.map_eq_some_iff.mp e
    have hk : p.1 = (i : Int) := by simpa using List.find?_some hp
    obtain ⟨xs, e2, hl⟩ := g p (List.mem_of_find?_eq_some hp) i r l h b ps hk hr hw
    rw [e2]
    exact ⟨rfl, hl⟩
def spAns : VW.SpD := VW.sp2 fun x y S P _ => ∃ ps rs, VW.PrX S x (ps.map pairD) ∧ y = .lst (rs.map Row.d) ∧ Prs ps ∧ Few rs ∧ (evF 0 rs).length < 50 ∧ ((evF 0 rs).map (·.mom)).Nodup ∧
  ∀ (f q : Addr) (S' : VW.Sto), f ≠ q → S' f = some (.dK (VW.iK (kvG An2.d (play rs ps).1))) → S' q = some (.dK (VW.iK (kv (play rs ps).2))) → (∀ a o, S a = some o → S' a = some o) → P (.tup [.ref f, .ref q]) S'
theorem ok_answers_by_moments (T : Txt w K mg A) : FnOk P w K mg base CX0 4 A.a_answers_by_moments A.d_answers_by_moments ["pairs", "asks"] (VW.upSp K (spAns)) := by
  refine T.F_answers_by_moments.ok sc_answers_by_moments (VW.upSp.len VW.sp2_len) (fun cdv A' outer s H vs Q E hr h => ?_)
  obtain ⟨F, S, ds, P', PE, rh, hv, ⟨x1, x2, rfl, h⟩, lv, lx⟩ := h
  haveI : VW.XLe K F E PE := ⟨lx⟩
  have hu := hu_of hr
  refine ⟨_, (pss_cons (ps_set (i := 2) sc_answers_by_moments.nd rfl (Or.inl rfl) (pe_callTy (VW.call_dicPX rfl) (by rfl) T.n_dict (by decide +kernel) (pa_cons (pv 0) pa_nil)))
      (pss_cons (ps_set (i := 3) sc_answers_by_moments.nd rfl (Or.inl rfl) pe_dnewK)
      (pss_cons (ps_for PassesOwn.never rfl (pi_list (pe_callBK (SK.cr_sortOwn (ok_moment_of T) (hr.mono (by decide)) T.b_moment_of) (by rfl) T.n_sorted (by decide +kernel) (pa_cons (pe_call (ok_events_of T) (hr.mono (by decide)) rfl T.m_events_of T.F_events_of.kp T.b_events_of .nil VW.pass0F (pa_cons (pv 1) pa_nil)) pa_nil) (pk_cons (pe_glob (v := V.ref A.a_moment_of) rfl T.m_moment_of rfl) pk_nil))) (pg_tup (n := 3) rfl (pgs_cons (pg_name (i := 4) sc_answers_by_moments.nd rfl (Or.inl rfl)) (pgs_cons (pg_name (i := 5) sc_answers_by_moments.nd rfl (Or.inl rfl)) (pgs_cons (pg_name (i := 6) sc_answers_by_moments.nd rfl (Or.inl rfl)) pgs_nil))))
      (pss_cons (ps_set (i := 7) sc_answers_by_moments.nd rfl (Or.inl rfl) (pe_ix ix_tup (pe_ix ix_list (pv 1) (pv 5) (fun _ _ => rfl)) pe_int (fun _ _ => rfl)))
      (pss_one (ps_if (pt_cmpR VW.op_isNA (pv 6) pe_non (nomark _))
      (pss_one (ps_dput hu (pv 3) (pv 5) (pe_call (ok_done T) (hr.mono (by decide)) rfl T.m_done T.F_done.kp T.b_done .nil VW.pass0F (pa_cons (pv 2) (pa_cons (pv 7) pa_nil))) rfl))
      (pss_cons (ps_set (i := 8) sc_answers_by_moments.nd rfl (Or.inl rfl) (pe_call (ok_rows_withinM T) (hr.mono (by decide)) rfl T.m_rows_within T.F_rows_within.kp T.b_rows_within .nil VW.pass0F (pa_cons (pv 2) (pa_cons (pe_ix ix_tup (pv 6) pe_int (fun _ _ => rfl)) (pa_cons (pe_ix ix_tup (pv 6) pe_int (fun _ _ => rfl)) pa_nil)))))
      (VW.cutAt (ps_if (pt_val (pe_ix ix_tup (pv 7) pe_int (fun _ _ => rfl)))
      (pss_one (ps_expr (pe_bm0 PySem.F.plainAttrs_list PySem.F.slot_list_reverse PySem.F.type_list_reverse mt_reverse (pv 8))))
      pss_nil)
      (pss_one (ps_dput hu (pv 3) (pv 5) (VW.pe_kp (pe_op op_cat (pe_dget2 hu (pv 3) (pv 5) (VW.pe_kp (pe_lst pa_nil)) ⟨rfl, rfl, rfl, rfl⟩) (pv 8))) rfl))))))))
      (pss_one (ps_ret (pe_tup (pa_cons (pv 3) (pa_cons (pv 2) pa_nil)))))))), ?_⟩
  try dsimp only [cxOf, Cx.nox, Cx.wish, List.map]
  refine VW.body_up rh hv lv ?_
  obtain ⟨ps, rs, hx, rfl, gp, few, hel, nd, k⟩ := h
  have hpl := gp.len
  show VW.dSeq _ _ _ [some x1, some (.lst (rs.map Row.d)), none, none, none, none, none, none, none] S
  walk_at "v"
  refine ⟨(by rw [← kv_pairs]; exact hx : VW.PrX S x1 ((VW.iK (kv ps)).map fun kd => VW.D.tup [VW.kD kd.1, kd.2])), fun q hq => ?_⟩
  rw [kv_merge gp.nd]
  walk_at "v"
  intro f hf
  have nqf : q ≠ f := fun z => by rw [← z, VW.sup_same] at hf; cases hf
  walk_at "v"
  refine VW.SortKS.mk ⟨_, (evF 0 rs).map Ev.d, rfl, rfl, Or.inl rfl, by rw [List.length_map]; omega, (evF 0 rs).map (·.mom), by rw [List.length_map, List.length_map], fun i d key hd hk P2 hP => ?_, fun out ho => ?_⟩
  · rw [List.getElem?_map] at hd hk
    obtain ⟨e, he, rfl⟩ := Option.map_eq_some_iff.mp hd
    rw [he] at hk
    cases hk
    exact ⟨_, rfl, e, rfl, hP⟩
  obtain rfl := out_sorted nd ho
  have hq3 : VW.sup (VW.sup S q (.dK (VW.iK (kv ps)))) f (.dK []) q = some (.dK (VW.iK (kv ps))) := by rw [VW.sup_ne nqf, VW.sup_same]
  have hf3 : VW.sup (VW.sup S q (.dK (VW.iK (kv ps)))) f (.dK []) f = some (.dK (VW.iK (kvG An2.d []))) := VW.sup_same
  have hfn : S f = none := by rw [VW.sup_ne nqf.symm] at hf; exact hf
  have hS3 : ∀ a o, S a = some o → VW.sup (VW.sup S q (.dK (VW.iK (kv ps)))) f (.dK []) a = some o := fun a o h => by
    have n1 : a ≠ q := fun z => by rw [z, hq] at h; cases h
    have n2 : a ≠ f := fun z => by rw [z, hfn] at h; cases h
    rw [VW.sup_ne n2, VW.sup_ne n1]; exact h
  generalize VW.sup (VW.sup S q (.dK (VW.iK (kv ps)))) f (.dK []) = S3 at hq3 hf3 hS3 ⊢
  have hes : (esort (evF 0 rs)).length = (evF 0 rs).length := (esort_perm _).length_eq
  have hok : ∀ e ∈ esort (evF 0 rs), EvOk rs e := fun e he => evF_ok (all := rs) (i := 0) (fun j r h => by rw [Nat.zero_add]; exact h) e ((esort_perm _).mem_iff.mp he)
  unfold play at k
  generalize esort (evF 0 rs) = es at k hes hok ⊢
  walk_at "v"
  refine VW.ForD.mk ⟨fun j env S4 => Wrap (∃ (st : Pl) (v4 v5 v6 v7 v8 : Option VW.D), env = [some x1, some (.lst (rs.map Row.d)), some (.ref q), some (.ref f), v4, v5, v6, v7, v8] ∧ st = (es.take j).foldl (plS rs) ([], ps) ∧ S4 q = some (.dK (VW.iK (kv st.2))) ∧ S4 f = some (.dK (VW.iK (kvG An2.d st.1))) ∧ (∀ a o, S a = some o → S4 a = some o) ∧
    (st.2.map (·.1)).Nodup ∧ st.2.length ≤ 8 + j ∧ st.1.length ≤ j ∧ GoF rs (64 * j) st.1), ?_, fun _ _ _ _ _ => Or.inl rfl, ?_, ?_⟩
  · exact ⟨([], ps), _, _, _, _, _, rfl, rfl, hq3, hf3, hS3, gp.nd, hpl, Nat.le_refl _, (fun n hn => by cases hn)⟩
  · rintro j x env S4 hj hx ⟨st, v4, v5, v6, v7, v8, rfl, est, hq4, hf4, hS4, hnd, hml, hfl, go⟩
    obtain ⟨e, he, rfl⟩ : ∃ e, es[j]? = some e ∧ Ev.d e = x := by
      have hx : (es.map Ev.d)[j]? = some x := hx
      rw [List.getElem?_map] at hx
      exact Option.map_eq_some_iff.mp hx
    have hjl := (List.getElem?_eq_some_iff.mp he).1
    have nx : (es.take (j + 1)).foldl (plS rs) ([], ps) = plS rs st e := by
      rw [List.take_add_one, he, List.foldl_append, ← est]; rfl
    have hj50 : j < 50 := by omega
    obtain ⟨F, m⟩ := st
    have hq4 : S4 q = some (.dK (VW.iK (kv m))) := hq4
    have hf4 : S4 f = some (.dK (VW.iK (kvG An2.d F))) := hf4
    have hml : m.length ≤ 8 + j := hml
    have hfl : F.length ≤ j := hfl
    have hnd : (m.map (·.1)).Nodup := hnd
    clear est
    cases hok e (List.mem_of_getElem? he) with
    | ask mo i r ka o hr2 hw =>
      have ha : atI (rs.map Row.d) (i : Int) = some r.d := atI_nat (by rw [List.getElem?_map, hr2]; rfl)
      have rd : r.d = .tup [.str r.nm, ka.d, oI r.b, r.w.md, oI r.e, r.an.d] := by unfold Row.d; rw [hw]; rfl
      show VW.kTup _ _ (.tup [.int mo, .int (i : Int), .non]) _ S4 _
      walk_at "v"
      refine ⟨(by rw [hw]; rfl : r.w.ad = Ask.d ka), by omega, ?_⟩
      rw [An.up_d]
      have ak : askAt rs i = ka := by unfold askAt; rw [hr2]; show (match some r.w with | some (.ask k _) => k | _ => .find 0) = ka; rw [hw]
      have ep : plS rs (F, m) ⟨mo, i, none⟩ = (putG F (i : Int) (one m ka).1.up, (one m ka).2) := by
        show (putG F (i : Int) (one m (askAt rs i)).1.up, (one m (askAt rs i)).2) = _
        rw [ak]
      rw [ep] at nx
      have ol := one_len m ka
      have ok := one_keys (a := ka) hnd
      have pl := putG_len F (i : Int) (one m ka).1.up
      have hput : VW.DPutD (VW.sup S4 q (.dK (VW.iK (kv (one m ka).2)))) f (.int (i : Int)) (An2.d (one m ka).1.up) (VW.sup (VW.sup S4 q (.dK (VW.iK (kv (one m ka).2)))) f (.dK (VW.iK (kvG An2.d (putG F (i : Int) (one m ka).1.up))))) :=
        dputG (by rw [VW.sup_ne nqf.symm]; exact hf4) (by rw [sizeLine_eq]; omega)
      walk_at "v"
      refine ⟨(putG F (i : Int) (one m ka).1.up, (one m ka).2), _, _, _, _, _, rfl, nx.symm, ?_, VW.sup_same, fun a o h => ?_, ok, by show (one m ka).2.length ≤ _; omega, by show (putG F (i : Int) (one m ka).1.up).length ≤ _; omega, ?_⟩
      · rw [VW.sup_ne nqf]; exact VW.sup_same
      · have n1 : a ≠ q := fun z => by rw [z, hq] at h; cases h
        have n2 : a ≠ f := fun z => by rw [z, hfn] at h; cases h
        rw [VW.sup_ne n2, VW.sup_ne n1]; exact hS4 a o h
      · refine goF_put go (by omega) fun i2 r2 l h b ps2 e1 e2 e3 => ?_
        have : i2 = i := by omega
        subst this
        rw [hr2] at e2; cases e2
        rw [hw] at e3; cases e3
    | going mo i p r l h b pcs hr2 hw =>
      have ha : atI (rs.map Row.d) (i : Int) = some r.d := atI_nat (by rw [List.getElem?_map, hr2]; rfl)
      have rd : r.d = .tup [.str r.nm, .tup [.str "going", .int l, oI h, .bl b], oI r.b, r.w.md, oI r.e, r.an.d] := by unfold Row.d; rw [hw]; rfl
      show VW.kTup _ _ (.tup [.int mo, .int (i : Int), .tup [.int p.fst, oI p.lst, .int p.mom]]) _ S4 _
      have wad : r.w.ad = .tup [.str "going", .int l, oI h, .bl b] := by rw [hw]; rfl
      walk_at "v"
      intro L hL
      have nLq : L ≠ q := fun z => by rw [z, hq4] at hL; cases hL
      have nLf : L ≠ f := fun z => by rw [z, hf4] at hL; cases hL
      have hLn : S L = none := by
        cases e0 : S L with
        | none => rfl
        | some o => rw [hS4 _ _ e0] at hL; cases hL
      walk_at "v"
      refine ⟨fun env S6 => env = [some x1, some (.lst (rs.map Row.d)), some (.ref q), some (.ref f), some (.int mo), some (.int (i : Int)), some (.tup [.int p.fst, oI p.lst, .int p.mom]), some r.w.ad, some (.ref L)] ∧ S6 = VW.sup S4 L (.lst ((if b then (rowsW m p.fst p.lst).reverse else rowsW m p.fst p.lst).map pairD)), ?_, ?_⟩
      · have hLL : VW.sup S4 L (.lst ((rowsW m p.fst p.lst).map pairD)) L = some (.lst ((rowsW m p.fst p.lst).map pairD)) := VW.sup_same
        cases b with
        | true =>
          walk_at "v"
          rw [VW.sup_sup, if_pos rfl, List.map_reverse]
        | false =>
          walk_at "v"
          rfl
      · rintro env S6 ⟨rfl, rfl⟩
        obtain ⟨hp1, hp2⟩ := prev_ok go hr2 hw
        have hrw : (rowsW m p.fst p.lst).length ≤ m.length := by
          unfold rowsW
          exact Nat.le_trans (List.length_filter_le _ _) (Nat.le_of_eq (isort_perm m).length_eq)
        have hR : (if b then (rowsW m p.fst p.lst).reverse else rowsW m p.fst p.lst).length ≤ m.length := by cases b <;> simpa using hrw
        have bk : backAt rs i = b := by unfold backAt; rw [hr2]; show (match some r.w with | some (.going _ _ b _) => b | _ => false) = b; rw [hw]
        have ep : plS rs (F, m) ⟨mo, i, some p⟩ = (putG F (i : Int) (.rows (prevR F (i : Int) ++ (if b then (rowsW m p.fst p.lst).reverse else rowsW m p.fst p.lst))), m) := by
          show (putG F (i : Int) (.rows (prevR F (i : Int) ++ (if backAt rs i then (rowsW m p.fst p.lst).reverse else rowsW m p.fst p.lst))), m) = _
          rw [bk]
        rw [ep] at nx
        generalize (if b then (rowsW m p.fst p.lst).reverse else rowsW m p.fst p.lst) = R at hR nx ⊢
        have pl := putG_len F (i : Int) (.rows (prevR F (i : Int) ++ R))
        have hput : VW.DPutD (VW.sup S4 L (.lst (R.map pairD))) f (.int (i : Int)) (An2.d (.rows (prevR F (i : Int) ++ R))) (VW.sup (VW.sup S4 L (.lst (R.map pairD))) f (.dK (VW.iK (kvG An2.d (putG F (i : Int) (.rows (prevR F (i : Int) ++ R))))))) :=
          dputG (by rw [VW.sup_ne nLf.symm]; exact hf4) (by rw [sizeLine_eq]; omega)
        have hdk : VW.DicK (VW.sup S4 L (.lst (R.map pairD))) (.ref f) (VW.iK (kvG An2.d F)) := .inr ⟨f, rfl, by rw [VW.sup_ne nLf.symm]; exact hf4⟩
        walk_at "v"
        refine ⟨Or.inl hp1, Or.inr ⟨L, rfl, VW.sup_same⟩, by rw [List.length_map, List.length_map, sizeLine_eq]; omega, ?_⟩
        have hput : VW.DPutD (VW.sup S4 L (.lst (R.map pairD))) f (.int (i : Int)) (.lst ((prevR F (i : Int)).map pairD ++ R.map pairD)) (VW.sup (VW.sup S4 L (.lst (R.map pairD))) f (.dK (VW.iK (kvG An2.d (putG F (i : Int) (.rows (prevR F (i : Int) ++ R))))))) := by
          rw [← List.map_append]; exact hput
        walk_at "v"
        refine ⟨(putG F (i : Int) (.rows (prevR F (i : Int) ++ R)), m), _, _, _, _, _, rfl, nx.symm, ?_, VW.sup_same, fun a o h => ?_, hnd, by show m.length ≤ _; omega, by show (putG F (i : Int) _).length ≤ _; omega, ?_⟩
        · rw [VW.sup_ne nqf, VW.sup_ne nLq.symm]; exact hq4
        · have n2 : a ≠ f := fun z => by rw [z, hfn] at h; cases h
          have n3 : a ≠ L := fun z => by rw [z, hLn] at h; cases h
          rw [VW.sup_ne n2, VW.sup_ne n3]; exact hS4 a o h
        · refine goF_put go (by omega) fun i2 r2 l2 h2 b2 ps2 e1 e2 e3 => ⟨_, rfl, ?_⟩
          rw [List.length_append]
          exact Nat.le_trans (Nat.add_le_add hp2 hR) (by omega)
  · rintro env S4 ⟨st, v4, v5, v6, v7, v8, rfl, est, hq4, hf4, hS4, hnd, hml, hfl, go⟩
    rw [show es.take (VW.wL (VW.D.lst (es.map Ev.d)) (es.map Ev.d)).n = es from by show es.take (es.map Ev.d).length = es; rw [List.length_map, List.take_length]] at est
    rw [← est] at k
    walk_at "v"
    exact k f q S4 nqf.symm hf4 hq4 hS4

local macro_rules | `(tactic| walk_at "vf") => `(tactic| first
  | ((with_reducible show VW.DGot _ _ _ _); exact dgotA (by walk_at "sq"))
  | ((with_reducible show VW.DPutD _ _ _ _ _); exact dputA (by walk_at "sp") (by first | assumption | walk_at "arith"))
  | ((with_reducible show VW.DPopD _ _ _ _ _); exact dpopA (by walk_at "sp") (by assumption)))

/-! ### answers beside one another, rows among them -/
def An2.p : An2 → PyData
  | .non => .none | .bl b => .bool b | .int i => .int i | .rows xs => .list (xs.map fun p => .tuple [.int p.1, .int p.2])
theorem py_pairs : ∀ xs : List (Int × Int), VW.pyAll (xs.map pairD) = some (xs.map fun p => .tuple [.int p.1, .int p.2])
  | [] => by simp [VW.pyAll]
  | p :: r => by
    rw [List.map_cons, VW.pyAll, py_pairs r]
    have : VW.py (pairD p) = some (.tuple [.int p.1, .int p.2]) := by unfold pairD; simp [VW.py, VW.pyAll]
    rw [this]; rfl
theorem an2_py (S : VW.Sto) (a : An2) : VW.pyS S a.d = some a.p := by
  cases a with
  | non => show VW.py .non = _; rw [VW.py]; rfl
  | bl b => show VW.py (.bl b) = _; rw [VW.py]; rfl
  | int i => show VW.py (.int i) = _; rw [VW.py]; rfl
  | rows xs => show VW.py (.lst _) = _; rw [VW.py, py_pairs]; rfl
theorem eqv_pairs : ∀ xs ys : List (Int × Int), PyData.eqvAll (xs.map fun p => .tuple [.int p.1, .int p.2]) (ys.map fun p => .tuple [.int p.1, .int p.2]) = decide (xs = ys)
  | [], [] => by simp [PyData.eqvAll]
  | [], y :: ys => by simp [PyData.eqvAll]
  | x :: xs, [] => by simp [PyData.eqvAll]
  | x :: xs, y :: ys => by
    rw [List.map_cons, List.map_cons, PyData.eqvAll, eqv_pairs xs ys]
    obtain ⟨a, b⟩ := x
    obtain ⟨c, d⟩ := y
    simp only [PyData.eqv, PyData.eqvAll, List.cons.injEq, Prod.mk.injEq, Bool.and_true]
    by_cases h1 : a = c <;> by_cases h2 : b = d <;> by_cases h3 : xs = ys <;> simp [h1, h2, h3]
def An2.isB : An2 → Bool
  | .bl _ => true
  | _ => false
theorem same_eq (a b : An2) : ((a.isB == b.isB) && PyData.eqv a.p b.p) = decide (a = b) := by
  cases a with
  | non => cases b <;> simp [An2.isB, An2.p, PyData.eqv]
  | bl x =>
    cases b with
    | bl y => cases x <;> cases y <;> simp [An2.isB, An2.p, PyData.eqv]
    | _ => simp [An2.isB, An2.p, PyData.eqv]
  | int i =>
    cases b with
    | int j => simp only [An2.isB, An2.p, PyData.eqv, beq_self_eq_true, Bool.true_and, An2.int.injEq]; rfl
    | _ => simp [An2.isB, An2.p, PyData.eqv]
  | rows xs =>
    cases b with
    | rows ys => simp only [An2.isB, An2.p, PyData.eqv, eqv_pairs, beq_self_eq_true, Bool.true_and, An2.rows.injEq]
    | _ => simp [An2.isB, An2.p, PyData.eqv]
theorem an2_ty (S : VW.Sto) (a : An2) : VW.isT "bool" (VW.tyN S a.d) = a.isB := by
  cases a with
  | non => show VW.isT "bool" "NoneType" = false; decide +kernel
  | bl b => show VW.isT "bool" "bool" = true; decide +kernel
  | int i => show VW.isT "bool" "int" = false; decide +kernel
  | rows xs => show VW.isT "bool" "list" = false; decide +kernel
theorem an2_okTy (S : VW.Sto) (a : An2) : VW.okTy (VW.tyN S a.d) = true := by
  cases a with
  | non => show VW.okTy "NoneType" = true; decide +kernel
  | bl b => show VW.okTy "bool" = true; decide +kernel
  | int i => show VW.okTy "int" = true; decide +kernel
  | rows xs => show VW.okTy "list" = true; decide +kernel
theorem plain_pairs : ∀ xs : List (Int × Int), PyData.plainAll (xs.map fun p => .tuple [.int p.1, .int p.2]) = true ∧ PyData.depthAll (xs.map fun p => .tuple [.int p.1, .int p.2]) ≤ 2
  | [] => ⟨by simp [PyData.plainAll], by simp [PyData.depthAll]⟩
  | x :: xs => by
    obtain ⟨h1, h2⟩ := plain_pairs xs
    rw [List.map_cons]
    refine ⟨by simp [PyData.plainAll, PyData.plain, h1], ?_⟩
    simp only [PyData.depthAll, PyData.depth]
    omega
theorem an2_ok (S : VW.Sto) (a : An2) : VW.okP (VW.pyS S a.d) = true := by
  rw [an2_py]
  show (a.p.plain && decide (a.p.depth ≤ 60)) = true
  cases a with
  | non => rfl
  | bl b => rfl
  | int i => rfl
  | rows xs =>
    obtain ⟨h1, h2⟩ := plain_pairs xs
    simp only [An2.p, PyData.plain, PyData.depth, h1, Bool.true_and, decide_eq_true_eq]
    omega
def spSame2 : VW.SpD := VW.sp2 fun x y S P _ => ∃ a b : An2, x = a.d ∧ y = b.d ∧ P (.bl (decide (a = b))) S
theorem ok_is_same (T : Txt w K mg A) : FnOk P w K mg base CX0 1 A.a_is_same A.d_is_same ["one", "other"] (VW.upSp K (spSame2)) := by
  refine T.F_is_same.ok sc_is_same (VW.upSp.len VW.sp2_len) (fun cdv A' outer s H vs Q E hr h => ?_)
  obtain ⟨F, S, ds, P', PE, rh, hv, ⟨x1, x2, rfl, h⟩, lv, lx⟩ := h
  haveI : VW.XLe K F E PE := ⟨lx⟩
  have hu := hu_of hr
  refine ⟨_, (pss_one (ps_ret (pe_and (pe_cmpR (VW.op_eqPl hr.units) (pe_callB VW.call_isA (by rfl) T.n_isinstance (by decide +kernel) (pa_cons (pv 0) (pa_cons (pe_bltn (v := V.ty "bool") (by rfl) T.n_bool (by decide +kernel) rfl) pa_nil))) (pe_callB VW.call_isA (by rfl) T.n_isinstance (by decide +kernel) (pa_cons (pv 1) (pa_cons (pe_bltn (v := V.ty "bool") (by rfl) T.n_bool (by decide +kernel) rfl) pa_nil))) (nomark _)) (pe_one (pe_cmpR (VW.op_eqPl hr.units) (pv 0) (pv 1) (nomark _)))))), ?_⟩
  try dsimp only [cxOf, Cx.nox, Cx.wish, List.map]
  refine VW.body_up rh hv lv ?_
  obtain ⟨a, b, rfl, rfl, k⟩ := h
  have o1 := an2_ok S a
  have o2 := an2_ok S b
  rw [← same_eq] at k
  have eb : ∀ x y, VW.eqP (VW.pyS S (.bl x)) (VW.pyS S (.bl y)) = (x == y) := fun x y => by
    have e : ∀ x, VW.pyS S (.bl x) = some (.bool x) := fun x => by show VW.py (.bl x) = _; rw [VW.py]
    rw [e, e]
    show PyData.eqv (.bool x) (.bool y) = _
    simp only [PyData.eqv]
  have e3 : VW.eqP (VW.pyS S a.d) (VW.pyS S b.d) = PyData.eqv a.p b.p := by rw [an2_py, an2_py]; rfl
  have t1 := an2_okTy S a
  have t2 := an2_okTy S b
  walk_at "v"
  rw [an2_ty, an2_ty, eb]
  refine ite2 (fun c => ?_) (fun c => ?_)
  · rw [c, Bool.true_and] at k
    walk_at "v"
    rw [e3]
    exact k
  · rw [Bool.eq_false_iff.mpr c, Bool.false_and] at k
    walk_at "v"
    exact k

local macro_rules | `(tactic| walk_at "vf") => `(tactic| first
  | ((with_reducible show VW.DGot _ _ _ _); exact dgotA (by walk_at "sq"))
  | ((with_reducible show VW.DPutD _ _ _ _ _); exact dputA (by walk_at "sp") (by first | assumption | walk_at "arith"))
  | ((with_reducible show VW.DPopD _ _ _ _ _); exact dpopA (by walk_at "sp") (by assumption)))

/-! ### what is held behind all -/
theorem fold_keys {rs : List Row} : ∀ (es : List Ev) (st : Pl), (st.2.map (·.1)).Nodup → ((es.foldl (plS rs) st).2.map (·.1)).Nodup ∧ (es.foldl (plS rs) st).2.length ≤ st.2.length + es.length
  | [], st, h => ⟨h, Nat.le_refl _⟩
  | e :: es, st, h => by
    have h1 : ((plS rs st e).2.map (·.1)).Nodup ∧ (plS rs st e).2.length ≤ st.2.length + 1 := by
      unfold plS
      split
      · exact ⟨one_keys h, one_len _ _⟩
      · exact ⟨h, Nat.le_succ _⟩
    obtain ⟨h2, h3⟩ := fold_keys es _ h1.1
    refine ⟨h2, ?_⟩
    rw [List.length_cons]
    have := h1.2
    show (es.foldl (plS rs) (plS rs st e)).2.length ≤ _
    omega
theorem play_keys {rs : List Row} {ps : List (Int × Int)} (gp : Prs ps) (hl : (evF 0 rs).length < 50) : ((play rs ps).2.map (·.1)).Nodup ∧ (play rs ps).2.length < 64 := by
  obtain ⟨h1, h2⟩ := fold_keys (rs := rs) (esort (evF 0 rs)) ([], ps) gp.nd
  have h3 := (esort_perm (evF 0 rs)).length_eq
  have h4 := gp.len
  exact ⟨h1, by unfold play; have h2 : (List.foldl (plS rs) ([], ps) (esort (evF 0 rs))).2.length ≤ ps.length + (esort (evF 0 rs)).length := h2; omega⟩
def spHeld : VW.SpD := VW.sp2 fun x y S P _ => ∃ ps rs, VW.PrX S x (ps.map pairD) ∧ y = .lst (rs.map Row.d) ∧ Prs ps ∧ Few rs ∧ (evF 0 rs).length < 50 ∧ ((evF 0 rs).map (·.mom)).Nodup ∧ P (.lst ((rowsW (play rs ps).2 0 none).map pairD)) S
theorem ok_held_behind (T : Txt w K mg A) : FnOk P w K mg base CX0 5 A.a_held_behind A.d_held_behind ["pairs", "asks"] (VW.upSp K (spHeld)) := by
  refine T.F_held_behind.ok sc_held_behind (VW.upSp.len VW.sp2_len) (fun cdv A' outer s H vs Q E hr h => ?_)
  obtain ⟨F, S, ds, P', PE, rh, hv, ⟨x1, x2, rfl, h⟩, lv, lx⟩ := h
  have hS0 := (fun (X : VW.Sto) (e : X = S) => e) S rfl
  haveI : VW.XLe K F E PE := ⟨lx⟩
  have hu := hu_of hr
  refine ⟨_, (pss_cons (ps_asg (pe_call (ok_answers_by_moments T) (hr.mono (by decide)) rfl T.m_answers_by_moments T.F_answers_by_moments.kp T.b_answers_by_moments .nil VW.pass0F (pa_cons (pv 0) (pa_cons (pv 1) pa_nil))) (pg_tup (n := 2) rfl (pgs_cons (pg_name (i := 2) sc_held_behind.nd rfl (Or.inl rfl)) (pgs_cons (pg_name (i := 3) sc_held_behind.nd rfl (Or.inl rfl)) pgs_nil))))
      (pss_one (ps_ret (pe_call (ok_rows_within T) (hr.mono (by decide)) rfl T.m_rows_within T.F_rows_within.kp T.b_rows_within .nil VW.pass0F (pa_cons (pv 3) (pa_cons pe_int (pa_cons pe_non pa_nil))))))), ?_⟩
  try dsimp only [cxOf, Cx.nox, Cx.wish, List.map]
  refine VW.body_less rh hv lv ?_
  obtain ⟨ps, rs, hx, rfl, gp, few, hel, nd, k⟩ := h
  obtain ⟨h1, h2⟩ := play_keys gp hel
  show VW.dSeq _ _ _ [some x1, some (.lst (rs.map Row.d)), none, none] S
  walk_at "v"
  intro f q S' nfq hf hq hS
  have hd : VW.DicK S' (.ref q) (VW.iK (kv (play rs ps).2)) := .inr ⟨q, rfl, hq⟩
  walk_at "v"
  exact ⟨show VW.toD V.non = oI none from rfl, h1, h2, S, hS, k⟩

/-- a comprehension that leaves all as it was, what is made told of the things behind the data -/
theorem lcD_of {α : Type} {w : VW.WD} {gd : VW.TGD} {ttd : VW.TTD} {ed : VW.TED} {vs : List Nat} {env : VW.EnvD} {S1 : VW.Sto} {P : VW.PV} (rs : List α) (g : α → Option VW.D) (hn : w.n = rs.length) (hl : rs.length < sizeLine)
    (hok : ∀ L acc, S1 L = none → w.ok (VW.sup S1 L (.lst acc)))
    (ht : ∀ (i : Nat) (a : α) (d : VW.D) (S : VW.Sto) (Zy : VW.D → VW.Sto → Prop) (Zn : VW.Sto → Prop), rs[i]? = some a → w.item i d → (∀ b o, S1 b = some o → S b = some o) → (∀ y, g a = some y → Zy y S) → (g a = none → Zn S) →
      gd d (VW.wipeD env vs) S fun env2 S2 => ttd env2 S2 fun b S3 => if b = true then ed env2 S3 Zy else Zn S3)
    (hp : P (.lst (rs.filterMap g)) S1) :
    VW.LcD w gd ttd ed vs env P S1 := ⟨fun L hL => by
  refine ⟨fun i acc S => acc = (rs.take i).filterMap g ∧ S = VW.sup S1 L (.lst acc), ⟨rfl, rfl⟩, fun i acc S _ ⟨_, e⟩ => ?_, fun i d acc S hlt hit ⟨e1, e2⟩ => ?_, fun acc S ⟨e1, e2⟩ => ?_⟩
  · subst e
    exact ⟨VW.sup_same, hok L _ hL⟩
  · have hlt2 : i < rs.length := by rw [← hn]; exact hlt
    have hx := List.getElem?_eq_getElem hlt2
    have ht1 : rs.take (i + 1) = rs.take i ++ [rs[i]] := by rw [List.take_add_one, hx]; rfl
    have hal : acc.length < sizeLine := by
      rw [e1]
      refine Nat.lt_of_le_of_lt (List.length_filterMap_le _ _) ?_
      rw [List.length_take]; omega
    refine ht i _ d S _ _ hx hit (fun a o e => by rw [e2, VW.sup_ne (VW.sne_of e hL)]; exact e) (fun y hy => ?_) (fun hy => ?_)
    · subst e2
      refine ⟨VW.sup_same, hal, ?_, by rw [VW.sup_sup]⟩
      rw [ht1, List.filterMap_append, ← e1, List.filterMap_cons, hy]; rfl
    · refine ⟨?_, e2⟩
      rw [ht1, List.filterMap_append, ← e1, List.filterMap_cons, hy]
      simp
  · subst e2
    rw [VW.sdel_sup hL, e1, hn, List.take_length]
    exact hp⟩

local macro_rules | `(tactic| walk_at "vf") => `(tactic| first
  | ((with_reducible show VW.DGot _ _ _ _); exact dgotA (by walk_at "sq"))
  | ((with_reducible show VW.DPutD _ _ _ _ _); exact dputA (by walk_at "sp") (by first | assumption | walk_at "arith"))
  | ((with_reducible show VW.DPopD _ _ _ _ _); exact dpopA (by walk_at "sp") (by assumption)))

/-! ### rows that stand alike -/
def dueF (F : List (Int × An2)) (i : Nat) (w : Wk) : An2 := match getG F (i : Int) with
  | some a => a
  | none => match w with
    | .ask _ _ => .non
    | .going _ _ _ _ => .rows []
def rowOk (F : List (Int × An2)) (i : Nat) (r : Row) : Bool := r.e.isNone || decide (r.an = dueF F i r.w)
def okFrom (F : List (Int × An2)) : Nat → List Row → Bool
  | _, [] => true
  | i, r :: rs => rowOk F i r && okFrom F (i + 1) rs
def moms (rs : List Row) : List Int := (evF 0 rs).map (·.mom)
def standB (rs : List Row) (ps : List (Int × Int)) : Bool := (rs.map timely).all id && (if (moms rs).Nodup then okFrom (play rs ps).1 0 rs else false)
theorem few_small {r : Row} (h : r.few) : r.small := by
  unfold Row.few at h; unfold Row.small
  split
  · trivial
  · rename_i hw
    rw [hw] at h
    exact Nat.lt_of_le_of_lt h (by decide)
def momG : VW.D → Option VW.D
  | .tup (.int m :: _) => some (.int m)
  | _ => none
theorem momG_of (es : List Ev) : (es.map Ev.d).filterMap momG = (es.map (·.mom)).map VW.D.int := by
  rw [List.filterMap_map, List.map_map, ← List.filterMap_eq_map]; rfl
def spStand : VW.SpD := VW.sp2 fun x y S P _ => ∃ ps rs, VW.PrX S x (ps.map pairD) ∧ y = .lst (rs.map Row.d) ∧ Prs ps ∧ Few rs ∧ (evF 0 rs).length < 50 ∧ P (.bl (standB rs ps)) S
theorem ok_stand_alike (T : Txt w K mg A) : FnOk P w K mg base CX0 5 A.a_stand_alike A.d_stand_alike ["pairs", "asks"] (VW.upSp K (spStand)) := by
  refine T.F_stand_alike.ok sc_stand_alike (VW.upSp.len VW.sp2_len) (fun cdv A' outer s H vs Q E hr h => ?_)
  obtain ⟨F, S, ds, P', PE, rh, hv, ⟨x1, x2, rfl, h⟩, lv, lx⟩ := h
  have hS0 := (fun (X : VW.Sto) (e : X = S) => e) S rfl
  haveI : VW.XLe K F E PE := ⟨lx⟩
  have hu := hu_of hr
  refine ⟨_, (pss_cons (ps_if (pt_not (pt_val (pe_callB (cr_all rfl) (by rfl) T.n_all (by decide +kernel) (pa_cons (VW.pe_kp (pe_lc (own := [("row", 13)]) rfl sc_stand_alike.nd (pi_list (pv 1)) (blkOk_by (own := [("row", 13)]) (N := n_stand_alike) (sc := defScope s_stand_alike) (by decide +kernel)) (fun _ _ _ _ _ => viaG (pg_name (i := 13) sc_stand_alike.nd rfl (Or.inl rfl)) (by first | rfl | (dsimp only [Cx.blk]; done) | (dsimp only [Cx.blk]; rfl))) (fun _ _ _ _ _ => viaT pts_nil (by first | rfl | (dsimp only [Cx.blk]; done) | (dsimp only [Cx.blk]; rfl))) (fun _ _ _ _ _ => viaE (pe_call (ok_is_timely T) (hr.mono (by decide)) rfl T.m_is_timely T.F_is_timely.kp T.b_is_timely .nil VW.pass0F (pa_cons (pv 13) pa_nil)) (by first | rfl | (dsimp only [Cx.blk]; done) | (dsimp only [Cx.blk]; rfl))))) pa_nil))))
      (pss_one (ps_ret pe_bl))
      pss_nil)
      (pss_cons (VW.ps_setLcK (i := 2) (own := [("event", 14)]) rfl sc_stand_alike.nd rfl rfl (sw_true rfl rfl rfl (by decide +kernel)) (pi_list (pe_call (ok_events_of T) (hr.mono (by decide)) rfl T.m_events_of T.F_events_of.kp T.b_events_of .nil VW.pass0F (pa_cons (pv 1) pa_nil))) (blkOk_by (own := [("event", 14)]) (N := n_stand_alike) (sc := defScope s_stand_alike) (by decide +kernel)) (fun _ _ _ _ _ => viaG (pg_name (i := 14) sc_stand_alike.nd rfl (Or.inl rfl)) (by first | rfl | (dsimp only [Cx.blk]; done) | (dsimp only [Cx.blk]; rfl))) (fun _ _ _ _ _ => viaT pts_nil (by first | rfl | (dsimp only [Cx.blk]; done) | (dsimp only [Cx.blk]; rfl))) (fun _ _ _ _ _ => viaE (pe_ix ix_tup (pv 14) pe_int (fun _ _ => rfl)) (by first | rfl | (dsimp only [Cx.blk]; done) | (dsimp only [Cx.blk]; rfl))))
      (pss_cons (ps_if (pt_cmpR op_ne (SetN.pe_lenSetN (by rfl) T.n_len (by rfl) T.n_set (pv 2)) (pe_callB VW.call_lenA (by rfl) T.n_len PySem.boot_len (pa_cons (pv 2) pa_nil)) (nomark _))
      (pss_one (ps_ret pe_bl))
      pss_nil)
      (pss_cons (ps_asg (pe_call (ok_answers_by_moments T) (hr.mono (by decide)) rfl T.m_answers_by_moments T.F_answers_by_moments.kp T.b_answers_by_moments .nil VW.pass0F (pa_cons (pv 0) (pa_cons (pv 1) pa_nil))) (pg_tup (n := 2) rfl (pgs_cons (pg_name (i := 3) sc_stand_alike.nd rfl (Or.inl rfl)) (pgs_cons (pg_name (i := 4) sc_stand_alike.nd rfl (Or.inl rfl)) pgs_nil))))
      (pss_cons (ps_for PassesOwn.never rfl (pi_enum (by rfl) T.n_enumerate (pa_cons (pv 1) pa_nil)) (pg_tup (n := 2) rfl (pgs_cons (pg_name (i := 5) sc_stand_alike.nd rfl (Or.inl rfl)) (pgs_cons (pg_tup (n := 6) rfl (pgs_cons (pg_name (i := 6) sc_stand_alike.nd rfl (Or.inl rfl)) (pgs_cons (pg_name (i := 7) sc_stand_alike.nd rfl (Or.inl rfl)) (pgs_cons (pg_name (i := 8) sc_stand_alike.nd rfl (Or.inl rfl)) (pgs_cons (pg_name (i := 9) sc_stand_alike.nd rfl (Or.inl rfl)) (pgs_cons (pg_name (i := 10) sc_stand_alike.nd rfl (Or.inl rfl)) (pgs_cons (pg_name (i := 11) sc_stand_alike.nd rfl (Or.inl rfl)) pgs_nil))))))) pgs_nil)))
      (pss_cons (ps_set (i := 12) sc_stand_alike.nd rfl (Or.inl rfl) (pe_dget2 hu (pv 3) (pv 5) (pe_ifExp (pt_cmpR op_eq (pe_ix ix_tup (pv 7) pe_int (fun _ _ => rfl)) pe_str (nomark _)) (VW.pe_kp (pe_lst pa_nil)) pe_non) ⟨rfl, rfl, rfl, rfl⟩))
      (pss_one (ps_if (PW.pt (pw_and (pt_cmpR VW.op_notNA (pv 10) pe_non (nomark _)) (pw_and1 (pt_not (pt_val (pe_call (ok_is_same T) (hr.mono (by decide)) rfl T.m_is_same T.F_is_same.kp T.b_is_same .nil VW.pass0F (pa_cons (pv 11) (pa_cons (pv 12) pa_nil))))))))
      (pss_one (ps_ret pe_bl))
      pss_nil))))
      (pss_one (ps_ret pe_bl))))))), ?_⟩
  try dsimp only [cxOf, Cx.nox, Cx.wish, List.map]
  refine VW.body_less rh hv lv ?_
  obtain ⟨ps, rs, hx, rfl, gp, few, hel, k⟩ := h
  have hl := few.len
  show VW.dSeq _ _ _ [some x1, some (.lst (rs.map Row.d)), none, none, none, none, none, none, none, none, none, none, none, none, none] S
  unfold standB at k
  walk_at "v"
  refine lcD_of rs (fun r => some (.bl (timely r))) (List.length_map ..) (by rw [sizeLine_eq]; omega) (fun L acc hL => Or.inl rfl) (fun i r d S3 Zy Zn hr hd hS hy hn => ?_) ?_
  · have hd : (rs.map Row.d)[i]? = some d := hd
    rw [List.getElem?_map, hr] at hd
    cases hd
    have fs := few_small (few.all r (List.mem_of_getElem? hr))
    show VW.kName 13 r.d _ S3 _
    walk_at "v"
    exact hy _ rfl
  rw [show rs.filterMap (fun r => some (VW.D.bl (timely r))) = (rs.map timely).map VW.D.bl from by rw [List.map_map, ← List.filterMap_eq_map]; rfl]
  walk_at "v"
  cases ct : (rs.map timely).all id with
  | false =>
    rw [ct, Bool.false_and] at k
    show (if (!false) = true then _ else _)
    walk_at "v"
    exact VW.less_id k
  | true =>
    rw [ct, Bool.true_and] at k
    show (if (!true) = true then _ else _)
    walk_at "v"
    have hes : ((evF 0 rs).map Ev.d).length < sizeLine := by rw [List.length_map, sizeLine_eq]; omega
    refine VW.lcD_pure ((evF 0 rs).map Ev.d) momG rfl (fun i d e => e) hes (fun L acc hL => Or.inl rfl) ?_ ?_
    · intro x S3 Zy Zn hx hS hy hn
      obtain ⟨⟨m, n, p⟩, hm, rfl⟩ := List.mem_map.mp hx
      have hy2 := hy (.int m) rfl
      show VW.kName 14 (.tup [.int m, .int (n : Int), oP p]) _ S3 _
      walk_at "v"
      exact hy2
    rw [momG_of]
    have hml : (moms rs).length < 50 := by unfold moms; rw [List.length_map]; exact hel
    have hmm : ((evF 0 rs).map (·.mom)) = moms rs := rfl
    rw [hmm]
    walk_at "v"
    have hlm : (((moms rs).map VW.D.int).length : Int) = ((moms rs).length : Int) := by rw [List.length_map]
    rw [hlm]
    by_cases nd : (moms rs).Nodup
    · rw [if_pos nd] at k
      rw [SetN.cnt_nodup nd, decide_eq_true rfl, show (!true) = false from rfl]
      walk_at "v"
      intro f q S1 nfq hf hq hS1
      walk_at "v"
      generalize (play rs ps).1 = F at hf k
      refine VW.ForD.mk ⟨fun j env S4 => Wrap (∃ (v5 v6 v7 v8 v9 v10 v11 v12 v13 v14 : Option VW.D), env = [some x1, some (.lst (rs.map Row.d)), some (.lst ((moms rs).map VW.D.int)), some (.ref f), some (.ref q), v5, v6, v7, v8, v9, v10, v11, v12, v13, v14] ∧ S4 = S1 ∧ okFrom F 0 rs = okFrom F j (rs.drop j)), ?_, fun _ _ _ _ _ => Or.inl rfl, ?_, ?_⟩
      · exact ⟨_, _, _, _, _, _, _, _, _, _, rfl, rfl, rfl⟩
      · rintro j x env S4 hj hx ⟨v5, v6, v7, v8, v9, v10, v11, v12, v13, v14, rfl, rfl, ho⟩
        obtain ⟨d, hd, rfl⟩ := hx
        rw [List.getElem?_map] at hd
        obtain ⟨r, hr2, rfl⟩ := Option.map_eq_some_iff.mp hd
        have hjl := (List.getElem?_eq_some_iff.mp hr2).1
        have edr : rs.drop j = r :: rs.drop (j + 1) := by
          rw [List.drop_eq_getElem_cons hjl]
          congr 1
          have := List.getElem?_eq_getElem hjl
          rw [hr2] at this; cases this; rfl
        rw [edr] at ho
        have ho : okFrom F 0 rs = (rowOk F j r && okFrom F (j + 1) (rs.drop (j + 1))) := ho
        have hdg : VW.DGot S4 (.ref f) (.int (j : Int)) ((getG F (j : Int)).map An2.d) := dgotG (.inr ⟨f, rfl, hf⟩)
        obtain ⟨nm, w, b, e, an⟩ := r
        cases w with
        | ask ka m =>
          obtain ⟨z, tl, ad, a0, ez⟩ := ask_word ka
          show VW.kTup _ _ (.tup [.int (j : Int), .tup [.str nm, ka.d, oI b, oI m, oI e, an.d]]) _ _ _
          walk_at "v"
          rw [ez]
          walk_at "v"
          have hdue : ((getG F (j : Int)).map An2.d).getD (VW.toD V.non) = (dueF F j (.ask ka m)).d := by unfold dueF; cases getG F (j : Int) <;> rfl
          rw [hdue]
          cases e with
          | none =>
            rw [show (!VW.isNon (oI none)) = false from rfl]
            walk_at "v"
            exact ⟨_, _, _, _, _, _, _, _, _, _, rfl, rfl, ho⟩
          | some e =>
            rw [show (!VW.isNon (oI (some e))) = true from rfl]
            have ho : okFrom F 0 rs = (decide (an = dueF F j (.ask ka m)) && okFrom F (j + 1) (rs.drop (j + 1))) := ho
            walk_at "v"
            cases cs : decide (an = dueF F j (.ask ka m)) with
            | true =>
              rw [cs, Bool.true_and] at ho
              rw [show (!true) = false from rfl]
              walk_at "v"
              exact ⟨_, _, _, _, _, _, _, _, _, _, rfl, rfl, ho⟩
            | false =>
              rw [cs, Bool.false_and] at ho
              rw [ho] at k
              rw [show (!false) = true from rfl]
              walk_at "v"
              exact ⟨S, hS1, k⟩
        | going low hi back pcs =>
          show VW.kTup _ _ (.tup [.int (j : Int), .tup [.str nm, .tup [.str "going", .int low, oI hi, .bl back], oI b, .lst (pcs.map Pc.d), oI e, an.d]]) _ _ _
          walk_at "v"
          have hdue : ((getG F (j : Int)).map An2.d).getD (VW.D.lst []) = (dueF F j (.going low hi back pcs)).d := by unfold dueF; cases getG F (j : Int) <;> rfl
          rw [hdue]
          cases e with
          | none =>
            rw [show (!VW.isNon (oI none)) = false from rfl]
            walk_at "v"
            exact ⟨_, _, _, _, _, _, _, _, _, _, rfl, rfl, ho⟩
          | some e =>
            rw [show (!VW.isNon (oI (some e))) = true from rfl]
            have ho : okFrom F 0 rs = (decide (an = dueF F j (.going low hi back pcs)) && okFrom F (j + 1) (rs.drop (j + 1))) := ho
            walk_at "v"
            cases cs : decide (an = dueF F j (.going low hi back pcs)) with
            | true =>
              rw [cs, Bool.true_and] at ho
              rw [show (!true) = false from rfl]
              walk_at "v"
              exact ⟨_, _, _, _, _, _, _, _, _, _, rfl, rfl, ho⟩
            | false =>
              rw [cs, Bool.false_and] at ho
              rw [ho] at k
              rw [show (!false) = true from rfl]
              walk_at "v"
              exact ⟨S, hS1, k⟩
      · rintro env S4 ⟨v5, v6, v7, v8, v9, v10, v11, v12, v13, v14, rfl, rfl, ho⟩
        rw [show rs.drop (VW.wE (VW.D.lst (rs.map Row.d)) (rs.map Row.d)).n = [] from by show rs.drop (rs.map Row.d).length = []; rw [List.length_map, List.drop_length]] at ho
        have ho : okFrom F 0 rs = true := ho
        rw [ho] at k
        walk_at "v"
        exact ⟨S, hS1, k⟩
    · rw [if_neg nd] at k
      have := SetN.cnt_dup nd
      rw [decide_eq_false (by omega), show (!false) = true from rfl]
      walk_at "v"
      exact VW.less_id k

local macro_rules | `(tactic| walk_at "vf") => `(tactic| first
  | ((with_reducible show VW.DGot _ _ _ _); exact dgotA (by walk_at "sq"))
  | ((with_reducible show VW.DPutD _ _ _ _ _); exact dputA (by walk_at "sp") (by first | assumption | walk_at "arith"))
  | ((with_reducible show VW.DPopD _ _ _ _ _); exact dpopA (by walk_at "sp") (by assumption)))

/-! ### the law: rows within bounds -/
def pn (p : Int × Int) : List Int := [p.1, p.2]
structure KM (m : List (Int × Int)) : Prop where
  len : m.length < 64
  nd : (m.map (·.1)).Nodup
  bd : ∀ p ∈ m, (0 ≤ p.1 ∧ p.1 < 1000000) ∧ 0 ≤ p.2 ∧ p.2 < 1000000
theorem pn_sorted {xs : List (Int × Int)} (g : KM xs) {mss : List (List Int)} (hp : mss.Perm (xs.map pn)) (hs : mss.Pairwise fun n m => TS.code 1000000 n ≤ TS.code 1000000 m) : mss.map VW.tupD = (isort xs).map pairD := by
  obtain ⟨l, hl, e⟩ := perm_lift _ hp xs rfl
  subst e
  have hu : Up l := by
    rw [List.pairwise_map] at hs
    have nd2 : (l.map (·.1)).Nodup := (hl.map _).nodup_iff.mpr g.nd
    have bl : ∀ p ∈ l, (0 ≤ p.1 ∧ p.1 < 1000000) ∧ 0 ≤ p.2 ∧ p.2 < 1000000 := fun p hp => g.bd p (hl.mem_iff.mp hp)
    rw [List.nodup_iff_pairwise_ne, List.pairwise_map] at nd2
    unfold Up
    rw [List.pairwise_iff_getElem] at hs nd2 ⊢
    intro i j hi hj hij
    have a := hs i j hi hj hij
    have b := nd2 i j hi hj hij
    have c := bl _ (List.getElem_mem hi)
    have d := bl _ (List.getElem_mem hj)
    generalize l[i] = p at a b c ⊢
    generalize l[j] = q at a b d ⊢
    have a : p.1 * 1000000 ^ 1 + (p.2 * 1000000 ^ 0 + 0) ≤ q.1 * 1000000 ^ 1 + (q.2 * 1000000 ^ 0 + 0) := a
    omega
  rw [up_uniq (hl.trans (isort_perm xs).symm) hu (isort_up g.nd), List.map_map]; rfl
theorem rowsW_fm (m : List (Int × Int)) (low : Int) (hi : Option Int) : (isort m).filterMap (fun p => if inB low hi p.1 = true then some (pairD p) else none) = (rowsW m low hi).map pairD := by
  unfold rowsW
  generalize isort m = l
  induction l with
  | nil => rfl
  | cons p l ih =>
    by_cases c : inB low hi p.1 = true
    · rw [List.filterMap_cons_some (b := pairD p) (by rw [if_pos c]), List.filter_cons_of_pos (p := fun p : Int × Int => inB low hi p.1) c, ih]; rfl
    · rw [List.filterMap_cons_none (by rw [if_neg c]), List.filter_cons_of_neg (p := fun p : Int × Int => inB low hi p.1) c, ih]
def spWithinL : VW.SpD := VW.sp3 fun x y z S P _ => ∃ m low hi, x = .lst (m.map pairD) ∧ y = .int low ∧ z = oI hi ∧ KM m ∧ P (.lst ((rowsW m low hi).map pairD)) S
theorem ok_within (T : Txt w K mg A) : FnOk P w K mg base CX0 1 A.a_within A.d_within ["_law_rows", "_law_first", "_law_end"] (VW.upSp K (spWithinL)) := by
  refine T.F_within.ok sc_within (VW.upSp.len VW.sp3_len) (fun cdv A' outer s H vs Q E hr h => ?_)
  obtain ⟨F, S, ds, P', PE, rh, hv, ⟨x1, x2, x3, rfl, h⟩, lv, lx⟩ := h
  haveI : VW.XLe K F E PE := ⟨lx⟩
  have hu := hu_of hr
  refine ⟨_, (pss_one (ps_ret (VW.pe_kp (pe_lc (own := [("_law_row", 3)]) rfl sc_within.nd (pi_list (pe_callB (cr_sortT (d := 2) (B := 1000000) (by decide)) (by rfl) T.n_sorted (by decide +kernel) (pa_cons (pv 0) pa_nil))) (blkOk_by (own := [("_law_row", 3)]) (N := n_within) (sc := defScope s_within) (by decide +kernel)) (fun _ _ _ _ _ => viaG (pg_name (i := 3) sc_within.nd rfl (Or.inl rfl)) (by first | rfl | (dsimp only [Cx.blk]; done) | (dsimp only [Cx.blk]; rfl))) (fun _ _ _ _ _ => viaT (pts_one (PW.pt (pw_and (pt_cmpR op_ge (pe_ix ix_tup (pv 3) pe_int (fun _ _ => rfl)) (pv 1) (nomark _)) (pw_and1 (PW.pt (pw_or (pt_cmpR VW.op_isNA (pv 2) pe_non (nomark _)) (pw_or1 (pt_cmpR op_lt (pe_ix ix_tup (pv 3) pe_int (fun _ _ => rfl)) (pv 2) (nomark _))))))))) (by first | rfl | (dsimp only [Cx.blk]; done) | (dsimp only [Cx.blk]; rfl))) (fun _ _ _ _ _ => viaE (pv 3) (by first | rfl | (dsimp only [Cx.blk]; done) | (dsimp only [Cx.blk]; rfl))))))), ?_⟩
  try dsimp only [cxOf, Cx.nox, Cx.wish, List.map]
  refine VW.body_up rh hv lv ?_
  obtain ⟨m, low, hi, rfl, rfl, rfl, g, k⟩ := h
  have hml := g.len
  have hsl : (isort m).length < sizeLine := by rw [(isort_perm m).length_eq, sizeLine_eq]; omega
  show VW.dRet _ _ [some (.lst (m.map pairD)), some (.int low), some (oI hi), none] S
  walk_at "v"
  refine ⟨(Or.inl (by rw [List.map_map]; rfl) : VW.SeqL S _ ((m.map pn).map VW.tupD)), by rw [List.length_map]; exact hml, fun ns hns => ?_, fun mss hp hs => ?_⟩
  · obtain ⟨p, hp, rfl⟩ := List.mem_map.mp hns
    have h := g.bd p hp
    refine ⟨rfl, fun m hm => ?_⟩
    have hm : m ∈ [p.1, p.2] := hm
    simp only [List.mem_cons, List.not_mem_nil, or_false] at hm
    omega
  rw [pn_sorted g hp hs]
  walk_at "v"
  refine lcD_of (isort m) (fun p => if inB low hi p.1 = true then some (pairD p) else none) (List.length_map ..) hsl (fun L acc hL => Or.inl rfl) (fun i p d S3 Zy Zn hr hd hS hy hn => ?_) ?_
  · have hd : ((isort m).map pairD)[i]? = some d := hd
    rw [List.getElem?_map, hr] at hd
    cases hd
    show VW.kName 3 (.tup [.int p.1, .int p.2]) _ S3 _
    walk_at "v"
    refine ite2 (fun c => ?_) (fun c => ?_)
    · cases hi with
      | none =>
        have ib : inB low none p.1 = true := by unfold inB; rw [c]; rfl
        rw [ib] at hy
        walk_at "v"
        exact hy _ rfl
      | some h =>
        have ib : inB low (some h) p.1 = decide (p.1 < h) := by unfold inB; rw [c]; rfl
        rw [ib] at hy hn
        walk_at "v"
        refine ite2 (fun c2 => ?_) (fun c2 => ?_)
        · rw [c2] at hy
          walk_at "v"
          exact hy _ rfl
        · rw [Bool.eq_false_iff.mpr c2] at hn
          walk_at "v"
          exact hn rfl
    · have ib : inB low hi p.1 = false := by unfold inB; rw [Bool.eq_false_iff.mpr c]; rfl
      rw [ib] at hn
      walk_at "v"
      exact hn rfl
  rw [rowsW_fm]
  exact k
/-! ### the law: pieces that abut -/
def spAbutL : VW.SpD := VW.sp2 fun x y S P _ => ∃ low hi back ps, x = .tup [.int low, oI hi, .bl back] ∧ y = .lst (ps.map Pc.d) ∧ ps.length < 1000 ∧ P (.bl (abutG low hi back ps)) S
theorem ok_law_abut (T : Txt w K mg A) : FnOk P w K mg base CX0 1 A.a_law_abut A.d_law_abut ["_law_bounds", "_law_pieces"] (VW.upSp K (spAbutL)) := by
  refine T.F_law_abut.ok sc_law_abut (VW.upSp.len VW.sp2_len) (fun cdv A' outer s H vs Q E hr h => ?_)
  obtain ⟨F, S, ds, P', PE, rh, hv, ⟨x1, x2, rfl, h⟩, lv, lx⟩ := h
  haveI : VW.XLe K F E PE := ⟨lx⟩
  have hu := hu_of hr
  refine ⟨_, (pss_cons (ps_asg (pv 0) (pg_tup (n := 3) rfl (pgs_cons (pg_name (i := 2) sc_law_abut.nd rfl (Or.inl rfl)) (pgs_cons (pg_name (i := 3) sc_law_abut.nd rfl (Or.inl rfl)) (pgs_cons (pg_name (i := 4) sc_law_abut.nd rfl (Or.inl rfl)) pgs_nil)))))
      (VW.cutAt (ps_if (PW.pt (pw_and (pt_cmpR VW.op_notNA (pv 3) pe_non (nomark _)) (pw_and1 (pt_cmpR op_le (pv 3) (pv 2) (nomark _)))))
      (pss_one (ps_ret (pe_cmpR (op_eqL0 hr.units) (pv 1) (VW.pe_kp (pe_lst pa_nil)) (nomark _))))
      pss_nil)
      (pss_cons (ps_set (i := 5) sc_law_abut.nd rfl (Or.inl rfl) (pv 2))
      (pss_cons (ps_for PassesOwn.never rfl (pi_list (pe_ix ix_list (VW.pe_kp (pe_lst (pa_cons (pv 1) (pa_cons (pe_rvL (pv 1)) pa_nil)))) (pe_callTy VW.call_int1A (by rfl) T.n_int (by decide +kernel) (pa_cons (pv 4) pa_nil)) (fun _ _ => rfl))) (pg_tup (n := 3) rfl (pgs_cons (pg_name (i := 6) sc_law_abut.nd rfl (Or.inl rfl)) (pgs_cons (pg_name (i := 7) sc_law_abut.nd rfl (Or.inl rfl)) (pgs_cons (pg_name (i := 8) sc_law_abut.nd rfl (Or.inl rfl)) pgs_nil))))
      (pss_cons (ps_if (PW.pt (pw_or (pt_cmpR VW.op_isNA (pv 5) pe_non (nomark _)) (pw_or (pt_cmpR (VW.op_nePl hr.units) (pv 6) (pv 5) (nomark _)) (pw_or1 (PW.pt (pw_and (pt_cmpR VW.op_notNA (pv 7) pe_non (nomark _)) (pw_and1 (pt_cmpR op_le (pv 7) (pv 6) (nomark _)))))))))
      (pss_one (ps_ret pe_bl))
      pss_nil)
      (pss_one (ps_set (i := 5) sc_law_abut.nd rfl (Or.inl rfl) (pv 7)))))
      (pss_one (ps_ret (pe_and (pe_cmpR (op_neL0 hr.units) (pv 1) (VW.pe_kp (pe_lst pa_nil)) (nomark _)) (pe_one (pe_cmpR (VW.op_eqPl hr.units) (pv 5) (pv 3) (nomark _)))))))))), ?_⟩
  try dsimp only [cxOf, Cx.nox, Cx.wish, List.map]
  refine VW.body_up rh hv lv ?_
  obtain ⟨low, hi, back, ps, rfl, rfl, hl, k⟩ := h
  have hl' : (ps.map Pc.d).length < sizeLine := by rw [List.length_map, sizeLine_eq]; omega
  show VW.dSeq _ _ _ [some (.tup [.int low, oI hi, .bl back]), some (.lst (ps.map Pc.d)), none, none, none, none, none, none, none] S
  unfold abutG at k
  have em : (ps.map Pc.d).isEmpty = ps.isEmpty := by cases ps <;> rfl
  walk_at "v"
  refine ⟨fun env S2 => env = [some (.tup [.int low, oI hi, .bl back]), some (.lst (ps.map Pc.d)), some (.int low), some (oI hi), some (.bl back), none, none, none, none] ∧ S2 = S ∧ ¬ ∃ h, hi = some h ∧ h ≤ low, ?_, ?_⟩
  · walk_at "v"
    cases hi with
    | none =>
      rw [show (!VW.isNon (oI none)) = false from rfl]
      walk_at "v"
      exact fun z => by obtain ⟨h, e, _⟩ := z; cases e
    | some h =>
      rw [show (!VW.isNon (oI (some h))) = true from rfl]
      show (if true = true then _ else _)
      walk_at "v"
      refine ite2 (fun c => ?_) (fun c => ?_)
      · have c : h ≤ low := of_decide_eq_true c
        rw [if_pos ⟨h, rfl, c⟩] at k
        walk_at "v"
        rw [em]
        exact k
      · have c : ¬ h ≤ low := fun z => c (decide_eq_true z)
        walk_at "v"
        exact fun z => by obtain ⟨h2, e, h3⟩ := z; cases e; exact c h3
  · rintro env S2 ⟨rfl, rfl, hn⟩
    rw [if_neg hn] at k
    obtain ⟨qs, ex, el, hl2⟩ : ∃ qs : List Pc, atI [VW.D.lst (ps.map Pc.d), .lst ((ps.map Pc.d).reverse)] (if back then 1 else 0) = some (.lst (qs.map Pc.d)) ∧ qs = (if back then ps.reverse else ps) ∧ qs.length < 1000 := by
      cases back with
      | true => exact ⟨ps.reverse, by rw [List.map_reverse]; rfl, rfl, by rw [List.length_reverse]; exact hl⟩
      | false => exact ⟨ps, rfl, rfl, hl⟩
    have el2 : qs.isEmpty = ps.isEmpty := by rw [el]; cases back <;> simp
    rw [← el, ← el2] at k
    have hq' : (qs.map Pc.d).length < sizeLine := by rw [List.length_map, sizeLine_eq]; omega
    have emq : ps.isEmpty = qs.isEmpty := el2.symm
    walk_at "v"
    clear ex el
    refine VW.ForD.mk ⟨fun j env S4 => Wrap (∃ (at1 : Option Int) (v8 v9 v10 : Option VW.D), env = [some (.tup [.int low, oI hi, .bl back]), some (.lst (ps.map Pc.d)), some (.int low), some (oI hi), some (.bl back), some (oI at1), v8, v9, v10] ∧ S4 = S2 ∧ abutL (some low) qs hi = abutL at1 (qs.drop j) hi), ?_, fun _ _ _ _ _ => Or.inl rfl, ?_, ?_⟩
    · exact ⟨some low, _, _, _, rfl, rfl, rfl⟩
    · rintro j x env S4 hj hx ⟨at1, v8, v9, v10, rfl, rfl, ha⟩
      obtain ⟨p, hp, rfl⟩ : ∃ p, qs[j]? = some p ∧ Pc.d p = x := by
        have hx : (qs.map Pc.d)[j]? = some x := hx
        rw [List.getElem?_map] at hx
        exact Option.map_eq_some_iff.mp hx
      have hjl := (List.getElem?_eq_some_iff.mp hp).1
      have edr : qs.drop j = p :: qs.drop (j + 1) := by
        rw [List.drop_eq_getElem_cons hjl]
        congr 1
        have := List.getElem?_eq_getElem hjl
        rw [hp] at this; cases this; rfl
      rw [edr] at ha
      have ne : qs.isEmpty = false := by cases qs with
        | nil => cases hjl
        | cons _ _ => rfl
      rw [ne] at k
      have ha : abutL (some low) qs hi = if at1 = some p.fst ∧ ∀ l, p.lst = some l → p.fst < l then abutL p.lst (qs.drop (j + 1)) hi else false := ha
      show VW.kTup _ _ (.tup [.int p.fst, oI p.lst, .int p.mom]) _ S4 _
      have bad : ¬ (at1 = some p.fst ∧ ∀ l, p.lst = some l → p.fst < l) → P' (.bl false) S4 := fun c => by
        rw [ha, if_neg c] at k; exact k
      walk_at "v"
      cases at1 with
      | none =>
        rw [show VW.isNon (oI none) = true from rfl]
        walk_at "v"
        exact bad fun h => by cases h.1
      | some at1 =>
        rw [show VW.isNon (oI (some at1)) = false from rfl]
        walk_at "v"
        have e1 : VW.eqP (VW.pyS S4 (.int p.fst)) (VW.pyS S4 (oI (some at1))) = decide (some p.fst = some at1) := eq_oI (a := some p.fst) (b := some at1)
        rw [e1]
        by_cases c1 : p.fst = at1
        · rw [decide_eq_true (by rw [c1]), show (!true) = false from rfl]
          walk_at "v"
          cases el : p.lst with
          | none =>
            rw [show (!VW.isNon (oI none)) = false from rfl]
            walk_at "v"
            refine ⟨p.lst, _, _, _, by rw [el]; rfl, rfl, ?_⟩
            rw [ha, if_pos ⟨by rw [c1], fun l h => by rw [el] at h; cases h⟩]
          | some l =>
            rw [show (!VW.isNon (oI (some l))) = true from rfl]
            walk_at "v"
            refine ite2 (fun c2 => ?_) (fun c2 => ?_)
            · have c2 : l ≤ p.fst := of_decide_eq_true c2
              walk_at "v"
              exact bad fun h => by have := h.2 l el; omega
            · have c2 : ¬ l ≤ p.fst := fun z => c2 (decide_eq_true z)
              walk_at "v"
              refine ⟨p.lst, _, _, _, by rw [el]; rfl, rfl, ?_⟩
              rw [ha, if_pos ⟨by rw [c1], fun l2 h => by rw [el] at h; cases h; omega⟩]
        · rw [decide_eq_false (fun h => c1 (Option.some.inj h)), show (!false) = true from rfl]
          walk_at "v"
          exact bad fun h => c1 (Option.some.inj h.1).symm
    · rintro env S4 ⟨at1, v8, v9, v10, rfl, rfl, ha⟩
      rw [show qs.drop (VW.wL (VW.D.lst (qs.map Pc.d)) (qs.map Pc.d)).n = [] from by show qs.drop (qs.map Pc.d).length = []; rw [List.length_map, List.drop_length]] at ha
      have ha : abutL (some low) qs hi = decide (at1 = hi) := ha
      rw [ha] at k
      walk_at "v"
      rw [em, emq]
      cases ne : qs.isEmpty with
      | true =>
        rw [ne] at k
        rw [show (!true) = false from rfl] at k ⊢
        walk_at "v"
        exact k
      | false =>
        rw [ne] at k
        rw [show (!false) = true from rfl] at k ⊢
        have o1 := oI_ok S4 at1
        have o2 := oI_ok S4 hi
        walk_at "v"
        rw [eq_oI]
        exact k

local macro_rules | `(tactic| walk_at "vf") => `(tactic| first
  | ((with_reducible show VW.DGot _ _ _ _); exact dgotA (by walk_at "sq"))
  | ((with_reducible show VW.DPutD _ _ _ _ _); exact dputA (by walk_at "sp") (by first | assumption | walk_at "arith"))
  | ((with_reducible show VW.DPopD _ _ _ _ _); exact dpopA (by walk_at "sp") (by assumption)))

/-! ### the law: moments -/
def momsL : Option Int → List Int
  | none => []
  | some i => [i]
def lawMoms (r : Row) : List Int := match r.w with
  | .ask _ m => momsL m
  | .going _ _ _ ps => if r.e.isSome = true then ps.map Pc.mom else []
theorem evR_moms (i : Nat) (r : Row) : (evR i r).map (·.mom) = lawMoms r := by
  obtain ⟨nm, w, b, e, an⟩ := r
  cases w with
  | ask k m => cases m <;> rfl
  | going l h bk ps =>
    cases e with
    | none => rfl
    | some e =>
      show (ps.map fun p => (⟨p.mom, i, some p⟩ : Ev)).map (·.mom) = ps.map Pc.mom
      rw [List.map_map]; rfl
theorem lawMoms_len {r : Row} (h : r.few) : (lawMoms r).length ≤ 20 := by rw [← evR_moms 0, List.length_map]; exact evR_len h
def spMomsL : VW.SpD := VW.sp1 fun x S P _ => ∃ r, x = Row.d r ∧ r.few ∧ P (.lst ((lawMoms r).map VW.D.int)) S
theorem ok_moments (T : Txt w K mg A) : FnOk P w K mg base CX0 1 A.a_moments A.d_moments ["_law_row"] (VW.upSp K (spMomsL)) := by
  refine T.F_moments.ok sc_moments (VW.upSp.len VW.sp1_len) (fun cdv A' outer s H vs Q E hr h => ?_)
  obtain ⟨F, S, ds, P', PE, rh, hv, ⟨x1, rfl, h⟩, lv, lx⟩ := h
  haveI : VW.XLe K F E PE := ⟨lx⟩
  have hu := hu_of hr
  refine ⟨_, (pss_cons (ps_asg (pv 0) (pg_tup (n := 6) rfl (pgs_cons (pg_name (i := 1) sc_moments.nd rfl (Or.inl rfl)) (pgs_cons (pg_name (i := 2) sc_moments.nd rfl (Or.inl rfl)) (pgs_cons (pg_name (i := 3) sc_moments.nd rfl (Or.inl rfl)) (pgs_cons (pg_name (i := 4) sc_moments.nd rfl (Or.inl rfl)) (pgs_cons (pg_name (i := 5) sc_moments.nd rfl (Or.inl rfl)) (pgs_cons (pg_name (i := 6) sc_moments.nd rfl (Or.inl rfl)) pgs_nil))))))))
      (pss_cons (ps_if (pt_cmpR op_eq (pe_ix ix_tup (pv 2) pe_int (fun _ _ => rfl)) pe_str (nomark _))
      (pss_one (ps_ret (pe_ix ix_list (VW.pe_kp (pe_lst (pa_cons (VW.pe_kp (pe_lst pa_nil)) (pa_cons (VW.pe_kp (pe_lc (own := [("_law_piece", 7)]) rfl sc_moments.nd (pi_list (pv 4)) (blkOk_by (own := [("_law_piece", 7)]) (N := n_moments) (sc := defScope s_moments) (by decide +kernel)) (fun _ _ _ _ _ => viaG (pg_name (i := 7) sc_moments.nd rfl (Or.inl rfl)) (by first | rfl | (dsimp only [Cx.blk]; done) | (dsimp only [Cx.blk]; rfl))) (fun _ _ _ _ _ => viaT pts_nil (by first | rfl | (dsimp only [Cx.blk]; done) | (dsimp only [Cx.blk]; rfl))) (fun _ _ _ _ _ => viaE (pe_ix ix_tup (pv 7) pe_int (fun _ _ => rfl)) (by first | rfl | (dsimp only [Cx.blk]; done) | (dsimp only [Cx.blk]; rfl))))) pa_nil)))) (pe_callTy VW.call_int1A (by rfl) T.n_int (by decide +kernel) (pa_cons (pe_cmpR VW.op_notNA (pv 5) pe_non (nomark _)) pa_nil)) (fun _ _ => rfl))))
      pss_nil)
      (pss_one (ps_ret (pe_ix ix_list (VW.pe_kp (pe_lst (pa_cons (VW.pe_kp (pe_lst pa_nil)) (pa_cons (VW.pe_kp (pe_lst (pa_cons (pv 4) pa_nil))) pa_nil)))) (pe_callTy VW.call_int1A (by rfl) T.n_int (by decide +kernel) (pa_cons (pe_cmpR VW.op_notNA (pv 4) pe_non (nomark _)) pa_nil)) (fun _ _ => rfl)))))), ?_⟩
  try dsimp only [cxOf, Cx.nox, Cx.wish, List.map]
  refine VW.body_up rh hv lv ?_
  obtain ⟨⟨nm, w, b, e, an⟩, rfl, hf, k⟩ := h
  cases w with
  | ask ka m =>
    obtain ⟨z, tl, ad, a0, ez⟩ := ask_word ka
    show VW.dSeq _ _ _ [some (.tup [.str nm, ka.d, oI b, oI m, oI e, an.d]), none, none, none, none, none, none, none] S
    have k : P' (.lst ((momsL m).map VW.D.int)) S := k
    cases m with
    | none =>
      show VW.dSeq _ _ _ [some (.tup [.str nm, ka.d, oI b, .non, oI e, an.d]), none, none, none, none, none, none, none] S
      walk_at "v"
      rw [ez]
      walk_at "v"
      exact k
    | some m =>
      show VW.dSeq _ _ _ [some (.tup [.str nm, ka.d, oI b, .int m, oI e, an.d]), none, none, none, none, none, none, none] S
      walk_at "v"
      rw [ez]
      walk_at "v"
      exact k
  | going low hi back ps =>
    show VW.dSeq _ _ _ [some (.tup [.str nm, .tup [.str "going", .int low, oI hi, .bl back], oI b, .lst (ps.map Pc.d), oI e, an.d]), none, none, none, none, none, none, none] S
    have hf : ps.length ≤ 20 := hf
    walk_at "v"
    refine lcD_of ps (fun p => some (.int p.mom)) (List.length_map ..) (by rw [sizeLine_eq]; omega) (fun L acc hL => Or.inl rfl) (fun i p d S3 Zy Zn hr hd hS hy hn => ?_) ?_
    · have hd : (ps.map Pc.d)[i]? = some d := hd
      rw [List.getElem?_map, hr] at hd
      cases hd
      show VW.kName 7 (.tup [.int p.fst, oI p.lst, .int p.mom]) _ S3 _
      walk_at "v"
      exact hy _ rfl
    rw [show ps.filterMap (fun p => some (VW.D.int p.mom)) = (ps.map Pc.mom).map VW.D.int from by rw [List.map_map, ← List.filterMap_eq_map]; rfl]
    cases e with
    | none =>
      have k : P' (.lst (([] : List Int).map VW.D.int)) S := k
      walk_at "v"
      exact k
    | some e =>
      have k : P' (.lst ((ps.map Pc.mom).map VW.D.int)) S := k
      walk_at "v"
      exact k
/-! ### the law: rows that are placed -/
def plc1 (r : Row) : Bool := match r.w, r.e with
  | .going l h b ps, some _ => abutG l h b ps
  | _, _ => true
def plc2 (r : Row) : Bool := match r.e with
  | none => true
  | some e => (match r.b with | none => false | some b => decide (b < e)) && (match r.w with | .ask _ none => false | _ => true)
theorem placed_timely (r : Row) : timely r = (plc1 r && (plc2 r && (lawMoms r).all fun o => inW r.b (some o) r.e)) := by
  obtain ⟨nm, w, b, e, an⟩ := r
  cases w with
  | ask k m =>
    cases e with
    | none => cases m with
      | none => rfl
      | some m =>
        show (false || inW b (some m) none) = (true && (true && (inW b (some m) none && true)))
        simp
    | some e => cases m with
      | none =>
        show (false || inW b none (some e)) = (true && (((match b with | none => false | some b => decide (b < e)) && false) && true))
        cases b <;> simp [inW]
      | some m =>
        show (false || inW b (some m) (some e)) = (true && (((match b with | none => false | some b => decide (b < e)) && true) && (inW b (some m) (some e) && true)))
        cases b with
        | none => rfl
        | some b =>
          show (false || (decide (b < m) && decide (m < e))) = (true && ((decide (b < e) && true) && ((decide (b < m) && decide (m < e)) && true)))
          by_cases c1 : b < m <;> by_cases c2 : m < e <;> by_cases c3 : b < e <;> simp [c1, c2, c3] <;> omega
  | going l h bk ps =>
    cases e with
    | none => rfl
    | some e =>
      show (abutG l h bk ps && goB b e ps) = (abutG l h bk ps && (((match b with | none => false | some b => decide (b < e)) && true) && (ps.map Pc.mom).all fun o => inW b (some o) (some e)))
      congr 1
      cases b with
      | none => rfl
      | some b =>
        show (decide (b < e) && (ps.map fun p => inW (some b) (some p.mom) (some e)).all id) = ((decide (b < e) && true) && (ps.map Pc.mom).all fun o => inW (some b) (some o) (some e))
        rw [Bool.and_true, List.all_map, List.all_map]; rfl
def spPlaced : VW.SpD := VW.sp1 fun x S P _ => ∃ r, x = Row.d r ∧ r.few ∧ P (.bl (timely r)) S
theorem ok_placed (T : Txt w K mg A) : FnOk P w K mg base CX0 2 A.a_placed A.d_placed ["_law_row"] (VW.upSp K (spPlaced)) := by
  refine T.F_placed.ok sc_placed (VW.upSp.len VW.sp1_len) (fun cdv A' outer s H vs Q E hr h => ?_)
  obtain ⟨F, S, ds, P', PE, rh, hv, ⟨x1, rfl, h⟩, lv, lx⟩ := h
  haveI : VW.XLe K F E PE := ⟨lx⟩
  have hu := hu_of hr
  refine ⟨_, (pss_cons (ps_asg (pv 0) (pg_tup (n := 6) rfl (pgs_cons (pg_name (i := 1) sc_placed.nd rfl (Or.inl rfl)) (pgs_cons (pg_name (i := 2) sc_placed.nd rfl (Or.inl rfl)) (pgs_cons (pg_name (i := 3) sc_placed.nd rfl (Or.inl rfl)) (pgs_cons (pg_name (i := 4) sc_placed.nd rfl (Or.inl rfl)) (pgs_cons (pg_name (i := 5) sc_placed.nd rfl (Or.inl rfl)) (pgs_cons (pg_name (i := 6) sc_placed.nd rfl (Or.inl rfl)) pgs_nil))))))))
      (VW.cutAt (ps_if (PW.pt (pw_and (pt_cmpR op_eq (pe_ix ix_tup (pv 2) pe_int (fun _ _ => rfl)) pe_str (nomark _)) (pw_and (pt_cmpR VW.op_notNA (pv 5) pe_non (nomark _)) (pw_and1 (pt_not (pt_val (pe_call (ok_law_abut T) (hr.mono (by decide)) rfl T.m_law_abut T.F_law_abut.kp T.b_law_abut .nil VW.pass0F (pa_cons (pe_slice sl_tupA (pv 2) (po_some pe_int) po_none) (pa_cons (pv 4) pa_nil)))))))))
      (pss_one (ps_ret pe_bl))
      pss_nil)
      (pss_cons (ps_set (i := 7) sc_placed.nd rfl (Or.inl rfl) (pe_call (ok_moments T) (hr.mono (by decide)) rfl T.m_moments T.F_moments.kp T.b_moments .nil VW.pass0F (pa_cons (pv 0) pa_nil)))
      (VW.cutAt (ps_if (PW.pt (pw_and (pt_cmpR VW.op_notNA (pv 5) pe_non (nomark _)) (pw_and1 (PW.pt (pw_or (pt_cmpR VW.op_isNA (pv 3) pe_non (nomark _)) (pw_or (pt_cmpR op_ge (pv 3) (pv 5) (nomark _)) (pw_or1 (PW.pt (pw_and (pt_cmpR (op_eqL0 hr.units) (pv 7) (VW.pe_kp (pe_lst pa_nil)) (nomark _)) (pw_and1 (pt_cmpR op_ne (pe_ix ix_tup (pv 2) pe_int (fun _ _ => rfl)) pe_str (nomark _))))))))))))
      (pss_one (ps_ret pe_bl))
      pss_nil)
      (pss_cons (ps_for PassesOwn.never rfl (pi_list (pv 7)) (pg_name (i := 8) sc_placed.nd rfl (Or.inl rfl))
      (pss_one (ps_if (PW.pt (pw_or (pt_cmpR VW.op_isNA (pv 3) pe_non (nomark _)) (pw_or (pt_cmpR op_le (pv 8) (pv 3) (nomark _)) (pw_or1 (PW.pt (pw_and (pt_cmpR VW.op_notNA (pv 5) pe_non (nomark _)) (pw_and1 (pt_cmpR op_ge (pv 8) (pv 5) (nomark _)))))))))
      (pss_one (ps_ret pe_bl))
      pss_nil)))
      (pss_one (ps_ret pe_bl))))))), ?_⟩
  try dsimp only [cxOf, Cx.nox, Cx.wish, List.map]
  refine VW.body_up rh hv lv ?_
  obtain ⟨r, rfl, hf, k⟩ := h
  have hml := lawMoms_len hf
  rw [placed_timely] at k
  show VW.dSeq _ _ _ [some (.tup [.str r.nm, r.w.ad, oI r.b, r.w.md, oI r.e, r.an.d]), none, none, none, none, none, none, none, none] S
  walk_at "v"
  refine ⟨fun env S2 => env = [some r.d, some (.str r.nm), some r.w.ad, some (oI r.b), some r.w.md, some (oI r.e), some r.an.d, none, none] ∧ S2 = S ∧ plc1 r = true, ?_, ?_⟩
  · obtain ⟨nm, w, b, e, an⟩ := r
    cases w with
    | ask ka m =>
      obtain ⟨z, tl, ad, a0, ez⟩ := ask_word ka
      have ad : (Wk.ask ka m).ad = .tup (.str z :: tl) := ad
      walk_at "v"
      rw [ez]
      walk_at "v"
      exact rfl
    | going low hi back ps =>
      have hf : ps.length ≤ 20 := hf
      walk_at "v"
      cases e with
      | none =>
        rw [show (!VW.isNon (oI none)) = false from rfl]
        walk_at "v"
        exact rfl
      | some e =>
        rw [show (!VW.isNon (oI (some e))) = true from rfl]
        walk_at "v"
        cases c : abutG low hi back ps with
        | true =>
          rw [show (!true) = false from rfl]
          walk_at "v"
          exact c
        | false =>
          rw [show (!false) = true from rfl]
          walk_at "v"
          rw [show plc1 ⟨nm, .going low hi back ps, b, some e, an⟩ = false from c, Bool.false_and] at k
          exact k
  · rintro env S2 ⟨rfl, rfl, p1⟩
    rw [p1, Bool.true_and] at k
    walk_at "v"
    refine ⟨fun env S3 => env = [some r.d, some (.str r.nm), some r.w.ad, some (oI r.b), some r.w.md, some (oI r.e), some r.an.d, some (.lst ((lawMoms r).map VW.D.int)), none] ∧ S3 = S2 ∧ plc2 r = true, ?_, ?_⟩
    · have no : plc2 r = false → P' (.bl false) S2 := fun c => by rw [c, Bool.false_and] at k; exact k
      have hml' : ((lawMoms r).map VW.D.int).length < sizeLine := by rw [List.length_map, sizeLine_eq]; omega
      walk_at "v"
      cases ee : r.e with
      | none =>
        rw [show (!VW.isNon (oI none)) = false from rfl]
        walk_at "v"
        unfold plc2; rw [ee]
      | some e =>
        rw [show (!VW.isNon (oI (some e))) = true from rfl]
        walk_at "v"
        cases eb : r.b with
        | none =>
          rw [show VW.isNon (oI none) = true from rfl]
          walk_at "v"
          exact no (by unfold plc2; rw [ee, eb]; rfl)
        | some b =>
          rw [show VW.isNon (oI (some b)) = false from rfl]
          walk_at "v"
          refine ite2 (fun c => ?_) (fun c => ?_)
          · have c : e ≤ b := of_decide_eq_true c
            walk_at "v"
            exact no (by unfold plc2; rw [ee, eb]; show (decide (b < e) && _) = false; rw [decide_eq_false (by omega)]; rfl)
          · have c : ¬ e ≤ b := fun z => c (decide_eq_true z)
            have d1 : decide (b < e) = true := decide_eq_true (by omega)
            walk_at "v"
            cases ew : r.w with
            | ask ka m =>
              obtain ⟨z, tl, ad, a0, ez⟩ := ask_word ka
              cases m with
              | none =>
                rw [show lawMoms r = [] from by unfold lawMoms; rw [ew]; rfl]
                have ad : (Wk.ask ka none).ad = .tup (.str z :: tl) := ad
                rw [show (List.map VW.D.int []).isEmpty = true from rfl]
                walk_at "v"
                rw [ez, show (!false) = true from rfl]
                walk_at "v"
                exact no (by unfold plc2; rw [ee, eb, ew]; show (_ && false) = false; rw [Bool.and_false])
              | some m =>
                rw [show lawMoms r = [m] from by unfold lawMoms; rw [ew]; rfl]
                rw [show (List.map VW.D.int [m]).isEmpty = false from rfl]
                walk_at "v"
                unfold plc2; rw [ee, eb, ew]; show (decide (b < e) && true) = true; rw [d1]; rfl
            | going low hi back ps =>
              refine ite2 (fun c => ?_) (fun c => ?_)
              · walk_at "v"
                unfold plc2; rw [ee, eb, ew]; show (decide (b < e) && true) = true; rw [d1]; rfl
              · walk_at "v"
                unfold plc2; rw [ee, eb, ew]; show (decide (b < e) && true) = true; rw [d1]; rfl
    · rintro env S3 ⟨rfl, rfl, p2⟩
      rw [p2, Bool.true_and] at k
      walk_at "v"
      refine VW.ForD.mk ⟨fun j env S4 => Wrap (∃ (v8 : Option VW.D), env = [some r.d, some (.str r.nm), some r.w.ad, some (oI r.b), some r.w.md, some (oI r.e), some r.an.d, some (.lst ((lawMoms r).map VW.D.int)), v8] ∧ S4 = S3 ∧ (lawMoms r).all (fun o => inW r.b (some o) r.e) = ((lawMoms r).drop j).all (fun o => inW r.b (some o) r.e)), ?_, fun _ _ _ _ _ => Or.inl rfl, ?_, ?_⟩
      · exact ⟨_, rfl, rfl, rfl⟩
      · rintro j x env S4 hj hx ⟨v8, rfl, rfl, ha⟩
        obtain ⟨o, ho, rfl⟩ : ∃ o, (lawMoms r)[j]? = some o ∧ VW.D.int o = x := by
          have hx : ((lawMoms r).map VW.D.int)[j]? = some x := hx
          rw [List.getElem?_map] at hx
          exact Option.map_eq_some_iff.mp hx
        have hjl := (List.getElem?_eq_some_iff.mp ho).1
        have edr : (lawMoms r).drop j = o :: (lawMoms r).drop (j + 1) := by
          rw [List.drop_eq_getElem_cons hjl]
          congr 1
          have := List.getElem?_eq_getElem hjl
          rw [ho] at this; cases this; rfl
        rw [edr, List.all_cons] at ha
        have bad : inW r.b (some o) r.e = false → P' (.bl false) S4 := fun c => by
          rw [ha, c] at k; exact k
        walk_at "v"
        cases eb : r.b with
        | none =>
          rw [show VW.isNon (oI none) = true from rfl]
          walk_at "v"
          exact bad (by rw [eb]; rfl)
        | some b =>
          rw [show VW.isNon (oI (some b)) = false from rfl]
          walk_at "v"
          refine ite2 (fun c => ?_) (fun c => ?_)
          · have c : o ≤ b := of_decide_eq_true c
            walk_at "v"
            exact bad (by rw [eb]; show (decide (b < o) && _) = false; rw [decide_eq_false (by omega)]; rfl)
          · have c : ¬ o ≤ b := fun z => c (decide_eq_true z)
            have d1 : decide (b < o) = true := decide_eq_true (by omega)
            walk_at "v"
            cases ee : r.e with
            | none =>
              rw [show (!VW.isNon (oI none)) = false from rfl]
              walk_at "v"
              refine ⟨_, rfl, rfl, ?_⟩
              rw [eb, ee] at ha
              rw [ha, show inW (some b) (some o) none = (decide (b < o) && true) from rfl, d1]; rfl
            | some e =>
              rw [show (!VW.isNon (oI (some e))) = true from rfl]
              walk_at "v"
              refine ite2 (fun c2 => ?_) (fun c2 => ?_)
              · have c2 : e ≤ o := of_decide_eq_true c2
                walk_at "v"
                exact bad (by rw [eb, ee]; show (decide (b < o) && decide (o < e)) = false; rw [decide_eq_false (show ¬ o < e by omega), Bool.and_false])
              · have c2 : ¬ e ≤ o := fun z => c2 (decide_eq_true z)
                walk_at "v"
                refine ⟨_, rfl, rfl, ?_⟩
                rw [eb, ee] at ha
                rw [ha, show inW (some b) (some o) (some e) = (decide (b < o) && decide (o < e)) from rfl, d1, decide_eq_true (show o < e by omega)]; rfl
      · rintro env S4 ⟨v8, rfl, rfl, ha⟩
        rw [show (lawMoms r).drop (VW.wL (VW.D.lst ((lawMoms r).map VW.D.int)) ((lawMoms r).map VW.D.int)).n = [] from by show (lawMoms r).drop ((lawMoms r).map VW.D.int).length = []; rw [List.length_map, List.drop_length]] at ha
        rw [ha] at k
        walk_at "v"
        exact k

local macro_rules | `(tactic| walk_at "vf") => `(tactic| first
  | ((with_reducible show VW.DGot _ _ _ _); exact dgotA (by walk_at "sq"))
  | ((with_reducible show VW.DPutD _ _ _ _ _); exact dputA (by walk_at "sp") (by first | assumption | walk_at "arith"))
  | ((with_reducible show VW.DPopD _ _ _ _ _); exact dpopA (by walk_at "sp") (by assumption)))

/-! ### what is asked is small -/
def sm4 (i : Int) : Prop := 0 ≤ i ∧ i ≤ 3
def Ask.g : Ask → Prop
  | .find k => 0 ≤ k ∧ k ≤ 9
  | .put k v => (0 ≤ k ∧ k ≤ 9) ∧ sm4 v
  | .take k => 0 ≤ k ∧ k ≤ 9
  | .change k o n => (0 ≤ k ∧ k ≤ 9) ∧ sm4 o ∧ sm4 n
def Row.askG (r : Row) : Prop := match r.w with
  | .ask k _ => k.g
  | .going _ _ _ _ => True
def GK (m : List (Int × Int)) : Prop := ∀ p ∈ m, (0 ≤ p.1 ∧ p.1 ≤ 9) ∧ sm4 p.2
theorem GK.put {m : List (Int × Int)} (g : GK m) {k v : Int} (hk : 0 ≤ k ∧ k ≤ 9) (hv : sm4 v) : GK (putA m k v) := by
  unfold putA
  split
  · intro p hp
    obtain ⟨q, hq, rfl⟩ := List.mem_map.mp hp
    split
    · exact ⟨(g q hq).1, hv⟩
    · exact g q hq
  · intro p hp
    rcases List.mem_append.mp hp with h | h
    · exact g p h
    · rw [List.mem_singleton.mp h]; exact ⟨hk, hv⟩
theorem GK.drop {m : List (Int × Int)} (g : GK m) {k : Int} : GK (dropA m k) := fun p hp => g p (List.mem_filter.mp hp).1
theorem one_gk {m : List (Int × Int)} {a : Ask} (g : GK m) (h : a.g) : GK (one m a).2 := by
  cases a with
  | find k => exact g
  | put k v => exact g.put h.1 h.2
  | take k =>
    show GK (if (getA m k).isSome = true then dropA m k else m)
    split
    · exact g.drop
    · exact g
  | change k o n =>
    show GK (if getA m k = some o then (An.bl true, putA m k n) else (.bl false, m)).2
    split
    · exact g.put h.1 h.2.2
    · exact g
theorem GK.km {m : List (Int × Int)} (g : GK m) (hl : m.length < 64) (nd : (m.map (·.1)).Nodup) : KM m := ⟨hl, nd, fun p hp => by have := g p hp; have h2 := this.2; unfold sm4 at h2; omega⟩
/-! ### done by the law -/
theorem ok_one_done (T : Txt w K mg A) : FnOk P w K mg base CX0 1 A.a_one_done A.d_one_done ["_law_kept", "_law_ask"] (VW.upSp K (spOne)) := by
  refine T.F_one_done.ok sc_one_done (VW.upSp.len VW.sp2_len) (fun cdv A' outer s H vs Q E hr h => ?_)
  obtain ⟨F, S, ds, P', PE, rh, hv, ⟨x1, x2, rfl, h⟩, lv, lx⟩ := h
  haveI : VW.XLe K F E PE := ⟨lx⟩
  have hu := hu_of hr
  refine ⟨_, (pss_cons (ps_set (i := 2) sc_one_done.nd rfl (Or.inl rfl) (pe_ix ix_tup (pv 1) pe_int (fun _ _ => rfl)))
      (pss_cons (ps_set (i := 3) sc_one_done.nd rfl (Or.inl rfl) (pe_ix ix_tup (pv 1) pe_int (fun _ _ => rfl)))
      (pss_cons (ps_set (i := 4) sc_one_done.nd rfl (Or.inl rfl) (pe_dget1 hu (pv 0) (pv 3) ⟨rfl, rfl, rfl, rfl⟩))
      (pss_cons (ps_if (pt_cmpR op_eq (pv 2) pe_str (nomark _))
      (pss_one (ps_dput hu (pv 0) (pv 3) (pe_ix ix_tup (pv 1) pe_int (fun _ _ => rfl)) rfl))
      (pss_one (ps_if (pt_cmpR op_eq (pv 2) pe_str (nomark _))
      (pss_one (ps_expr (pe_dpop2 (pv 0) (pv 3) pe_non ⟨rfl, rfl, rfl, rfl⟩)))
      (pss_one (ps_if (pt_cmpR op_eq (pv 2) pe_str (nomark _))
      (pss_cons (ps_if (PW.pt (pw_or (pt_cmp (pc_dnotin hu (pv 3) (pv 0))) (pw_or1 (pt_cmpR (VW.op_nePl hr.units) (pv 4) (pe_ix ix_tup (pv 1) pe_int (fun _ _ => rfl)) (nomark _)))))
      (pss_one (ps_ret pe_bl))
      pss_nil)
      (pss_cons (ps_dput hu (pv 0) (pv 3) (pe_ix ix_tup (pv 1) pe_int (fun _ _ => rfl)) rfl)
      (pss_one (ps_ret pe_bl))))
      pss_nil)))))
      (pss_one (ps_ret (pv 4))))))), ?_⟩
  try dsimp only [cxOf, Cx.nox, Cx.wish, List.map]
  refine VW.body_up rh hv lv ?_
  obtain ⟨a, m, k, rfl, ha, rfl, hl, k1⟩ := h
  have hl' : m.length < sizeLine := by rw [sizeLine_eq]; omega
  cases k with
  | find k =>
    show VW.dSeq _ _ _ [_, some (.tup [.str "find", .int k]), _, _, _] S
    walk_at "v"
    have k2 : P' (oA (getA m k)).d (VW.sup S a (.dK (VW.iK (kv m)))) := k1
    rw [VW.sup_self ha, ← got_d] at k2
    exact k2
  | put k v =>
    show VW.dSeq _ _ _ [_, some (.tup [.str "put", .int k, .int v]), _, _, _] S
    walk_at "v"
    have k2 : P' (oA (getA m k)).d (VW.sup S a (.dK (VW.iK (kv (putA m k v))))) := k1
    rw [← got_d] at k2
    exact k2
  | take k =>
    show VW.dSeq _ _ _ [_, some (.tup [.str "take", .int k]), _, _, _] S
    have k2 : P' (oA (getA m k)).d (VW.sup S a (.dK (VW.iK (kv (if (getA m k).isSome = true then dropA m k else m))))) := k1
    rw [← got_d, take_drop] at k2
    walk_at "v"
    have e1 : VW.getD' (VW.iK (kv m)) (.inl k : Key) = (getA m k).map VW.D.int := by rw [← kv_get]; exact VW.iK_get ..
    refine ⟨show VW.D.int k = VW.kD (Sum.inl k : Key) from rfl, fun d e => ?_, fun e => ?_⟩
    · rw [VW.iK_drop, kv_drop]
      walk_at "v"
      exact k2
    · have en : getA m k = none := by
        rw [e1] at e
        exact Option.map_eq_none_iff.mp e
      rw [dropA_none en, VW.sup_self ha] at k2
      walk_at "v"
      exact k2
  | change k o n =>
    show VW.dSeq _ _ _ [_, some (.tup [.str "change", .int k, .int o, .int n]), _, _, _] S
    have k2 : P' (one m (.change k o n)).1.d (VW.sup S a (.dK (VW.iK (kv (one m (.change k o n)).2)))) := k1
    walk_at "v"
    cases c : getA m k with
    | none =>
      have e : one m (.change k o n) = (.bl false, m) := (show (if getA m k = some o then (An.bl true, putA m k n) else (.bl false, m)) = _ from if_neg (by rw [c]; intro h; cases h))
      rw [e, VW.sup_self ha] at k2
      rw [show (!(Option.map VW.D.int none).isSome) = true from rfl]
      walk_at "v"
      exact k2
    | some w =>
      rw [show (!(Option.map VW.D.int (some w)).isSome) = false from rfl]
      walk_at "v"
      rw [show (Option.map VW.D.int (some w)).getD VW.D.non = .int w from rfl, eq_ints]
      by_cases cw : w = o
      · have e : one m (.change k o n) = (.bl true, putA m k n) := (show (if getA m k = some o then (An.bl true, putA m k n) else (.bl false, m)) = _ from if_pos (by rw [c, cw]))
        rw [e] at k2
        rw [decide_eq_true cw, show (!true) = false from rfl]
        walk_at "v"
        exact k2
      · have e : one m (.change k o n) = (.bl false, m) := (show (if getA m k = some o then (An.bl true, putA m k n) else (.bl false, m)) = _ from if_neg (by rw [c]; intro h; cases h; exact cw rfl))
        rw [e, VW.sup_self ha] at k2
        rw [decide_eq_false cw, show (!false) = true from rfl]
        walk_at "v"
        exact k2
/-! ### the law's events -/
def lvR (i : Nat) (r : Row) : List (Ev × Nat) := (evR i r).zipIdx
def lvF : Nat → List Row → List (Ev × Nat)
  | _, [] => []
  | i, r :: rs => lvR i r ++ lvF (i + 1) rs
theorem lvF_fst : ∀ (rs : List Row) (i : Nat), (lvF i rs).map (·.1) = evF i rs
  | [], _ => rfl
  | r :: rs, i => by
    show (lvR i r ++ lvF (i + 1) rs).map (·.1) = evR i r ++ evF (i + 1) rs
    rw [List.map_append, lvF_fst rs (i + 1)]
    unfold lvR
    rw [List.zipIdx_map_fst]
theorem lvF_snoc {r : Row} : ∀ {xs : List Row} {i : Nat}, lvF i (xs ++ [r]) = lvF i xs ++ lvR (i + xs.length) r
  | [], i => by show lvR i r ++ [] = [] ++ lvR (i + 0) r; rw [List.append_nil, List.nil_append]; rfl
  | x :: xs, i => by
    show lvR i x ++ lvF (i + 1) (xs ++ [r]) = (lvR i x ++ lvF (i + 1) xs) ++ lvR (i + (xs.length + 1)) r
    rw [lvF_snoc, List.append_assoc]
    congr 3
    omega
theorem evR_num {i : Nat} {r : Row} : ∀ e ∈ evR i r, e.num = i := by
  intro e he
  unfold evR at he
  split at he
  · cases he
  · rw [List.mem_singleton.mp he]
  · split at he
    · obtain ⟨p, _, rfl⟩ := List.mem_map.mp he; rfl
    · cases he
/-- an event stands at its row, at its place -/
inductive LvOk (rs : List Row) : Ev × Nat → Prop
  | ask (m : Int) (i at1 : Nat) (r : Row) (k : Ask) (o : Option Int) : rs[i]? = some r → r.w = .ask k o → at1 < 20 → LvOk rs (⟨m, i, none⟩, at1)
  | going (m : Int) (i at1 : Nat) (p : Pc) (r : Row) (l : Int) (h : Option Int) (b : Bool) (ps : List Pc) : rs[i]? = some r → r.w = .going l h b ps → ps[at1]? = some p → at1 < 20 → LvOk rs (⟨m, i, some p⟩, at1)
theorem lvR_ok {rs : List Row} {i : Nat} {r : Row} (h : rs[i]? = some r) (hf : r.few) : ∀ e ∈ lvR i r, LvOk rs e := by
  rintro ⟨e, a⟩ he
  have he := List.mem_zipIdx_iff_getElem?.mp he
  have he : (evR i r)[a]? = some e := he
  unfold evR at he
  unfold Row.few at hf
  split at he
  · simp at he
  · rename_i hw
    have hm := List.mem_of_getElem? he
    rw [List.mem_singleton.mp hm]
    have := (List.getElem?_eq_some_iff.mp he).1
    exact .ask _ _ _ r _ _ h hw (by simp only [List.length_cons, List.length_nil] at this; omega)
  · rename_i l hh b ps hw
    rw [hw] at hf
    split at he
    · rw [List.getElem?_map] at he
      obtain ⟨p, hp, rfl⟩ := Option.map_eq_some_iff.mp he
      have := (List.getElem?_eq_some_iff.mp hp).1
      exact .going _ _ _ _ r _ _ _ _ h hw hp (by have hf : ps.length ≤ 20 := hf; omega)
    · simp at he
theorem lvF_ok {all : List Row} (few : ∀ r ∈ all, r.few) : ∀ {rs : List Row} {i : Nat}, (∀ j r, rs[j]? = some r → all[i + j]? = some r) → ∀ e ∈ lvF i rs, LvOk all e
  | [], _, _, e, he => by cases he
  | r :: rs, i, h, e, he => by
    rcases List.mem_append.mp he with he | he
    · have h0 := h 0 r rfl
      exact lvR_ok h0 (few r (List.mem_of_getElem? h0)) e he
    · exact lvF_ok few (rs := rs) (i := i + 1) (fun j r' hj => by
        have := h (j + 1) r' hj
        rw [show i + 1 + j = i + (j + 1) by omega]; exact this) e he
theorem LvOk.lt {rs : List Row} {p : Ev × Nat} (h : LvOk rs p) : p.1.num < rs.length ∧ p.2 < 20 := by
  cases h with
  | ask m i at1 r k o h1 h2 h3 => exact ⟨(List.getElem?_eq_some_iff.mp h1).1, h3⟩
  | going m i at1 p r l h b ps h1 h2 h3 h4 => exact ⟨(List.getElem?_eq_some_iff.mp h1).1, h4⟩
def evN (p : Ev × Nat) : List Int := [p.1.mom, (p.1.num : Int), (p.2 : Int)]
def evT (p : Ev × Nat) : VW.D := .tup [.int p.1.mom, .int (p.1.num : Int), .int (p.2 : Int)]
theorem ev_sorted {xs : List (Ev × Nat)} (nd : (xs.map fun p => p.1.mom).Nodup) (bd : ∀ p ∈ xs, (0 ≤ p.1.mom ∧ p.1.mom < 1000000) ∧ p.1.num < 1000000 ∧ p.2 < 1000000) {mss : List (List Int)} (hp : mss.Perm (xs.map evN)) (hs : mss.Pairwise fun n m => TS.code 1000000 n ≤ TS.code 1000000 m) :
    ∃ l : List (Ev × Nat), mss = l.map evN ∧ l.Perm xs ∧ l.map (·.1) = esort (xs.map (·.1)) := by
  obtain ⟨l, hl, e⟩ := perm_lift _ hp xs rfl
  subst e
  refine ⟨l, rfl, hl, ?_⟩
  have hu : UpE (l.map (·.1)) := by
    rw [List.pairwise_map] at hs
    have nd2 : (l.map fun p => p.1.mom).Nodup := (hl.map _).nodup_iff.mpr nd
    have bl : ∀ p ∈ l, (0 ≤ p.1.mom ∧ p.1.mom < 1000000) ∧ p.1.num < 1000000 ∧ p.2 < 1000000 := fun p hp => bd p (hl.mem_iff.mp hp)
    rw [List.nodup_iff_pairwise_ne, List.pairwise_map] at nd2
    unfold UpE
    rw [List.pairwise_map]
    rw [List.pairwise_iff_getElem] at hs nd2 ⊢
    intro i j hi hj hij
    have a := hs i j hi hj hij
    have b := nd2 i j hi hj hij
    have c := bl _ (List.getElem_mem hi)
    have d := bl _ (List.getElem_mem hj)
    generalize l[i] = p at a b c ⊢
    generalize l[j] = q at a b d ⊢
    have a : p.1.mom * 1000000 ^ 2 + ((p.1.num : Int) * 1000000 ^ 1 + ((p.2 : Int) * 1000000 ^ 0 + 0)) ≤ q.1.mom * 1000000 ^ 2 + ((q.1.num : Int) * 1000000 ^ 1 + ((q.2 : Int) * 1000000 ^ 0 + 0)) := a
    omega
  refine upE_uniq ((hl.map _).trans (esort_perm _).symm) hu (esort_up ?_)
  rw [List.map_map]; exact nd
/-! ### what is found -/
def fndL (F : List (Int × An2)) (n : Nat) : List An2 := (List.range n).map fun i : Nat => (getG F (i : Int)).getD .non
theorem getG_put {α : Type} {m : List (Int × α)} {k k' : Int} {v : α} : getG (putG m k v) k' = if k' = k then some v else getG m k' := by
  unfold putG
  by_cases c : (m.any fun p => decide (p.1 = k)) = true
  · rw [if_pos c]
    induction m with
    | nil => cases c
    | cons p r ih =>
      rw [List.map_cons]
      unfold getG
      rw [List.find?_cons, List.find?_cons]
      by_cases e : p.1 = k
      · rw [if_pos e]
        by_cases e2 : k' = k
        · subst e2; rw [if_pos rfl]; rw [decide_eq_true (by exact e)]; rfl
        · rw [if_neg e2]
          have d1 : decide ((p.1, v).1 = k') = false := decide_eq_false fun z => e2 (z.symm.trans e)
          rw [d1]
          by_cases c2 : (r.any fun p => decide (p.1 = k)) = true
          · have := ih c2; unfold getG at this; rw [if_neg e2] at this; exact this
          · have er : r.map (fun p => if p.1 = k then (p.1, v) else p) = r := by
              conv => rhs; rw [← List.map_id r]
              refine List.map_congr_left fun q hq => if_neg fun z => c2 (List.any_eq_true.mpr ⟨q, hq, decide_eq_true z⟩)
            show Option.map _ (List.find? _ (r.map (fun p => if p.1 = k then (p.1, v) else p))) = _
            rw [er]
      · rw [if_neg e]
        have c2 : (r.any fun p => decide (p.1 = k)) = true := by
          rw [List.any_cons, decide_eq_false e, Bool.false_or] at c; exact c
        cases d : decide (p.1 = k') with
        | true =>
          have e3 : p.1 = k' := of_decide_eq_true d
          rw [if_neg (fun z => e (e3.trans z))]
        | false => exact ih c2
  · rw [if_neg c]
    unfold getG
    rw [List.find?_append]
    by_cases e2 : k' = k
    · subst e2
      rw [if_pos rfl]
      have : m.find? (fun p => decide (p.1 = k')) = none := by
        rw [List.find?_eq_none]
        intro p hp z
        exact c (List.any_eq_true.mpr ⟨p, hp, z⟩)
      rw [this]
      simp
    · rw [if_neg e2]
      have : List.find? (fun p : Int × α => decide (p.1 = k')) [(k, v)] = none := by
        simp; exact fun z => e2 z.symm
      rw [this, Option.or_none]
theorem fndL_len (F : List (Int × An2)) (n : Nat) : (fndL F n).length = n := by unfold fndL; rw [List.length_map, List.length_range]
theorem fndL_at {F : List (Int × An2)} {n i : Nat} (h : i < n) : (fndL F n)[i]? = some ((getG F (i : Int)).getD .non) := by
  unfold fndL
  rw [List.getElem?_map, List.getElem?_range h]; rfl
theorem fndL_set {F : List (Int × An2)} {n i : Nat} {a : An2} (h : i < n) : (fndL F n).set i a = fndL (putG F (i : Int) a) n := by
  apply List.ext_getElem?
  intro j
  rw [List.getElem?_set]
  by_cases c : j < n
  · rw [fndL_at c, fndL_at c, fndL_len, getG_put]
    by_cases e : i = j
    · subst e; rw [if_pos rfl, if_pos c, if_pos rfl]; rfl
    · rw [if_neg e, if_neg (by omega)]
  · rw [List.getElem?_eq_none (l := fndL F n) (by rw [fndL_len]; omega), List.getElem?_eq_none (l := fndL (putG F (i : Int) a) n) (by rw [fndL_len]; omega), if_neg (by omega)]

local macro_rules | `(tactic| walk_at "vf") => `(tactic| first
  | ((with_reducible show VW.DGot _ _ _ _); exact dgotA (by walk_at "sq"))
  | ((with_reducible show VW.DPutD _ _ _ _ _); exact dputA (by walk_at "sp") (by first | assumption | walk_at "arith"))
  | ((with_reducible show VW.DPopD _ _ _ _ _); exact dpopA (by walk_at "sp") (by assumption)))

/-! ### played -/
theorem ixN_lt {n j : Nat} (h : j < n) : ixN n (j : Int) = some j := by
  unfold ixN
  rw [if_pos (by omega), if_pos (by omega), Int.toNat_natCast]
theorem atI_rows {rs : List Row} {i : Nat} {r : Row} (h : rs[i]? = some r) : atI (rs.map Row.d) (i : Int) = some r.d := by
  exact atI_nat (by rw [List.getElem?_map, h]; rfl)
structure Gd (rs : List Row) (ps : List (Int × Int)) : Prop where
  few : Few rs
  ask : ∀ r ∈ rs, r.askG
  prs : Prs ps
  gk : GK ps
  ev : (evF 0 rs).length < 50
structure Gm (rs : List Row) : Prop where
  nd : (moms rs).Nodup
  bd : ∀ o ∈ moms rs, 0 ≤ o ∧ o < 1000000
def spPlayedL : VW.SpD := VW.sp2 fun x y S P _ => ∃ ps rs, VW.PrX S x (ps.map pairD) ∧ y = .lst (rs.map Row.d) ∧ Gd rs ps ∧ Gm rs ∧
  ∀ (L q : Addr) (S' : VW.Sto), L ≠ q → S' L = some (.lst ((fndL (play rs ps).1 rs.length).map An2.d)) → S' q = some (.dK (VW.iK (kv (play rs ps).2))) → (∀ a o, S a = some o → S' a = some o) → P (.tup [.ref L, .ref q]) S'
theorem ok_played (T : Txt w K mg A) : FnOk P w K mg base CX0 2 A.a_played A.d_played ["_law_twos", "_law_rows"] (VW.upSp K (spPlayedL)) := by
  refine T.F_played.ok sc_played (VW.upSp.len VW.sp2_len) (fun cdv A' outer s H vs Q E hr h => ?_)
  obtain ⟨F, S, ds, P', PE, rh, hv, ⟨x1, x2, rfl, h⟩, lv, lx⟩ := h
  haveI : VW.XLe K F E PE := ⟨lx⟩
  have hu := hu_of hr
  refine ⟨_, (pss_cons (ps_set (i := 2) sc_played.nd rfl (Or.inl rfl) (pe_callTy (VW.call_dicPX rfl) (by rfl) T.n_dict (by decide +kernel) (pa_cons (pv 0) pa_nil)))
      (pss_cons (ps_set (i := 3) sc_played.nd rfl (Or.inl rfl) (pe_lst pa_nil))
      (pss_cons (ps_for PassesOwn.never rfl (pi_enum (by rfl) T.n_enumerate (pa_cons (pv 1) pa_nil)) (pg_tup (n := 2) rfl (pgs_cons (pg_name (i := 4) sc_played.nd rfl (Or.inl rfl)) (pgs_cons (pg_name (i := 5) sc_played.nd rfl (Or.inl rfl)) pgs_nil)))
      (pss_one (ps_for PassesOwn.never rfl (pi_enum (by rfl) T.n_enumerate (pa_cons (pe_call (ok_moments T) (hr.mono (by decide)) rfl T.m_moments T.F_moments.kp T.b_moments .nil VW.pass0F (pa_cons (pv 5) pa_nil)) pa_nil)) (pg_tup (n := 2) rfl (pgs_cons (pg_name (i := 6) sc_played.nd rfl (Or.inl rfl)) (pgs_cons (pg_name (i := 7) sc_played.nd rfl (Or.inl rfl)) pgs_nil)))
      (pss_one (ps_expr (pe_bm PySem.F.plainAttrs_list PySem.F.slot_list_append PySem.F.type_list_append mt_append (pv 3) (pa_cons (pe_tup (pa_cons (pv 7) (pa_cons (pv 4) (pa_cons (pv 6) pa_nil)))) pa_nil)))))))
      (pss_cons (ps_set (i := 8) sc_played.nd rfl (Or.inl rfl) (pe_op op_rep (VW.pe_kp (pe_lst (pa_cons pe_non pa_nil))) (pe_callB VW.call_lenA (by rfl) T.n_len PySem.boot_len (pa_cons (pv 1) pa_nil))))
      (pss_cons (ps_for PassesOwn.never rfl (pi_list (pe_callB (cr_sortT (d := 3) (B := 1000000) (by decide)) (by rfl) T.n_sorted (by decide +kernel) (pa_cons (pv 3) pa_nil))) (pg_tup (n := 3) rfl (pgs_cons (pg_name (i := 7) sc_played.nd rfl (Or.inl rfl)) (pgs_cons (pg_name (i := 4) sc_played.nd rfl (Or.inl rfl)) (pgs_cons (pg_name (i := 6) sc_played.nd rfl (Or.inl rfl)) pgs_nil))))
      (pss_cons (ps_asg (pe_ix ix_list (pv 1) (pv 4) (fun _ _ => rfl)) (pg_tup (n := 6) rfl (pgs_cons (pg_name (i := 9) sc_played.nd rfl (Or.inl rfl)) (pgs_cons (pg_name (i := 10) sc_played.nd rfl (Or.inl rfl)) (pgs_cons (pg_name (i := 11) sc_played.nd rfl (Or.inl rfl)) (pgs_cons (pg_name (i := 12) sc_played.nd rfl (Or.inl rfl)) (pgs_cons (pg_name (i := 13) sc_played.nd rfl (Or.inl rfl)) (pgs_cons (pg_name (i := 14) sc_played.nd rfl (Or.inl rfl)) pgs_nil))))))))
      (pss_one (ps_if (pt_cmpR op_eq (pe_ix ix_tup (pv 10) pe_int (fun _ _ => rfl)) pe_str (nomark _))
      (pss_cons (ps_set (i := 15) sc_played.nd rfl (Or.inl rfl) (pe_call (ok_within T) (hr.mono (by decide)) rfl T.m_within T.F_within.kp T.b_within .nil VW.pass0F (pa_cons (LiI.pe_listItems rfl (pv 2) (by rfl) T.n_list (by decide +kernel)) (pa_cons (pe_ix ix_tup (pe_ix ix_list (pv 12) (pv 6) (fun _ _ => rfl)) pe_int (fun _ _ => rfl)) (pa_cons (pe_ix ix_tup (pe_ix ix_list (pv 12) (pv 6) (fun _ _ => rfl)) pe_int (fun _ _ => rfl)) pa_nil)))))
      (pss_one (ps_asg (VW.pe_kp (pe_op op_cat (pe_orT (pe_ix ix_list (pv 8) (pv 4) (fun _ _ => rfl)) (pe_one (VW.pe_kp (pe_lst pa_nil)))) (pe_ix ix_list (VW.pe_kp (pe_lst (pa_cons (pv 15) (pa_cons (pe_rvL (pv 15)) pa_nil)))) (pe_callTy VW.call_int1A (by rfl) T.n_int (by decide +kernel) (pa_cons (pe_ix ix_tup (pv 10) pe_int (fun _ _ => rfl)) pa_nil)) (fun _ _ => rfl)))) (pg_sub (pv 8) (pv 4) set_list))))
      (pss_one (ps_asg (pe_call (ok_one_done T) (hr.mono (by decide)) rfl T.m_one_done T.F_one_done.kp T.b_one_done .nil VW.pass0F (pa_cons (pv 2) (pa_cons (pv 10) pa_nil))) (pg_sub (pv 8) (pv 4) set_list)))))))
      (pss_one (ps_ret (pe_tup (pa_cons (pv 8) (pa_cons (pv 2) pa_nil)))))))))), ?_⟩
  try dsimp only [cxOf, Cx.nox, Cx.wish, List.map]
  refine VW.body_up rh hv lv ?_
  obtain ⟨ps, rs, hx, rfl, gd, gm, k⟩ := h
  have gp := gd.prs
  have few := gd.few
  have hpl := gp.len
  have hrl := few.len
  show VW.dSeq _ _ _ [some x1, some (.lst (rs.map Row.d)), none, none, none, none, none, none, none, none, none, none, none, none, none, none] S
  walk_at "v"
  refine ⟨(by rw [← kv_pairs]; exact hx : VW.PrX S x1 ((VW.iK (kv ps)).map fun kd => VW.D.tup [VW.kD kd.1, kd.2])), fun q hq => ?_⟩
  rw [kv_merge gp.nd]
  walk_at "v"
  intro E hE
  have nqE : q ≠ E := fun z => by rw [← z, VW.sup_same] at hE; cases hE
  walk_at "v"
  refine VW.ForD.mk ⟨fun j env S4 => Wrap (∃ (v4 v5 v6 v7 : Option VW.D), env = [some x1, some (.lst (rs.map Row.d)), some (.ref q), some (.ref E), v4, v5, v6, v7, none, none, none, none, none, none, none, none] ∧ S4 = VW.sup (VW.sup S q (.dK (VW.iK (kv ps)))) E (.lst ((lvF 0 (rs.take j)).map evT)) ∧ (lvF 0 (rs.take j)).length ≤ 20 * j), ?_, fun _ _ _ _ _ => Or.inl rfl, ?_, ?_⟩
  · exact ⟨_, _, _, _, rfl, rfl, Nat.le_refl _⟩
  · rintro j x env S4 hj hx ⟨v4, v5, v6, v7, rfl, rfl, hel⟩
    obtain ⟨d, hd, rfl⟩ := hx
    rw [List.getElem?_map] at hd
    obtain ⟨r, hr2, rfl⟩ := Option.map_eq_some_iff.mp hd
    have hjl := (List.getElem?_eq_some_iff.mp hr2).1
    have fr := few.all r (List.mem_of_getElem? hr2)
    have nl := lawMoms_len fr
    have nx : lvF 0 (rs.take (j + 1)) = lvF 0 (rs.take j) ++ lvR j r := by
      rw [List.take_add_one, hr2]
      show lvF 0 (rs.take j ++ [r]) = _
      rw [lvF_snoc, List.length_take, Nat.min_eq_left (by omega), Nat.zero_add]
    have lr : (lvR j r).length = (lawMoms r).length := by unfold lvR; rw [List.length_zipIdx, ← evR_moms j, List.length_map]
    generalize lvF 0 (rs.take j) = evs at hel nx ⊢
    walk_at "v"
    refine VW.ForD.mk ⟨fun i env S4 => Wrap (∃ (v6 v7 : Option VW.D), env = [some x1, some (.lst (rs.map Row.d)), some (.ref q), some (.ref E), some (.int (j : Int)), some r.d, v6, v7, none, none, none, none, none, none, none, none] ∧ S4 = VW.sup (VW.sup S q (.dK (VW.iK (kv ps)))) E (.lst ((evs ++ (lvR j r).take i).map evT))), ?_, fun _ _ _ _ _ => Or.inl rfl, ?_, ?_⟩
    · exact ⟨_, _, rfl, by rw [List.take_zero, List.append_nil]⟩
    · rintro i x env S4 hi hx ⟨v6, v7, rfl, rfl⟩
      obtain ⟨d, hd, rfl⟩ := hx
      rw [List.getElem?_map] at hd
      obtain ⟨mm, hmm, rfl⟩ := Option.map_eq_some_iff.mp hd
      have hil := (List.getElem?_eq_some_iff.mp hmm).1
      have hsz : ((evs ++ (lvR j r).take i).map evT).length < sizeLine := by rw [List.length_map, List.length_append, List.length_take, sizeLine_eq]; omega
      walk_at "v"
      rw [VW.sup_sup]
      refine ⟨_, _, rfl, ?_⟩
      obtain ⟨e, he⟩ : ∃ e, (evR j r)[i]? = some e := ⟨_, List.getElem?_eq_getElem (by rw [← evR_moms j, List.length_map] at hil; exact hil)⟩
      have hm2 : e.mom = mm := by
        rw [← evR_moms j, List.getElem?_map, he] at hmm
        exact Option.some.inj hmm
      have hn2 := evR_num e (List.mem_of_getElem? he)
      have hlv : (lvR j r)[i]? = some (e, i) := by unfold lvR; rw [List.getElem?_zipIdx, he, Nat.zero_add]; rfl
      rw [List.take_add_one, hlv, ← List.append_assoc, List.map_append (l₂ := Option.toList _)]
      show _ = VW.sup _ _ (.lst (_ ++ [.tup [.int e.mom, .int (e.num : Int), .int (i : Int)]]))
      rw [hm2, hn2]
    · rintro env S4 ⟨v6, v7, rfl, rfl⟩
      rw [show (lvR j r).take (VW.wE (VW.D.lst (List.map VW.D.int (lawMoms r))) (List.map VW.D.int (lawMoms r))).n = lvR j r from by show (lvR j r).take (List.map VW.D.int (lawMoms r)).length = _; rw [List.length_map, ← lr, List.take_length], ← nx]
      refine ⟨_, _, _, _, rfl, rfl, ?_⟩
      rw [nx, List.length_append]
      omega
  · rintro env S4 ⟨v4, v5, v6, v7, rfl, rfl, hel⟩
    rw [show rs.take (VW.wE (VW.D.lst (rs.map Row.d)) (rs.map Row.d)).n = rs from by show rs.take (rs.map Row.d).length = rs; rw [List.length_map, List.take_length]]
    walk_at "v"
    refine ⟨⟨by omega, by rw [List.length_map]; omega⟩, by rw [List.length_map, sizeLine_eq, Int.toNat_natCast]; show 1 * rs.length ≤ _; omega, fun L hL => ?_⟩
    have e0 : (List.replicate ((rs.map Row.d).length : Int).toNat [VW.toD V.non]).flatten = (fndL [] rs.length).map An2.d := by
      rw [List.length_map, Int.toNat_natCast]
      unfold fndL
      generalize rs.length = n
      have h1 : ∀ n, (List.replicate n [VW.toD V.non]).flatten = List.replicate n VW.D.non := fun n => by
        induction n with
        | zero => rfl
        | succ n ih => rw [List.replicate_succ, List.flatten_cons, ih]; rfl
      rw [h1]
      refine (List.eq_replicate_iff.mpr ⟨by simp, fun b hb => ?_⟩).symm
      rw [List.map_map] at hb
      obtain ⟨i, _, rfl⟩ := List.mem_map.mp hb
      rfl
    rw [e0]
    have nLE : L ≠ E := fun z => by rw [z, VW.sup_same] at hL; cases hL
    have nLq : L ≠ q := fun z => by rw [z, VW.sup_ne nqE, VW.sup_same] at hL; cases hL
    have elv := lvF_fst rs 0
    have lvl : (lvF 0 rs).length < 50 := by have := congrArg List.length elv; rw [List.length_map] at this; have := gd.ev; omega
    have lok : ∀ p ∈ lvF 0 rs, LvOk rs p := lvF_ok (all := rs) few.all (i := 0) (fun j r h => by rw [Nat.zero_add]; exact h)
    have lnd : ((lvF 0 rs).map fun p => p.1.mom).Nodup := by
      have := gm.nd
      unfold moms at this
      rw [← elv, List.map_map] at this
      exact this
    have lbd : ∀ p ∈ lvF 0 rs, (0 ≤ p.1.mom ∧ p.1.mom < 1000000) ∧ p.1.num < 1000000 ∧ p.2 < 1000000 := fun p hp => by
      have b1 : 0 ≤ p.1.mom ∧ p.1.mom < 1000000 := gm.bd _ (by unfold moms; rw [← elv, List.map_map]; exact List.mem_map.mpr ⟨p, hp, rfl⟩)
      have b2 := (lok p hp).lt
      omega
    walk_at "v"
    have eN : (lvF 0 rs).map evT = ((lvF 0 rs).map evN).map VW.tupD := by rw [List.map_map]; rfl
    refine ⟨Or.inr (Or.inl ⟨E, rfl, (by rw [VW.sup_ne nLE.symm, VW.sup_same, eN] : _ = some (VW.HD.lst (((lvF 0 rs).map evN).map VW.tupD)))⟩), ?_, fun ns hns => ?_, fun mss hmss hso => ?_⟩
    · rw [List.length_map]; omega
    · obtain ⟨p, hp, rfl⟩ := List.mem_map.mp hns
      have h := lbd p hp
      refine ⟨rfl, fun m hm => ?_⟩
      have hm : m ∈ [p.1.mom, (p.1.num : Int), (p.2 : Int)] := hm
      simp only [List.mem_cons, List.not_mem_nil, or_false] at hm
      omega
    obtain ⟨l, rfl, hl, hes⟩ := ev_sorted lnd lbd hmss hso
    rw [elv] at hes
    have hll : l.length < 50 := by rw [hl.length_eq]; exact lvl
    have hlok : ∀ p ∈ l, LvOk rs p := fun p hp => lok p (hl.mem_iff.mp hp)
    unfold play at k
    rw [← hes] at k
    rw [show (l.map evN).map VW.tupD = l.map evT from by rw [List.map_map]; rfl]
    walk_at "v"
    have hq3 : VW.sup (VW.sup (VW.sup S q (.dK (VW.iK (kv ps)))) E (.lst ((lvF 0 rs).map evT))) L (.lst ((fndL [] rs.length).map An2.d)) q = some (.dK (VW.iK (kv ps))) := by rw [VW.sup_ne nLq.symm, VW.sup_ne nqE, VW.sup_same]
    have hL3 : VW.sup (VW.sup (VW.sup S q (.dK (VW.iK (kv ps)))) E (.lst ((lvF 0 rs).map evT))) L (.lst ((fndL [] rs.length).map An2.d)) L = some (.lst ((fndL [] rs.length).map An2.d)) := VW.sup_same
    have hEn : S E = none := by rw [VW.sup_ne nqE.symm] at hE; exact hE
    have hLn : S L = none := by rw [VW.sup_ne nLE, VW.sup_ne nLq] at hL; exact hL
    have hS3 : ∀ a o, S a = some o → VW.sup (VW.sup (VW.sup S q (.dK (VW.iK (kv ps)))) E (.lst ((lvF 0 rs).map evT))) L (.lst ((fndL [] rs.length).map An2.d)) a = some o := fun a o h => by
      have n1 : a ≠ q := fun z => by rw [z, hq] at h; cases h
      have n2 : a ≠ E := fun z => by rw [z, hEn] at h; cases h
      have n3 : a ≠ L := fun z => by rw [z, hLn] at h; cases h
      rw [VW.sup_ne n3, VW.sup_ne n2, VW.sup_ne n1]; exact h
    generalize VW.sup (VW.sup (VW.sup S q (.dK (VW.iK (kv ps)))) E (.lst ((lvF 0 rs).map evT))) L (.lst ((fndL [] rs.length).map An2.d)) = S3 at hq3 hL3 hS3 ⊢
    clear hmss hso elv lok lnd lbd
    have nqL : q ≠ L := nLq.symm
    refine VW.ForD.mk ⟨fun j env S4 => Wrap (∃ (v4 v5 v6 v7 v9 v10 v11 v12 v13 v14 v15 : Option VW.D) (st : Pl), env = [some x1, some (.lst (rs.map Row.d)), some (.ref q), some (.ref E), v4, v5, v6, v7, some (.ref L), v9, v10, v11, v12, v13, v14, v15] ∧ st = ((l.map (·.1)).take j).foldl (plS rs) ([], ps) ∧ S4 q = some (.dK (VW.iK (kv st.2))) ∧ S4 L = some (.lst ((fndL st.1 rs.length).map An2.d)) ∧ (∀ a o, S a = some o → S4 a = some o) ∧
      (st.2.map (·.1)).Nodup ∧ st.2.length ≤ 8 + j ∧ GK st.2 ∧ GoF rs (64 * j) st.1), ?_, fun _ _ _ _ _ => Or.inl rfl, ?_, ?_⟩
    · exact ⟨_, _, _, _, _, _, _, _, _, _, _, ([], ps), rfl, rfl, hq3, hL3, hS3, gp.nd, hpl, gd.gk, (fun n hn => by cases hn)⟩
    · rintro j x env S4 hj hx ⟨v4, v5, v6, v7, v9, v10, v11, v12, v13, v14, v15, st, rfl, est, hq4, hL4, hS4, hnd, hml, hgk, go⟩
      have hj : j < (l.map evT).length := hj
      rw [List.length_map] at hj
      obtain ⟨p, hp, rfl⟩ : ∃ p, l[j]? = some p ∧ evT p = x := by
        have hx : (l.map evT)[j]? = some x := hx
        rw [List.getElem?_map] at hx
        exact Option.map_eq_some_iff.mp hx
      have hok := hlok p (List.mem_of_getElem? hp)
      have nx : plS rs st p.1 = ((l.map (·.1)).take (j + 1)).foldl (plS rs) ([], ps) := by
        rw [List.take_add_one, List.getElem?_map, hp, List.foldl_append, ← est]; rfl
      clear est
      cases hok with
      | ask m i at1 r ka o hr2 hw _ =>
        have ha := atI_rows hr2
        have hil := (List.getElem?_eq_some_iff.mp hr2).1
        obtain ⟨z, tl, ad, a0, ez⟩ := ask_word ka
        have hwd : r.w.ad = ka.d := by rw [hw]; rfl
        have ad2 : r.w.ad = .tup (.str z :: tl) := hwd.trans ad
        have ag : ka.g := by have := gd.ask r (List.mem_of_getElem? hr2); unfold Row.askG at this; rw [hw] at this; exact this
        have ol := one_len st.2 ka
        show VW.kTup _ _ (.tup [.int m, .int (i : Int), .int (at1 : Int)]) _ S4 _
        walk_at "v"
        rw [ez]
        walk_at "v"
        refine ⟨ixN_lt (by rw [List.length_map, fndL_len]; exact hil), ?_⟩
        have eas : askAt rs i = ka := by unfold askAt; rw [hr2]; show (match some r.w with | some (.ask k _) => k | _ => .find 0) = ka; rw [hw]
        have ep : plS rs st ⟨m, i, none⟩ = (putG st.1 (i : Int) (one st.2 ka).1.up, (one st.2 ka).2) := by
          show (putG st.1 (i : Int) (one st.2 (askAt rs i)).1.up, (one st.2 (askAt rs i)).2) = _
          rw [eas]
        rw [ep] at nx
        refine ⟨_, _, _, _, _, _, _, _, _, _, _, (putG st.1 (i : Int) (one st.2 ka).1.up, (one st.2 ka).2), rfl, nx, ?_, ?_, fun a o h => ?_, one_keys hnd, by show (one st.2 ka).2.length ≤ _; omega, one_gk hgk ag, ?_⟩
        · rw [VW.sup_ne nqL]; exact VW.sup_same
        · rw [VW.sup_same, An.up_d, ← List.map_set, fndL_set hil]
        · have n1 : a ≠ q := fun z => by rw [z, hq] at h; cases h
          have n3 : a ≠ L := fun z => by rw [z, hLn] at h; cases h
          rw [VW.sup_ne n3, VW.sup_ne n1]; exact hS4 a o h
        · refine goF_put go (by omega) fun i2 r2 l2 h2 b2 ps2 e1 e2 e3 => ?_
          have : i2 = i := by omega
          subst this
          rw [hr2] at e2; cases e2
          rw [hw] at e3; cases e3
      | going m i at1 p r lo hi b pcs hr2 hw hpc hat =>
        have ha := atI_rows hr2
        have hil := (List.getElem?_eq_some_iff.mp hr2).1
        have hwd : r.w.ad = .tup [.str "going", .int lo, oI hi, .bl b] := by rw [hw]; rfl
        have hmd : r.w.md = .lst (pcs.map Pc.d) := by rw [hw]; rfl
        have hsq : VW.SeqL S4 r.w.md (pcs.map Pc.d) := Or.inl hmd
        have ap : atI (pcs.map Pc.d) (at1 : Int) = some (.tup [.int p.fst, oI p.lst, .int p.mom]) := atI_nat (by rw [List.getElem?_map, hpc]; rfl)
        have af : atI ((fndL st.1 rs.length).map An2.d) (i : Int) = some ((getG st.1 (i : Int)).getD .non).d := atI_nat (by rw [List.getElem?_map, fndL_at hil]; rfl)
        obtain ⟨hp1, hp2⟩ := prev_ok go hr2 hw
        obtain ⟨k0, htr, hk1, hk2⟩ : ∃ k0 : Bool, (∀ T, VW.TrD T ((getG st.1 (i : Int)).getD .non).d k0) ∧ (k0 = true → ((getG st.1 (i : Int)).getD .non).d = .lst ((prevR st.1 (i : Int)).map pairD)) ∧ (¬ k0 = true → prevR st.1 (i : Int) = []) := by
          rw [kvG_get] at hp1
          cases eg : getG st.1 (i : Int) with
          | none => exact ⟨false, fun _ => rfl, (fun h => by cases h), fun _ => by unfold prevR; rw [eg]⟩
          | some a =>
            rw [eg] at hp1
            have hp1 : a.d = .lst ((prevR st.1 (i : Int)).map pairD) := hp1
            refine ⟨!((prevR st.1 (i : Int)).map pairD).isEmpty, fun T => ?_, fun _ => hp1, fun h => ?_⟩
            · show VW.TrD T a.d _
              rw [hp1]; rfl
            · cases ep : prevR st.1 (i : Int) with
              | nil => rfl
              | cons x xs => rw [ep] at h; exact absurd rfl h
        have ax : atI [VW.D.lst ((rowsW st.2 p.fst p.lst).map pairD), .lst ((rowsW st.2 p.fst p.lst).map pairD).reverse] (if b = true then 1 else 0) = some (.lst ((if b then (rowsW st.2 p.fst p.lst).reverse else rowsW st.2 p.fst p.lst).map pairD)) := by
          cases b with
          | true => rw [if_pos rfl, if_pos rfl, List.map_reverse]; rfl
          | false => rfl
        have km : KM st.2 := hgk.km (by omega) hnd
        show VW.kTup _ _ (.tup [.int m, .int (i : Int), .int (at1 : Int)]) _ S4 _
        walk_at "v"
        refine ⟨congrArg VW.D.lst (kv_pairs st.2).symm, ?_⟩
        walk_at "v"
        have hrw : (rowsW st.2 p.fst p.lst).length ≤ st.2.length := by
          unfold rowsW
          exact Nat.le_trans (List.length_filter_le _ _) (Nat.le_of_eq (isort_perm st.2).length_eq)
        have hR : (if b then (rowsW st.2 p.fst p.lst).reverse else rowsW st.2 p.fst p.lst).length ≤ st.2.length := by cases b <;> simpa using hrw
        have bk : backAt rs i = b := by unfold backAt; rw [hr2]; show (match some r.w with | some (.going _ _ b _) => b | _ => false) = b; rw [hw]
        have ep : plS rs st ⟨m, i, some p⟩ = (putG st.1 (i : Int) (.rows (prevR st.1 (i : Int) ++ (if b then (rowsW st.2 p.fst p.lst).reverse else rowsW st.2 p.fst p.lst))), st.2) := by
          show (putG st.1 (i : Int) (.rows (prevR st.1 (i : Int) ++ (if backAt rs i then (rowsW st.2 p.fst p.lst).reverse else rowsW st.2 p.fst p.lst))), st.2) = _
          rw [bk]
        rw [ep] at nx
        obtain ⟨R, eR⟩ : ∃ R, R = (if b then (rowsW st.2 p.fst p.lst).reverse else rowsW st.2 p.fst p.lst) := ⟨_, rfl⟩
        rw [← eR] at nx hR
        have gof : GoF rs (64 * (j + 1)) (putG st.1 (i : Int) (.rows (prevR st.1 (i : Int) ++ R))) := goF_put go (by omega) fun i2 r2 l2 h2 b2 ps2 e1 e2 e3 => ⟨_, rfl, by rw [List.length_append]; omega⟩
        refine ⟨htr S4, ?_⟩
        refine ite2 (fun c => ?_) (fun c => ?_)
        · rw [(hk1 c : _ = VW.D.lst ((prevR st.1 (i : Int)).map pairD))]
          walk_at "v"
          rw [← eR]
          refine ⟨by rw [List.length_map, List.length_map, sizeLine_eq]; omega, ?_⟩
          walk_at "v"
          refine ⟨ixN_lt (by rw [List.length_map, fndL_len]; exact hil), ?_⟩
          refine ⟨_, _, _, _, _, _, _, _, _, _, _, (putG st.1 (i : Int) (.rows (prevR st.1 (i : Int) ++ R)), st.2), rfl, nx, ?_, ?_, fun a o h => ?_, hnd, by show st.2.length ≤ _; omega, hgk, gof⟩
          · rw [VW.sup_ne nqL]; exact hq4
          · rw [VW.sup_same, ← fndL_set hil, List.map_set]
            congr 3
            show _ = VW.D.lst ((prevR st.1 (i : Int) ++ R).map pairD)
            rw [List.map_append]
          · have n3 : a ≠ L := fun z => by rw [z, hLn] at h; cases h
            rw [VW.sup_ne n3]; exact hS4 a o h
        · have pv := hk2 c
          walk_at "v"
          rw [← eR]
          refine ⟨by rw [List.length_nil, List.length_map, sizeLine_eq]; omega, ?_⟩
          walk_at "v"
          refine ⟨ixN_lt (by rw [List.length_map, fndL_len]; exact hil), ?_⟩
          refine ⟨_, _, _, _, _, _, _, _, _, _, _, (putG st.1 (i : Int) (.rows (prevR st.1 (i : Int) ++ R)), st.2), rfl, nx, ?_, ?_, fun a o h => ?_, hnd, by show st.2.length ≤ _; omega, hgk, gof⟩
          · rw [VW.sup_ne nqL]; exact hq4
          · rw [VW.sup_same, ← fndL_set hil, List.map_set]
            congr 3
            show _ = VW.D.lst ((prevR st.1 (i : Int) ++ R).map pairD)
            rw [pv, List.nil_append, List.nil_append]
          · have n3 : a ≠ L := fun z => by rw [z, hLn] at h; cases h
            rw [VW.sup_ne n3]; exact hS4 a o h
    · rintro env S4 ⟨v4, v5, v6, v7, v9, v10, v11, v12, v13, v14, v15, st, rfl, est, hq4, hL4, hS4, hnd, hml, hgk, go⟩
      rw [show (l.map (·.1)).take (VW.wL (VW.D.lst (l.map evT)) (l.map evT)).n = l.map (·.1) from by show (l.map (·.1)).take (l.map evT).length = _; rw [List.length_map]; exact List.take_of_length_le (by rw [List.length_map]; exact Nat.le_refl _)] at est
      rw [← est] at k
      walk_at "v"
      exact k L q S4 nLq hL4 hq4 hS4

local macro_rules | `(tactic| walk_at "vf") => `(tactic| first
  | ((with_reducible show VW.DGot _ _ _ _); exact dgotA (by walk_at "sq"))
  | ((with_reducible show VW.DPutD _ _ _ _ _); exact dputA (by walk_at "sp") (by first | assumption | walk_at "arith"))
  | ((with_reducible show VW.DPopD _ _ _ _ _); exact dpopA (by walk_at "sp") (by assumption)))

/-! ### texts of answers: they tell which answer it is -/
def dgs (p : Int × Int) : Prop := (0 ≤ p.1 ∧ p.1 ≤ 9) ∧ 0 ≤ p.2 ∧ p.2 ≤ 9
def txP (p : Int × Int) : List Nat := [40, 48 + p.1.toNat, 44, 32, 48 + p.2.toNat, 41]
def txJ : List (Int × Int) → List Nat
  | [] => []
  | [p] => txP p
  | p :: q :: r => txP p ++ ([44, 32] ++ txJ (q :: r))
def prP (p : Int × Int) : PyData := .tuple [.int p.1, .int p.2]
theorem pair_text : ∀ a b : Fin 10, (prP (((a : Nat) : Int), ((b : Nat) : Int))).shown.cps.toList = txP (((a : Nat) : Int), ((b : Nat) : Int)) := by decide +kernel
theorem prP_text {p : Int × Int} (h : dgs p) : (prP p).shown.cps.toList = txP p := by
  obtain ⟨⟨h1, h2⟩, h3, h4⟩ := h
  have := pair_text ⟨p.1.toNat, by omega⟩ ⟨p.2.toNat, by omega⟩
  have e1 : ((p.1.toNat : Nat) : Int) = p.1 := by omega
  have e2 : ((p.2.toNat : Nat) : Int) = p.2 := by omega
  have this : (prP (((p.1.toNat : Nat) : Int), ((p.2.toNat : Nat) : Int))).shown.cps.toList = txP (((p.1.toNat : Nat) : Int), ((p.2.toNat : Nat) : Int)) := this
  rw [e1, e2] at this
  exact this
theorem txP_inj {p q : Int × Int} (hp : dgs p) (hq : dgs q) (h : txP p = txP q) : p = q := by
  unfold txP at h
  simp only [List.cons.injEq, and_true, true_and] at h
  obtain ⟨⟨h1, h2⟩, h3, h4⟩ := hp
  obtain ⟨⟨k1, k2⟩, k3, k4⟩ := hq
  exact Prod.ext (by omega) (by omega)
theorem txJ_len : ∀ (p : Int × Int) (r : List (Int × Int)), (txJ (p :: r)).length = 6 + 8 * r.length
  | p, [] => rfl
  | p, q :: r => by
    show (txP p ++ ([44, 32] ++ txJ (q :: r))).length = _
    rw [List.length_append, List.length_append, txJ_len q r]
    show 6 + (2 + (6 + 8 * r.length)) = 6 + 8 * (r.length + 1)
    omega
theorem txJ_inj : ∀ {xs ys : List (Int × Int)}, (∀ p ∈ xs, dgs p) → (∀ p ∈ ys, dgs p) → txJ xs = txJ ys → xs = ys
  | [], [], _, _, _ => rfl
  | [], q :: s, _, _, h => by have := congrArg List.length h; rw [txJ_len] at this; exact absurd this (by show ¬ 0 = _; omega)
  | p :: r, [], _, _, h => by have := congrArg List.length h; rw [txJ_len] at this; exact absurd this (by show ¬ _ = 0; omega)
  | [p], [q], hp, hq, h => by rw [txP_inj (hp p List.mem_cons_self) (hq q List.mem_cons_self) h]
  | [p], q :: q2 :: s, _, _, h => by have := congrArg List.length h; rw [txJ_len, txJ_len] at this; simp only [List.length_cons, List.length_nil] at this; omega
  | p :: p2 :: r, [q], _, _, h => by have := congrArg List.length h; rw [txJ_len, txJ_len] at this; simp only [List.length_cons, List.length_nil] at this; omega
  | p :: p2 :: r, q :: q2 :: s, hp, hq, h => by
    have h : txP p ++ ([44, 32] ++ txJ (p2 :: r)) = txP q ++ ([44, 32] ++ txJ (q2 :: s)) := h
    obtain ⟨h1, h2⟩ := List.append_inj h rfl
    obtain ⟨_, h3⟩ := List.append_inj h2 rfl
    rw [txP_inj (hp p List.mem_cons_self) (hq q List.mem_cons_self) h1, txJ_inj (fun z hz => hp z (List.mem_cons_of_mem _ hz)) (fun z hz => hq z (List.mem_cons_of_mem _ hz)) h3]
theorem join_text : ∀ {xs : List (Int × Int)}, (∀ p ∈ xs, dgs p) → (Str.join ", " (PyData.shownAll (xs.map prP))).cps.toList = txJ xs
  | [], _ => rfl
  | [p], h => by
    rw [List.map_cons, PyData.shownAll_cons]
    show (prP p).shown.cps.toList = txP p
    exact prP_text (h p List.mem_cons_self)
  | p :: q :: r, h => by
    have ih := join_text (xs := q :: r) fun z hz => h z (List.mem_cons_of_mem _ hz)
    rw [List.map_cons, PyData.shownAll_cons] at ih
    rw [List.map_cons, List.map_cons, PyData.shownAll_cons, PyData.shownAll_cons]
    show ((prP p).shown ++ ", " ++ Str.join ", " ((prP q).shown :: PyData.shownAll (r.map prP))).cps.toList = txP p ++ ([44, 32] ++ txJ (q :: r))
    rw [Str.cps_append, Str.cps_append, Array.toList_append, Array.toList_append, ih, prP_text (h p List.mem_cons_self), List.append_assoc]
    rfl
theorem rows_text {xs : List (Int × Int)} (h : ∀ p ∈ xs, dgs p) : (PyData.list (xs.map prP)).shown.cps.toList = 91 :: (txJ xs ++ [93]) := by
  rw [PyData.shown_list, Str.cps_append, Str.cps_append, Array.toList_append, Array.toList_append, join_text h]
  rfl
def An2.g : An2 → Prop
  | .non => True
  | .bl _ => True
  | .int i => -9 ≤ i ∧ i ≤ 9
  | .rows xs => (∀ p ∈ xs, dgs p) ∧ xs.length ≤ 600
def an2All : List An2 := [.non, .bl true, .bl false, .int (-9), .int (-8), .int (-7), .int (-6), .int (-5), .int (-4), .int (-3), .int (-2), .int (-1), .int 0, .int 1, .int 2, .int 3, .int 4, .int 5, .int 6, .int 7, .int 8, .int 9]
theorem an2_mem {a : An2} (g : a.g) : a ∈ an2All ∨ ∃ xs, a = .rows xs := by
  cases a with
  | non => left; simp [an2All]
  | bl b => left; cases b <;> simp [an2All]
  | int i =>
    left
    obtain ⟨h0, h1⟩ := g
    rcases (by omega : i = -9 ∨ i = -8 ∨ i = -7 ∨ i = -6 ∨ i = -5 ∨ i = -4 ∨ i = -3 ∨ i = -2 ∨ i = -1 ∨ i = 0 ∨ i = 1 ∨ i = 2 ∨ i = 3 ∨ i = 4 ∨ i = 5 ∨ i = 6 ∨ i = 7 ∨ i = 8 ∨ i = 9) with rfl | rfl | rfl | rfl | rfl | rfl | rfl | rfl | rfl | rfl | rfl | rfl | rfl | rfl | rfl | rfl | rfl | rfl | rfl <;> simp [an2All]
  | rows xs => exact .inr ⟨xs, rfl⟩
theorem an2_small : ∀ a ∈ an2All, ∀ b ∈ an2All, decide (a.p.shown = b.p.shown) = decide (a = b) := by decide +kernel
theorem an2_head : ∀ a ∈ an2All, decide (a.p.shown.cps.toList.head? = some 91) = false := by decide +kernel
theorem an2_shown {a b : An2} (ga : a.g) (gb : b.g) : decide (a.p.shown = b.p.shown) = decide (a = b) := by
  have hr : ∀ {xs}, (An2.rows xs).g → (An2.rows xs).p.shown.cps.toList.head? = some 91 := fun {xs} g => by
    show (PyData.list (xs.map prP)).shown.cps.toList.head? = some 91
    rw [rows_text g.1]; rfl
  rcases an2_mem ga with ha | ⟨xs, rfl⟩
  · rcases an2_mem gb with hb | ⟨ys, rfl⟩
    · exact an2_small a ha b hb
    · have h1 := of_decide_eq_false (an2_head a ha)
      rw [decide_eq_false, decide_eq_false]
      · rintro rfl
        exact h1 (hr gb)
      · intro e
        rw [e] at h1
        exact h1 (hr gb)
  · rcases an2_mem gb with hb | ⟨ys, rfl⟩
    · have h1 := of_decide_eq_false (an2_head b hb)
      rw [decide_eq_false, decide_eq_false]
      · rintro rfl
        exact h1 (hr ga)
      · intro e
        rw [← e] at h1
        exact h1 (hr ga)
    · by_cases e : xs = ys
      · rw [e, decide_eq_true rfl, decide_eq_true rfl]
      · rw [decide_eq_false, decide_eq_false]
        · intro h; exact e (by cases h; rfl)
        · intro h
          have h : (PyData.list (xs.map prP)).shown = (PyData.list (ys.map prP)).shown := h
          have h2 := congrArg (fun s : Str => s.cps.toList) h
          have h2 : (PyData.list (xs.map prP)).shown.cps.toList = (PyData.list (ys.map prP)).shown.cps.toList := h2
          rw [rows_text ga.1, rows_text gb.1] at h2
          have h3 := (List.cons.inj h2).2
          exact e (txJ_inj ga.1 gb.1 (List.append_inj' h3 rfl).1)

local macro_rules | `(tactic| walk_at "vf") => `(tactic| first
  | ((with_reducible show VW.DGot _ _ _ _); exact dgotA (by walk_at "sq"))
  | ((with_reducible show VW.DPutD _ _ _ _ _); exact dputA (by walk_at "sp") (by first | assumption | walk_at "arith"))
  | ((with_reducible show VW.DPopD _ _ _ _ _); exact dpopA (by walk_at "sp") (by assumption)))

/-! ### data that are small: how long their text is, at most -/
abbrev IB (i : Int) : Prop := -1000000000000000000000000000000000000 < i ∧ i < 1000000000000000000000000000000000000
structure Sm (n k : Nat) (d : PyData) : Prop where
  ls : d.leavesShort 40 = true
  sh : d.showable = true
  wt : d.weight ≤ n
  dp : d.depth ≤ k
  cl : d.canLay0 = true
structure SmAll (n k : Nat) (ds : List PyData) : Prop where
  ls : PyData.leavesShortAll 40 ds = true
  sh : PyData.showableAll ds = true
  wt : PyData.weightAll ds ≤ n
  dp : PyData.depthAll ds ≤ k
  cl : PyData.canLayAll0 ds = true
theorem ib_nat {i : Int} (h : IB i) : i.natAbs < 10 ^ 36 := by
  have e : (10 : Nat) ^ 36 = 1000000000000000000000000000000000000 := by decide
  rw [e]
  obtain ⟨h1, h2⟩ := h
  omega
theorem ib_log {i : Int} (h : IB i) : i.natAbs.log2 < 120 := by
  have h1 : i.natAbs < 2 ^ 120 := Nat.lt_of_lt_of_le (ib_nat h) (by decide)
  by_cases c : i.natAbs = 0
  · rw [c]; decide
  · exact (Nat.log2_lt c).mpr h1
theorem Sm.int {i : Int} (h : IB i) : Sm 120 0 (.int i) := by
  refine ⟨?_, ?_, ?_, ?_, rfl⟩
  · have e : (PyData.shown (.int i)).length ≤ 40 := by
      rw [PyData.shown_int, ofString_length]
      exact Nat.le_trans (int_text_length_le10 (k := 36) (by decide) (ib_nat h)) (by decide)
    simpa only [PyData.leavesShort, decide_eq_true_eq] using e
  · simp only [PyData.showable, decide_eq_true_eq]
    have := ib_log h
    omega
  · simp only [PyData.weight]
    have := ib_log h
    split <;> omega
  · simp only [PyData.depth]; exact Nat.le_refl _
theorem Sm.non : Sm 0 0 .none := by
  refine ⟨?_, ?_, ?_, ?_, rfl⟩ <;> simp [PyData.leavesShort, PyData.showable, PyData.weight, PyData.depth]
theorem Sm.str {z : Str} (h : (PyData.str z).leavesShort 40 = true) (hs : (PyData.str z).canLay0 = true := by first | assumption | (rw [PyData.canLay0]; decide +kernel)) : Sm z.cps.size 0 (.str z) :=
  ⟨h, by simp only [PyData.showable], by simp only [PyData.weight]; exact Nat.le_refl _, by simp only [PyData.depth]; exact Nat.le_refl _, hs⟩
theorem SmAll.nil : SmAll 0 0 [] := by
  refine ⟨?_, ?_, ?_, ?_, rfl⟩ <;> simp [PyData.leavesShortAll, PyData.showableAll, PyData.weightAll, PyData.depthAll]
theorem Sm.mono {n k n' k' : Nat} {d : PyData} (h : Sm n k d) (hn : n ≤ n') (hk : k ≤ k') : Sm n' k' d := ⟨h.ls, h.sh, Nat.le_trans h.wt hn, Nat.le_trans h.dp hk, h.cl⟩
theorem SmAll.mono {n k n' k' : Nat} {d : List PyData} (h : SmAll n k d) (hn : n ≤ n') (hk : k ≤ k') : SmAll n' k' d := ⟨h.ls, h.sh, Nat.le_trans h.wt hn, Nat.le_trans h.dp hk, h.cl⟩
theorem SmAll.cons {a b k : Nat} {d : PyData} {r : List PyData} (h : Sm a k d) (t : SmAll b k r) : SmAll (a + 1 + b) k (d :: r) := by
  refine ⟨?_, ?_, ?_, ?_, by rw [PyData.canLayAll0, h.cl, t.cl]; rfl⟩
  · simp only [PyData.leavesShortAll, h.ls, t.ls, Bool.and_self]
  · simp only [PyData.showableAll, h.sh, t.sh, Bool.and_self]
  · have h1 := h.wt; have h2 := t.wt; simp only [PyData.weightAll]; omega
  · have h1 := h.dp; have h2 := t.dp; simp only [PyData.depthAll]; omega
theorem Sm.tup {n k : Nat} {ds : List PyData} (h : SmAll n k ds) : Sm n (k + 1) (.tuple ds) := by
  refine ⟨?_, ?_, ?_, ?_, by rw [PyData.canLay0]; exact h.cl⟩
  · simp only [PyData.leavesShort]; exact h.ls
  · simp only [PyData.showable]; exact h.sh
  · simp only [PyData.weight]; exact h.wt
  · have := h.dp; simp only [PyData.depth]; omega
theorem SmAll.of {n k : Nat} : ∀ {ds : List PyData}, (∀ d ∈ ds, Sm n k d) → SmAll ((n + 1) * ds.length) k ds
  | [], _ => SmAll.nil.mono (Nat.zero_le _) (Nat.zero_le _)
  | d :: r, h => by
    have t := SmAll.of (ds := r) fun e he => h e (List.mem_cons_of_mem _ he)
    refine (SmAll.cons (h d List.mem_cons_self) t).mono ?_ (Nat.le_refl _)
    rw [List.length_cons, Nat.mul_add, Nat.mul_one]
    omega
/-- a record that is drawn -/
abbrev SmR (d : PyData) : Prop := Sm 4000 4 d
def RowSm (d : PyData) : Prop := ∃ k v : Int, d = .tuple [.int k, .int v] ∧ IB k ∧ IB v
theorem RowSm.sm {d : PyData} (h : RowSm d) : Sm 300 1 d := by
  obtain ⟨k, v, rfl, h1, h2⟩ := h
  exact (Sm.tup (.cons (.int h1) (.cons (.int h2) .nil))).mono (by decide) (Nat.le_refl _)
theorem rows_sm {ds : List PyData} (hl : ds.length ≤ 9) (h : ∀ d ∈ ds, RowSm d) : Sm 2800 2 (.tuple ds) := by
  refine (Sm.tup (SmAll.of fun d hd => (h d hd).sm)).mono ?_ (Nat.le_refl _)
  have : (300 + 1) * ds.length ≤ (300 + 1) * 9 := Nat.mul_le_mul_left _ hl
  omega
def drawWords : List Str := ["leaf", "bough", "moved", "put", "take", "part", "entry", "less", "gone", "join", "joining", "lowering"]
theorem word_sm {z : Str} (h : z ∈ drawWords) : Sm 20 0 (.str z) := by
  have e : z = "leaf" ∨ z = "bough" ∨ z = "moved" ∨ z = "put" ∨ z = "take" ∨ z = "part" ∨ z = "entry" ∨ z = "less" ∨ z = "gone" ∨ z = "join" ∨ z = "joining" ∨ z = "lowering" := by simpa [drawWords] using h
  rcases e with rfl | rfl | rfl | rfl | rfl | rfl | rfl | rfl | rfl | rfl | rfl | rfl <;>
    exact (Sm.str (by simp only [PyData.leavesShort]; decide +kernel)).mono (by decide +kernel) (Nat.le_refl _)
theorem form_sm {z : Str} {ns : List Int} (hz : z ∈ drawWords) (hl : ns.length ≤ 4) (h : ∀ n ∈ ns, IB n) : SmR (.tuple (.str z :: ns.map .int)) := by
  have t : SmAll ((120 + 1) * (ns.map PyData.int).length) 0 (ns.map PyData.int) := SmAll.of fun d hd => by
    obtain ⟨n, hn, rfl⟩ := List.mem_map.mp hd
    exact .int (h n hn)
  refine (Sm.tup (SmAll.cons (word_sm hz) t)).mono ?_ (by decide)
  rw [List.length_map]
  have : (120 + 1) * ns.length ≤ (120 + 1) * 4 := Nat.mul_le_mul_left _ hl
  omega
/-- none, or a number -/
def OptI (d : PyData) : Prop := d = .none ∨ ∃ i, d = .int i ∧ IB i
theorem OptI.sm {d : PyData} (h : OptI d) : Sm 120 0 d := by
  rcases h with rfl | ⟨i, rfl, h⟩
  · exact Sm.non.mono (by decide) (Nat.le_refl _)
  · exact .int h
theorem leaf_sm {lo : Int} {hi ri : PyData} {ds : List PyData} (h0 : IB lo) (h1 : OptI hi) (h2 : OptI ri) (hl : ds.length ≤ 9) (h : ∀ d ∈ ds, RowSm d) : SmR (.tuple [.str "leaf", .int lo, hi, ri, .tuple ds]) :=
  (Sm.tup (.cons ((word_sm (by simp [drawWords])).mono (Nat.le_refl _) (by decide)) (.cons ((Sm.int h0).mono (Nat.le_refl _) (by decide)) (.cons (h1.sm.mono (Nat.le_refl _) (by decide)) (.cons (h2.sm.mono (Nat.le_refl _) (by decide)) (.cons ((rows_sm hl h).mono (Nat.le_refl _) (by decide : 2 ≤ 3)) (SmAll.nil.mono (Nat.le_refl _) (by decide)))))))).mono (by decide) (by decide)
theorem bough_sm {lv lo : Int} {hi ri : PyData} {ds : List PyData} (h9 : IB lv) (h0 : IB lo) (h1 : OptI hi) (h2 : OptI ri) (hl : ds.length ≤ 9) (h : ∀ d ∈ ds, RowSm d) : SmR (.tuple [.str "bough", .int lv, .int lo, hi, ri, .tuple ds]) :=
  (Sm.tup (.cons ((word_sm (by simp [drawWords])).mono (Nat.le_refl _) (by decide)) (.cons ((Sm.int h9).mono (Nat.le_refl _) (by decide)) (.cons ((Sm.int h0).mono (Nat.le_refl _) (by decide)) (.cons (h1.sm.mono (Nat.le_refl _) (by decide)) (.cons (h2.sm.mono (Nat.le_refl _) (by decide)) (.cons ((rows_sm hl h).mono (Nat.le_refl _) (by decide : 2 ≤ 3)) (SmAll.nil.mono (Nat.le_refl _) (by decide))))))))).mono (by decide) (by decide)

/-! ### data that are small, dicts too -/
structure Sq (n k : Nat) (d : PyData) : Prop where
  ls : d.leavesShort 40 = true
  sh : d.showable = true
  wt : d.weight ≤ n
  dp : d.depth ≤ k
structure SqAll (n k : Nat) (ds : List PyData) : Prop where
  ls : PyData.leavesShortAll 40 ds = true
  sh : PyData.showableAll ds = true
  wt : PyData.weightAll ds ≤ n
  dp : PyData.depthAll ds ≤ k
theorem Sm.sq {n k : Nat} {d : PyData} (h : Sm n k d) : Sq n k d := ⟨h.ls, h.sh, h.wt, h.dp⟩
theorem Sq.mono {n k n' k' : Nat} {d : PyData} (h : Sq n k d) (hn : n ≤ n') (hk : k ≤ k') : Sq n' k' d := ⟨h.ls, h.sh, Nat.le_trans h.wt hn, Nat.le_trans h.dp hk⟩
theorem SqAll.nil {k : Nat} : SqAll 0 k [] := ⟨rfl, rfl, Nat.le_refl _, Nat.zero_le _⟩
theorem SqAll.mono {n k n' k' : Nat} {d : List PyData} (h : SqAll n k d) (hn : n ≤ n') (hk : k ≤ k') : SqAll n' k' d := ⟨h.ls, h.sh, Nat.le_trans h.wt hn, Nat.le_trans h.dp hk⟩
theorem SqAll.cons {a b k : Nat} {d : PyData} {r : List PyData} (h : Sq a k d) (t : SqAll b k r) : SqAll (a + 1 + b) k (d :: r) := by
  refine ⟨?_, ?_, ?_, ?_⟩
  · simp only [PyData.leavesShortAll, h.ls, t.ls, Bool.and_self]
  · simp only [PyData.showableAll, h.sh, t.sh, Bool.and_self]
  · have := h.wt; have := t.wt; simp only [PyData.weightAll]; omega
  · have := h.dp; have := t.dp; simp only [PyData.depthAll]; omega
theorem Sq.tup {n k : Nat} {ds : List PyData} (h : SqAll n k ds) : Sq n (k + 1) (.tuple ds) := by
  refine ⟨by simpa only [PyData.leavesShort] using h.ls, by simpa only [PyData.showable] using h.sh, ?_, ?_⟩
  · have := h.wt; simp only [PyData.weight]; omega
  · have := h.dp; simp only [PyData.depth]; omega
theorem Sq.lst {n k : Nat} {ds : List PyData} (h : SqAll n k ds) : Sq n (k + 1) (.list ds) := by
  refine ⟨by simpa only [PyData.leavesShort] using h.ls, by simpa only [PyData.showable] using h.sh, ?_, ?_⟩
  · have := h.wt; simp only [PyData.weight]; omega
  · have := h.dp; simp only [PyData.depth]; omega
theorem Sq.bl {b : Bool} : Sq 10 0 (.bool b) := by
  cases b <;> refine ⟨?_, ?_, ?_, ?_⟩ <;> simp [PyData.leavesShort, PyData.showable, PyData.weight, PyData.depth]
theorem Sq.dict0 : Sq 10 1 (.dict []) := by
  refine ⟨?_, ?_, ?_, ?_⟩ <;> simp [PyData.leavesShort, PyData.leavesShortKv, PyData.showable, PyData.showableKv, PyData.weight, PyData.weightKv, PyData.depth, PyData.depthKv]
/-- a value, wherever it stands -/
def Sh (n k : Nat) (x : VW.D) : Prop := ∃ d, (∀ S, VW.Pq S x d) ∧ Sq n k d
def ShA (n k : Nat) (xs : List VW.D) : Prop := ∃ ds, (∀ S, VW.PqAll S xs ds) ∧ SqAll n k ds
theorem Sh.mono {n k n' k' : Nat} {x : VW.D} (h : Sh n k x) (hn : n ≤ n') (hk : k ≤ k') : Sh n' k' x := let ⟨d, a, b⟩ := h; ⟨d, a, b.mono hn hk⟩
theorem ShA.nil {k : Nat} : ShA 0 k [] := ⟨[], fun _ => .nil, .nil⟩
theorem ShA.mono {n k n' k' : Nat} {x : List VW.D} (h : ShA n k x) (hn : n ≤ n') (hk : k ≤ k') : ShA n' k' x := let ⟨d, a, b⟩ := h; ⟨d, a, b.mono hn hk⟩
theorem ShA.cons {a b k : Nat} {x : VW.D} {xs : List VW.D} (h : Sh a k x) (t : ShA b k xs) : ShA (a + 1 + b) k (x :: xs) := by
  obtain ⟨d, h1, h2⟩ := h
  obtain ⟨ds, t1, t2⟩ := t
  exact ⟨d :: ds, fun S => .cons (h1 S) (t1 S), .cons h2 t2⟩
theorem Sh.tup {n k : Nat} {xs : List VW.D} (h : ShA n k xs) : Sh n (k + 1) (.tup xs) := let ⟨ds, a, b⟩ := h; ⟨.tuple ds, fun S => .tup (a S), .tup b⟩
theorem Sh.lst {n k : Nat} {xs : List VW.D} (h : ShA n k xs) : Sh n (k + 1) (.lst xs) := let ⟨ds, a, b⟩ := h; ⟨.list ds, fun S => .lst (a S), .lst b⟩
theorem Sh.int {i : Int} (h : IB i) : Sh 120 0 (.int i) := ⟨_, fun _ => .int i, (Sm.int h).sq⟩
theorem ShA.of {n k : Nat} : ∀ {xs : List VW.D}, (∀ x ∈ xs, Sh n k x) → ShA ((n + 1) * xs.length) k xs
  | [], _ => ShA.nil.mono (Nat.zero_le _) (Nat.le_refl _)
  | x :: xs, h => by
    refine (ShA.cons (h x List.mem_cons_self) (ShA.of fun y hy => h y (List.mem_cons_of_mem _ hy))).mono ?_ (Nat.le_refl _)
    rw [List.length_cons, Nat.mul_add]; omega
/-- its text -/
theorem Sq.txt {n k : Nat} {d : PyData} (s : Sq n k d) (hn : n ≤ 300000) (hk : k ≤ 60) : d.showable = true ∧ d.depth ≤ 60 ∧ d.shown.length ≤ 16000000 := by
  refine ⟨s.sh, Nat.le_trans s.dp hk, ?_⟩
  have a := PyData.shown_le 40 (by decide) d s.ls
  have b : (40 + 2) * d.weight ≤ 42 * 300000 := Nat.mul_le_mul_left _ (Nat.le_trans s.wt hn)
  omega
theorem ib_small {i : Int} (h0 : 0 ≤ i) (h1 : i ≤ 1000) : IB i := by constructor <;> omega
theorem Sh.str {z : Str} (h : (PyData.str z).leavesShort 40 = true) : Sh z.cps.size 0 (.str z) :=
  ⟨_, fun _ => .str z, h, by simp only [PyData.showable], by simp only [PyData.weight]; exact Nat.le_refl _, by simp only [PyData.depth]; exact Nat.le_refl _⟩
theorem Sh.non : Sh 0 0 .non := ⟨_, fun _ => .non, Sm.non.sq⟩
theorem Sh.bl {b : Bool} : Sh 10 0 (.bl b) := ⟨_, fun _ => .bl b, .bl⟩
theorem Sh.dict0 : Sh 10 1 (.dK []) := ⟨.dict [], fun _ => .dK rfl .nil, .dict0⟩

/-! ### what a play leads to is small -/
def An2.gn (n : Nat) : An2 → Prop
  | .non => True
  | .bl _ => True
  | .int i => -9 ≤ i ∧ i ≤ 9
  | .rows xs => (∀ p ∈ xs, dgs p) ∧ xs.length ≤ n
theorem An2.gn.mono {n m : Nat} {a : An2} (h : a.gn n) (l : n ≤ m) : a.gn m := by
  cases a with
  | rows xs => exact ⟨h.1, Nat.le_trans h.2 l⟩
  | _ => exact h
theorem An2.gn.g {n : Nat} {a : An2} (h : a.gn n) (l : n ≤ 600) : a.g := by
  cases a with
  | rows xs => exact ⟨h.1, Nat.le_trans h.2 l⟩
  | _ => exact h
theorem up_len : ∀ {xs : List (Int × Int)} {a : Int}, Up xs → (∀ p ∈ xs, a ≤ p.1 ∧ p.1 ≤ 9) → a ≤ 10 → (xs.length : Int) ≤ 10 - a
  | [], a, _, _, h => by show (0 : Int) ≤ 10 - a; omega
  | x :: r, a, hu, hb, _ => by
    have hu' := List.pairwise_cons.mp hu
    have hx := hb x List.mem_cons_self
    have := up_len (xs := r) (a := x.1 + 1) hu'.2 (fun p hp => ⟨by have := hu'.1 p hp; omega, (hb p (List.mem_cons_of_mem _ hp)).2⟩) (by omega)
    rw [List.length_cons]
    omega
theorem GK.len {m : List (Int × Int)} (g : GK m) (nd : (m.map (·.1)).Nodup) : m.length ≤ 10 := by
  have := up_len (isort_up nd) (a := 0) (fun p hp => (g p ((isort_perm m).mem_iff.mp hp)).1) (by omega)
  rw [(isort_perm m).length_eq] at this
  omega
theorem GK.rowsW {m : List (Int × Int)} (g : GK m) (nd : (m.map (·.1)).Nodup) (lo : Int) (hi : Option Int) : (∀ p ∈ rowsW m lo hi, dgs p) ∧ (rowsW m lo hi).length ≤ 10 := by
  unfold LawK67.rowsW
  refine ⟨fun p hp => ?_, ?_⟩
  · have h := g p ((isort_perm m).mem_iff.mp (List.mem_filter.mp hp).1)
    have h2 := h.2
    unfold sm4 at h2
    exact ⟨h.1, h2.1, by omega⟩
  · refine Nat.le_trans (List.length_filter_le _ _) ?_
    rw [(isort_perm m).length_eq]
    exact g.len nd
theorem putG_mem {α : Type} {F : List (Int × α)} {k : Int} {a : α} {p : Int × α} (h : p ∈ putG F k a) : p.2 = a ∨ p ∈ F := by
  unfold putG at h
  split at h
  · obtain ⟨q, hq, rfl⟩ := List.mem_map.mp h
    split
    · exact .inl rfl
    · exact .inr hq
  · rcases List.mem_append.mp h with h | h
    · exact .inr h
    · rw [List.mem_singleton.mp h]; exact .inl rfl
theorem getG_mem {α : Type} {F : List (Int × α)} {k : Int} {a : α} (h : getG F k = some a) : (k, a) ∈ F := by
  unfold getG at h
  obtain ⟨p, hp, rfl⟩ := Option.map_eq_some_iff.mp h
  have hk : p.1 = k := by simpa using List.find?_some hp
  rw [← hk]
  exact List.mem_of_find?_eq_some hp
theorem one_an {m : List (Int × Int)} {a : Ask} (g : GK m) : (one m a).1.up.gn 0 := by
  have h : ∀ k, (oA (getA m k)).up.gn 0 := fun k => by
    unfold getA
    cases e : m.find? fun p => decide (p.1 = k) with
    | none => trivial
    | some p =>
      have := (g p (List.mem_of_find?_eq_some e)).2
      unfold sm4 at this
      show -9 ≤ p.2 ∧ p.2 ≤ 9
      omega
  cases a with
  | find k => exact h k
  | put k v => exact h k
  | take k => exact h k
  | change k o n =>
    show (if getA m k = some o then (An.bl true, putA m k n) else (.bl false, m)).1.up.gn 0
    split <;> trivial
structure PlG (rs : List Row) (n : Nat) (st : Pl) : Prop where
  an : ∀ p ∈ st.1, p.2.gn n
  gk : GK st.2
  nd : (st.2.map (·.1)).Nodup
  go : GoF rs n st.1
theorem plS_good {rs : List Row} {n : Nat} {st : Pl} {e : Ev} (ga : ∀ r ∈ rs, r.askG) (g : PlG rs n st) (h : EvOk rs e) : PlG rs (n + 10) (plS rs st e) := by
  cases h with
  | ask m i r k o h1 h2 =>
    have ag : k.g := by have := ga r (List.mem_of_getElem? h1); unfold Row.askG at this; rw [h2] at this; exact this
    have eas : askAt rs i = k := by unfold askAt; rw [h1]; show (match some r.w with | some (.ask k _) => k | _ => .find 0) = k; rw [h2]
    show PlG rs (n + 10) (putG st.1 (i : Int) (one st.2 (askAt rs i)).1.up, (one st.2 (askAt rs i)).2)
    rw [eas]
    refine ⟨fun p hp => ?_, one_gk g.gk ag, one_keys g.nd, goF_put g.go (by omega) fun i2 r2 l2 h2' b2 ps2 e1 e2 e3 => ?_⟩
    · rcases putG_mem hp with e | e
      · rw [e]; exact (one_an g.gk).mono (Nat.zero_le _)
      · exact (g.an p e).mono (by omega)
    · have : i2 = i := by omega
      subst this
      rw [h1] at e2; cases e2
      rw [h2] at e3; cases e3
  | going m i p r l hh b ps h1 h2 =>
    show PlG rs (n + 10) (putG st.1 (i : Int) (.rows (prevR st.1 (i : Int) ++ (if backAt rs i then (rowsW st.2 p.fst p.lst).reverse else rowsW st.2 p.fst p.lst))), st.2)
    obtain ⟨w1, w2⟩ := g.gk.rowsW g.nd p.fst p.lst
    obtain ⟨p1, p2⟩ : (∀ q ∈ prevR st.1 (i : Int), dgs q) ∧ (prevR st.1 (i : Int)).length ≤ n := by
      unfold prevR
      cases e : getG st.1 (i : Int) with
      | none => exact ⟨fun q hq => (List.not_mem_nil hq).elim, Nat.zero_le _⟩
      | some a =>
        have := g.an _ (getG_mem e)
        cases a with
        | rows xs => exact this
        | _ => exact ⟨fun q hq => (List.not_mem_nil hq).elim, Nat.zero_le _⟩
    have hR : (∀ q ∈ (if backAt rs i then (rowsW st.2 p.fst p.lst).reverse else rowsW st.2 p.fst p.lst), dgs q) ∧ (if backAt rs i then (rowsW st.2 p.fst p.lst).reverse else rowsW st.2 p.fst p.lst).length ≤ 10 := by
      split
      · exact ⟨fun q hq => w1 q (List.mem_reverse.mp hq), by rw [List.length_reverse]; exact w2⟩
      · exact ⟨w1, w2⟩
    refine ⟨fun q hq => ?_, g.gk, g.nd, goF_put g.go (by omega) fun i2 r2 l2 h2' b2 ps2 e1 e2 e3 => ⟨_, rfl, by rw [List.length_append]; omega⟩⟩
    rcases putG_mem hq with e | e
    · rw [e]
      refine ⟨fun z hz => ?_, by rw [List.length_append]; omega⟩
      rcases List.mem_append.mp hz with hz | hz
      · exact p1 z hz
      · exact hR.1 z hz
    · exact (g.an q e).mono (by omega)
theorem fold_good {rs : List Row} (ga : ∀ r ∈ rs, r.askG) : ∀ (es : List Ev) (st : Pl) (n : Nat), (∀ e ∈ es, EvOk rs e) → PlG rs n st → PlG rs (n + 10 * es.length) (es.foldl (plS rs) st)
  | [], st, n, _, g => g
  | e :: es, st, n, h, g => by
    have := fold_good ga es (plS rs st e) (n + 10) (fun z hz => h z (List.mem_cons_of_mem _ hz)) (plS_good ga g (h e List.mem_cons_self))
    rw [List.length_cons, show n + 10 * (es.length + 1) = n + 10 + 10 * es.length by omega]
    exact this
theorem PlG.mono {rs : List Row} {n m : Nat} {st : Pl} (g : PlG rs n st) (l : n ≤ m) : PlG rs m st :=
  ⟨fun p hp => (g.an p hp).mono l, g.gk, g.nd, fun p hp i r l' h b ps e1 e2 e3 => let ⟨xs, e, hl⟩ := g.go p hp i r l' h b ps e1 e2 e3; ⟨xs, e, Nat.le_trans hl l⟩⟩
theorem play_good {rs : List Row} {ps : List (Int × Int)} (gd : Gd rs ps) : PlG rs 500 (play rs ps) := by
  have h := fold_good gd.ask (esort (evF 0 rs)) ([], ps) 0 (fun e he => evF_ok (all := rs) (i := 0) (fun j r h => by rw [Nat.zero_add]; exact h) e ((esort_perm _).mem_iff.mp he))
    ⟨(fun p hp => by cases hp), gd.gk, gd.prs.nd, (fun n hn => by cases hn)⟩
  rw [(esort_perm (evF 0 rs)).length_eq] at h
  have := gd.ev
  exact h.mono (by omega)

local macro_rules | `(tactic| walk_at "vf") => `(tactic| first
  | ((with_reducible show VW.DGot _ _ _ _); exact dgotA (by walk_at "sq"))
  | ((with_reducible show VW.DPutD _ _ _ _ _); exact dputA (by walk_at "sp") (by first | assumption | walk_at "arith"))
  | ((with_reducible show VW.DPopD _ _ _ _ _); exact dpopA (by walk_at "sp") (by assumption)))

/-! ### answers are small -/
theorem Sq.dg {i : Int} (h0 : -9 ≤ i) (h1 : i ≤ 9) : Sq 4 0 (.int i) := by
  rcases (by omega : i = -9 ∨ i = -8 ∨ i = -7 ∨ i = -6 ∨ i = -5 ∨ i = -4 ∨ i = -3 ∨ i = -2 ∨ i = -1 ∨ i = 0 ∨ i = 1 ∨ i = 2 ∨ i = 3 ∨ i = 4 ∨ i = 5 ∨ i = 6 ∨ i = 7 ∨ i = 8 ∨ i = 9) with rfl | rfl | rfl | rfl | rfl | rfl | rfl | rfl | rfl | rfl | rfl | rfl | rfl | rfl | rfl | rfl | rfl | rfl | rfl <;>
    exact ⟨by decide +kernel, by decide +kernel, by decide +kernel, by decide +kernel⟩
theorem prP_sq {p : Int × Int} (h : dgs p) : Sq 10 1 (prP p) := (Sq.tup (.cons (.dg (by have := h.1.1; omega) h.1.2) (.cons (.dg (by have := h.2.1; omega) h.2.2) .nil))).mono (by omega) (Nat.le_refl _)
theorem rows_sqA : ∀ {xs : List (Int × Int)}, (∀ p ∈ xs, dgs p) → SqAll (11 * xs.length) 1 (xs.map prP)
  | [], _ => SqAll.nil
  | p :: r, h => by
    refine (SqAll.cons (prP_sq (h p List.mem_cons_self)) (rows_sqA fun q hq => h q (List.mem_cons_of_mem _ hq))).mono ?_ (Nat.le_refl _)
    rw [List.length_cons]; omega
theorem an2_sq {a : An2} (g : a.g) : Sq 7000 2 a.p := by
  cases a with
  | non => exact Sm.non.sq.mono (by decide) (by decide)
  | bl b => exact Sq.bl.mono (by decide) (by decide)
  | int i => exact (Sq.dg g.1 g.2).mono (by decide) (by decide)
  | rows xs => exact (Sq.lst (rows_sqA g.1)).mono (by have := g.2; omega) (Nat.le_refl _)
theorem an2_pq (S : VW.Sto) (a : An2) : VW.Pq S a.d a.p := by
  refine VW.Pq.of_py _ ?_
  cases a with
  | non => rw [An2.d, VW.py]; rfl
  | bl b => rw [An2.d, VW.py]; rfl
  | int i => rw [An2.d, VW.py]; rfl
  | rows xs => rw [An2.d, VW.py, py_pairs]; rfl
/-! ### alike, as the law looks at it -/
def spAlikeL : VW.SpD := VW.sp2 fun x y S P _ => ∃ ps rs, VW.PrX S x (ps.map pairD) ∧ y = .lst (rs.map Row.d) ∧ Gd rs ps ∧ (∀ r ∈ rs, r.an.g) ∧ (∀ r ∈ rs, ∀ b, r.b = some b → 0 ≤ b) ∧ (∀ r ∈ rs, ∀ o ∈ lawMoms r, o < 1000000) ∧ P (.bl (standB rs ps)) S
theorem moms_cons (rs : List Row) : ∀ i, (evF i rs).map (·.mom) = (rs.map lawMoms).flatten := by
  induction rs with
  | nil => intro i; rfl
  | cons r rs ih =>
    intro i
    show (evR i r ++ evF (i + 1) rs).map (·.mom) = lawMoms r ++ (rs.map lawMoms).flatten
    rw [List.map_append, evR_moms, ih]
theorem moms_take {rs : List Row} {j : Nat} {r : Row} (h : rs[j]? = some r) : moms (rs.take (j + 1)) = moms (rs.take j) ++ lawMoms r := by
  unfold moms
  rw [moms_cons, moms_cons, List.take_add_one, h]
  show (List.map lawMoms (rs.take j ++ [r])).flatten = _
  rw [List.map_append, List.flatten_append]
  show _ ++ (lawMoms r ++ []) = _
  rw [List.append_nil]
theorem moms_mem {rs : List Row} {o : Int} (h : o ∈ moms rs) : ∃ r ∈ rs, o ∈ lawMoms r := by
  unfold moms at h
  rw [moms_cons] at h
  obtain ⟨l, hl, ho⟩ := List.mem_flatten.mp h
  obtain ⟨r, hr, rfl⟩ := List.mem_map.mp hl
  exact ⟨r, hr, ho⟩
theorem fm_empty : ∀ rs : List Row, (rs.filterMap (fun r => if timely r = true then none else some r.d)).isEmpty = (rs.map timely).all id
  | [] => rfl
  | r :: rs => by
    cases c : timely r with
    | true => rw [List.filterMap_cons_none (by rw [if_pos c]), fm_empty rs, List.map_cons, List.all_cons, c]; rfl
    | false => rw [List.filterMap_cons_some (b := r.d) (by rw [if_neg (by rw [c]; decide)]), List.map_cons, List.all_cons, c]; rfl
theorem ok_alike (T : Txt w K mg A) : GD.FnOkG P w K mg base 3 A.a_alike A.d_alike ["_law_twos", "_law_rows"] (VW.upSp K (spAlikeL)) := by
  refine GD.okG T.F_alike sc_alike (VW.upSp.len VW.sp2_len) (fun cdv A' outer s H vs Q E hg hr h => ?_)
  obtain ⟨F, S, ds, P', PE, rh, hv, ⟨x1, x2, rfl, h⟩, lv, lx⟩ := h
  have hS0 := (fun (X : VW.Sto) (e : X = S) => e) S rfl
  haveI : VW.XLe K F E PE := ⟨lx⟩
  have hu := hu_of hr
  refine ⟨_, (pss_cons (ps_if (pt_cmpR (op_neL0 hr.units) (VW.pe_kp (pe_lc (own := [("_law_row", 2)]) rfl sc_alike.nd (pi_list (pv 1)) (blkOk_by (own := [("_law_row", 2)]) (N := n_alike) (sc := defScope s_alike) (by decide +kernel)) (fun _ _ _ _ _ => viaG (pg_name (i := 2) sc_alike.nd rfl (Or.inl rfl)) (by first | rfl | (dsimp only [Cx.blk]; done) | (dsimp only [Cx.blk]; rfl))) (fun _ _ _ _ _ => viaT (pts_one (pt_not (pt_val (pe_call (ok_placed T) (hr.mono (by decide)) rfl T.m_placed T.F_placed.kp T.b_placed .nil VW.pass0F (pa_cons (pv 2) pa_nil))))) (by first | rfl | (dsimp only [Cx.blk]; done) | (dsimp only [Cx.blk]; rfl))) (fun _ _ _ _ _ => viaE (pv 2) (by first | rfl | (dsimp only [Cx.blk]; done) | (dsimp only [Cx.blk]; rfl))))) (VW.pe_kp (pe_lst pa_nil)) (nomark _))
      (pss_one (ps_ret pe_bl))
      pss_nil)
      (pss_cons (ps_set (i := 3) sc_alike.nd rfl (Or.inl rfl) (VW.pe_kp (pe_lst pa_nil)))
      (pss_cons (ps_for PassesOwn.never rfl (pi_list (pv 1)) (pg_name (i := 2) sc_alike.nd rfl (Or.inl rfl))
      (pss_one (ps_set (i := 3) sc_alike.nd rfl (Or.inl rfl) (VW.pe_kp (pe_op op_cat (pv 3) (pe_call (ok_moments T) (hr.mono (by decide)) rfl T.m_moments T.F_moments.kp T.b_moments .nil VW.pass0F (pa_cons (pv 2) pa_nil)))))))
      (pss_cons (ps_if (pt_cmpR op_ne (SetN.pe_lenSetN (by rfl) T.n_len (by rfl) T.n_set (pv 3)) (pe_callB VW.call_lenA (by rfl) T.n_len PySem.boot_len (pa_cons (pv 3) pa_nil)) (nomark _))
      (pss_one (ps_ret pe_bl))
      pss_nil)
      (pss_cons (ps_set (i := 4) sc_alike.nd rfl (Or.inl rfl) (pe_ix ix_tup (pe_call (ok_played T) (hr.mono (by decide)) rfl T.m_played T.F_played.kp T.b_played .nil VW.pass0F (pa_cons (pv 0) (pa_cons (pv 1) pa_nil))) pe_int (fun _ _ => rfl)))
      (pss_cons (ps_for PassesOwn.never rfl (pi_zip (by rfl) T.n_zip (pa_cons (pv 1) (pa_cons (pv 4) pa_nil))) (pg_tup (n := 2) rfl (pgs_cons (pg_name (i := 2) sc_alike.nd rfl (Or.inl rfl)) (pgs_cons (pg_name (i := 5) sc_alike.nd rfl (Or.inl rfl)) pgs_nil)))
      (pss_cons (ps_if (PW.pt (pw_and (pt_cmpR (VW.op_eqPl hr.units) (pe_ix ix_tup (pe_ix ix_tup (pv 2) pe_int (fun _ _ => rfl)) pe_int (fun _ _ => rfl)) pe_str (nomark _)) (pw_and1 (pt_cmpR VW.op_isNA (pv 5) pe_non (nomark _)))))
      (pss_one (ps_set (i := 5) sc_alike.nd rfl (Or.inl rfl) (VW.pe_kp (pe_lst pa_nil))))
      pss_nil)
      (pss_one (ps_if (PW.pt (pw_and (pt_cmpR VW.op_notNA (pe_ix ix_tup (pv 2) pe_int (fun _ _ => rfl)) pe_non (nomark _)) (pw_and1 (pt_cmpR op_ne (pe_callB (RQ.call_reprQ hg hr.units) (by rfl) T.n_repr (by decide +kernel) (pa_cons (pe_ix ix_tup (pv 2) pe_int (fun _ _ => rfl)) pa_nil)) (pe_callB (RQ.call_reprQ hg hr.units) (by rfl) T.n_repr (by decide +kernel) (pa_cons (pv 5) pa_nil)) (nomark _)))))
      (pss_one (ps_ret pe_bl))
      pss_nil))))
      (pss_one (ps_ret pe_bl)))))))), ?_⟩
  try dsimp only [cxOf, Cx.nox, Cx.wish, List.map]
  refine VW.body_less rh hv lv ?_
  obtain ⟨ps, rs, hpx, rfl, gd, gan, gb, gm, k⟩ := h
  have few := gd.few
  have hrl := few.len
  show VW.dSeq _ _ _ [some x1, some (.lst (rs.map Row.d)), none, none, none, none] S
  unfold standB at k
  walk_at "v"
  refine lcD_of rs (fun r => if timely r = true then none else some r.d) (List.length_map ..) (by rw [sizeLine_eq]; omega) (fun L acc hL => Or.inl rfl) (fun i r d S3 Zy Zn hr hd hS hy hn => ?_) ?_
  · have hd : (rs.map Row.d)[i]? = some d := hd
    rw [List.getElem?_map, hr] at hd
    cases hd
    have fr := few.all r (List.mem_of_getElem? hr)
    show VW.kName 2 r.d _ S3 _
    walk_at "v"
    cases ct : timely r with
    | true =>
      rw [ct] at hn
      walk_at "v"
      exact hn rfl
    | false =>
      rw [ct] at hy
      walk_at "v"
      exact hy _ rfl
  walk_at "v"
  rw [fm_empty]
  cases ct : (rs.map timely).all id with
  | false =>
    rw [ct, Bool.false_and] at k
    rw [show (!false) = true from rfl]
    walk_at "v"
    exact VW.less_id k
  | true =>
    rw [ct, Bool.true_and] at k
    rw [show (!true) = false from rfl]
    walk_at "v"
    refine VW.ForD.mk ⟨fun j env S4 => Wrap (∃ v2 : Option VW.D, env = [some x1, some (.lst (rs.map Row.d)), v2, some (.lst ((moms (rs.take j)).map VW.D.int)), none, none] ∧ S4 = S ∧ (moms (rs.take j)).length ≤ 20 * j), ?_, fun _ _ _ _ _ => Or.inl rfl, ?_, ?_⟩
    · exact ⟨_, rfl, rfl, Nat.zero_le _⟩
    · rintro j x env S4 hj hx ⟨v2, rfl, rfl, hml⟩
      obtain ⟨r, hr, rfl⟩ : ∃ r, rs[j]? = some r ∧ Row.d r = x := by
        have hx : (rs.map Row.d)[j]? = some x := hx
        rw [List.getElem?_map] at hx
        exact Option.map_eq_some_iff.mp hx
      have hjl := (List.getElem?_eq_some_iff.mp hr).1
      have fr := few.all r (List.mem_of_getElem? hr)
      have lml := lawMoms_len fr
      walk_at "v"
      refine ⟨by rw [List.length_map, List.length_map, sizeLine_eq]; omega, ?_⟩
      walk_at "v"
      refine ⟨some r.d, ?_, rfl, ?_⟩
      · rw [moms_take hr, List.map_append]; rfl
      · rw [moms_take hr, List.length_append]; omega
    · rintro env S4 ⟨v2, rfl, rfl, hml⟩
      rw [show rs.take (VW.wL (VW.D.lst (rs.map Row.d)) (rs.map Row.d)).n = rs from by show rs.take (rs.map Row.d).length = rs; rw [List.length_map, List.take_length]]
      have hme : (moms rs).length < 50 := by unfold moms; rw [List.length_map]; exact gd.ev
      walk_at "v"
      have hlm : (((moms rs).map VW.D.int).length : Int) = ((moms rs).length : Int) := by rw [List.length_map]
      rw [hlm]
      by_cases nd : (moms rs).Nodup
      · rw [if_pos nd] at k
        rw [SetN.cnt_nodup nd, decide_eq_true rfl, show (!true) = false from rfl]
        have gmm : Gm rs := ⟨nd, fun o ho => by
          obtain ⟨r, hr, ho⟩ := moms_mem ho
          have hm := gm r hr o ho
          have ht : timely r = true := List.all_eq_true.mp (by rw [List.all_map] at ct; exact ct) r hr
          rw [placed_timely] at ht
          simp only [Bool.and_eq_true] at ht
          have h3 := List.all_eq_true.mp ht.2.2 o ho
          cases eb : r.b with
          | none => rw [eb] at h3; cases h3
          | some b =>
            have b0 := gb r hr b eb
            rw [eb] at h3
            have h3 : (decide (b < o) && _) = true := h3
            rw [Bool.and_eq_true, decide_eq_true_eq] at h3
            omega⟩
        walk_at "v"
        intro L q S1 nLq hL1 hq1 hS1
        walk_at "v"
        obtain ⟨pa, _, _, pgo⟩ := play_good gd
        generalize (play rs ps).1 = F at hL1 k pa pgo
        refine VW.ForD.mk ⟨fun j env S5 => Wrap (∃ v2 v5 : Option VW.D, env = [some x1, some (.lst (rs.map Row.d)), v2, some (.lst ((moms rs).map VW.D.int)), some (.ref L), v5] ∧ S5 = S1 ∧ okFrom F 0 rs = okFrom F j (rs.drop j)), ?_, fun j env S5 _ ⟨v2, v5, _, e, _⟩ => ?_, ?_, ?_⟩
        · exact ⟨_, _, rfl, rfl, rfl⟩
        · rw [e]
          exact ⟨Or.inl rfl, Or.inr (Or.inl ⟨L, rfl, hL1⟩)⟩
        · rintro j x env S5 hj hx ⟨v2, v5, rfl, rfl, ho⟩
          obtain ⟨a, b, ha, hb, rfl⟩ := hx
          rw [List.getElem?_map] at ha hb
          obtain ⟨r, hr2, rfl⟩ := Option.map_eq_some_iff.mp ha
          obtain ⟨an, han, rfl⟩ := Option.map_eq_some_iff.mp hb
          have hjl := (List.getElem?_eq_some_iff.mp hr2).1
          rw [fndL_at hjl] at han
          have han : (getG F (j : Int)).getD .non = an := Option.some.inj han
          have edr : rs.drop j = r :: rs.drop (j + 1) := by
            rw [List.drop_eq_getElem_cons hjl]
            congr 1
            have := List.getElem?_eq_getElem hjl
            rw [hr2] at this; cases this; rfl
          rw [edr] at ho
          have ho : okFrom F 0 rs = (rowOk F j r && okFrom F (j + 1) (rs.drop (j + 1))) := ho
          have gr := gan r (List.mem_of_getElem? hr2)
          have gdue : (dueF F j r.w).g := by
            unfold dueF
            cases eg : getG F (j : Int) with
            | none => cases r.w <;> first | exact trivial | exact ⟨fun p hp => (List.not_mem_nil hp).elim, Nat.zero_le _⟩
            | some a => exact (pa _ (getG_mem eg)).g (by omega)
          have adue : (VW.isNon an.d = true ∧ ∃ l h b ps, r.w = .going l h b ps) ∧ dueF F j r.w = .rows [] ∨ (VW.isNon an.d = false ∨ ∃ k m, r.w = .ask k m) ∧ dueF F j r.w = an := by
            unfold dueF
            cases eg : getG F (j : Int) with
            | none =>
              rw [eg] at han
              have han : An2.non = an := han
              subst han
              cases ew : r.w with
              | ask k m => exact .inr ⟨.inr ⟨k, m, rfl⟩, rfl⟩
              | going l h b ps => exact .inl ⟨⟨rfl, l, h, b, ps, rfl⟩, rfl⟩
            | some a =>
              rw [eg] at han
              have han : a = an := han
              subst han
              cases ew : r.w with
              | ask k m => exact .inr ⟨.inr ⟨k, m, rfl⟩, rfl⟩
              | going l h b ps =>
                obtain ⟨xs, e, _⟩ := pgo _ (getG_mem eg) j r l h b ps rfl hr2 ew
                have e : a = .rows xs := e
                exact .inr ⟨.inl (by rw [e]; rfl), rfl⟩
          have hro : rowOk F j r = (r.e.isNone || decide (r.an = dueF F j r.w)) := rfl
          generalize dueF F j r.w = due at gdue adue hro
          obtain ⟨t1, t2, t3⟩ := (an2_sq gr).txt (by decide) (by decide)
          obtain ⟨u1, u2, u3⟩ := (an2_sq gdue).txt (by decide) (by decide)
          have q1 := an2_pq S5 r.an
          have q2 := an2_pq S5 due
          obtain ⟨z, tl, ad, a0, ez⟩ : ∃ (z : Str) (tl : List VW.D), r.w.ad = .tup (.str z :: tl) ∧ atI (VW.D.str z :: tl) 0 = some (.str z) ∧ decide (z = ("going" : Str)) = (match r.w with | .going _ _ _ _ => true | .ask _ _ => false) := by
            cases ew : r.w with
            | ask k m => exact ask_word k
            | going l h b ps => exact ⟨"going", _, rfl, rfl, decide_eq_true rfl⟩
          have ep : ∀ T, VW.eqP (VW.pyS T (.str z)) (VW.pyS T (VW.toD (V.str "going"))) = decide (z = ("going" : Str)) := fun T => by
            show VW.eqP (VW.pyS T (.str z)) (VW.pyS T (.str "going")) = _
            have e : ∀ x : Str, VW.pyS T (.str x) = some (.str x) := fun x => by show VW.py (.str x) = _; rw [VW.py]
            rw [e, e]
            show PyData.eqv (.str z) (.str "going") = _
            simp only [PyData.eqv]
            rfl
          rw [ez] at ep
          show VW.kTup _ _ (.tup [.tup [.str r.nm, r.w.ad, oI r.b, r.w.md, oI r.e, r.an.d], an.d]) _ _ _
          rcases adue with ⟨⟨hn, l, h, b, pcs, ew⟩, rfl⟩ | ⟨hn, rfl⟩
          · have q2 : VW.Pq S5 (.lst []) (An2.rows []).p := q2
            rw [ew] at ep
            walk_at "v"
            rw [ep]
            walk_at "v"
            rw [hn]
            walk_at "v"
            cases ee : r.e with
            | none =>
              rw [show (!VW.isNon (oI none)) = false from rfl]
              walk_at "v"
              refine ⟨_, _, rfl, rfl, ?_⟩
              rw [ho, hro, ee]; rfl
            | some e =>
              rw [show (!VW.isNon (oI (some e))) = true from rfl]
              walk_at "v"
              rw [an2_shown gr gdue]
              by_cases ca : r.an = An2.rows []
              · rw [decide_eq_true ca, show (!true) = false from rfl]
                walk_at "v"
                refine ⟨_, _, rfl, rfl, ?_⟩
                rw [ho, hro, ee, decide_eq_true ca]; rfl
              · rw [decide_eq_false ca, show (!false) = true from rfl]
                walk_at "v"
                refine ⟨S4, hS1, ?_⟩
                rw [ho, hro, ee, decide_eq_false ca] at k
                exact k
          · rcases hn with hn | ⟨ka, m, ew⟩
            · walk_at "v"
              rw [ep]
              generalize (match r.w with | .going _ _ _ _ => true | .ask _ _ => false) = cc
              cases cc with
              | true =>
                walk_at "v"
                rw [hn]
                walk_at "v"
                cases ee : r.e with
                | none =>
                  rw [show (!VW.isNon (oI none)) = false from rfl]
                  walk_at "v"
                  refine ⟨_, _, rfl, rfl, ?_⟩
                  rw [ho, hro, ee]; rfl
                | some e =>
                  rw [show (!VW.isNon (oI (some e))) = true from rfl]
                  walk_at "v"
                  rw [an2_shown gr gdue]
                  by_cases ca : r.an = due
                  · rw [decide_eq_true ca, show (!true) = false from rfl]
                    walk_at "v"
                    refine ⟨_, _, rfl, rfl, ?_⟩
                    rw [ho, hro, ee, decide_eq_true ca]; rfl
                  · rw [decide_eq_false ca, show (!false) = true from rfl]
                    walk_at "v"
                    refine ⟨S4, hS1, ?_⟩
                    rw [ho, hro, ee, decide_eq_false ca] at k
                    exact k
              | false =>
                walk_at "v"
                cases ee : r.e with
                | none =>
                  rw [show (!VW.isNon (oI none)) = false from rfl]
                  walk_at "v"
                  refine ⟨_, _, rfl, rfl, ?_⟩
                  rw [ho, hro, ee]; rfl
                | some e =>
                  rw [show (!VW.isNon (oI (some e))) = true from rfl]
                  walk_at "v"
                  rw [an2_shown gr gdue]
                  by_cases ca : r.an = due
                  · rw [decide_eq_true ca, show (!true) = false from rfl]
                    walk_at "v"
                    refine ⟨_, _, rfl, rfl, ?_⟩
                    rw [ho, hro, ee, decide_eq_true ca]; rfl
                  · rw [decide_eq_false ca, show (!false) = true from rfl]
                    walk_at "v"
                    refine ⟨S4, hS1, ?_⟩
                    rw [ho, hro, ee, decide_eq_false ca] at k
                    exact k
            · rw [ew] at ep
              walk_at "v"
              rw [ep]
              walk_at "v"
              cases ee : r.e with
              | none =>
                rw [show (!VW.isNon (oI none)) = false from rfl]
                walk_at "v"
                refine ⟨_, _, rfl, rfl, ?_⟩
                rw [ho, hro, ee]; rfl
              | some e =>
                rw [show (!VW.isNon (oI (some e))) = true from rfl]
                walk_at "v"
                rw [an2_shown gr gdue]
                by_cases ca : r.an = due
                · rw [decide_eq_true ca, show (!true) = false from rfl]
                  walk_at "v"
                  refine ⟨_, _, rfl, rfl, ?_⟩
                  rw [ho, hro, ee, decide_eq_true ca]; rfl
                · rw [decide_eq_false ca, show (!false) = true from rfl]
                  walk_at "v"
                  refine ⟨S4, hS1, ?_⟩
                  rw [ho, hro, ee, decide_eq_false ca] at k
                  exact k
        · rintro env S5 ⟨v2, v5, rfl, rfl, ho⟩
          rw [show rs.drop (VW.wZ (VW.D.lst (rs.map Row.d)) (VW.D.ref L) (rs.map Row.d) ((fndL F rs.length).map An2.d)).n = [] from by show rs.drop (min (rs.map Row.d).length ((fndL F rs.length).map An2.d).length) = []; rw [List.length_map, List.length_map, fndL_len, Nat.min_self, List.drop_length]] at ho
          have ho : okFrom F 0 rs = true := ho
          rw [ho] at k
          walk_at "v"
          exact ⟨S4, hS1, k⟩
      · rw [if_neg nd] at k
        have := SetN.cnt_dup nd
        rw [decide_eq_false (by omega), show (!false) = true from rfl]
        walk_at "v"
        exact VW.less_id k

local macro_rules | `(tactic| walk_at "vf") => `(tactic| first
  | ((with_reducible show VW.DGot _ _ _ _); exact dgotA (by walk_at "sq"))
  | ((with_reducible show VW.DPutD _ _ _ _ _); exact dputA (by walk_at "sp") (by first | assumption | walk_at "arith"))
  | ((with_reducible show VW.DPopD _ _ _ _ _); exact dpopA (by walk_at "sp") (by assumption)))

/-! ### an ask, drawn -/
def DW : Wk → Prop
  | .ask k m => k.g ∧ m = none
  | .going l h _ ps => (0 ≤ l ∧ l ≤ 9) ∧ (∀ x, h = some x → 0 ≤ x ∧ x ≤ 9) ∧ ps = []
def spDAsk : VW.SpD := VW.sp2 fun x y S P _ => ∃ q, x = .ref q ∧ y = .bl true ∧ VW.PoolS S q ∧ ∀ (w : Wk) (S' : VW.Sto), DW w → VW.Drawn S q S' → P w.ad S'
theorem ok_drawn_ask (T : Txt w K mg A) : FnOk P w K mg base CX0 2 A.a_drawn_ask A.d_drawn_ask ["_law_pool_here", "_law_has_goings"] (VW.upSp K (spDAsk)) := by
  refine T.F_drawn_ask.ok sc_drawn_ask (VW.upSp.len VW.sp2_len) (fun cdv A' outer s H vs Q E hr h => ?_)
  obtain ⟨F, S, ds, P', PE, rh, hv, ⟨x1, x2, rfl, h⟩, lv, lx⟩ := h
  haveI : VW.XLe K F E PE := ⟨lx⟩
  have hu := hu_of hr
  refine ⟨_, (pss_cons (ps_set (i := 2) sc_drawn_ask.nd rfl (Or.inl rfl) (pe_call (ok_take T) (hr.mono (by decide)) rfl T.m_take T.F_take.kp T.b_take .nil VW.pass0F (pa_cons (pv 0) (pa_cons pe_int pa_nil))))
      (pss_cons (ps_set (i := 3) sc_drawn_ask.nd rfl (Or.inl rfl) (pe_call (ok_take T) (hr.mono (by decide)) rfl T.m_take T.F_take.kp T.b_take .nil VW.pass0F (pa_cons (pv 0) (pa_cons pe_int pa_nil))))
      (pss_cons (ps_set (i := 4) sc_drawn_ask.nd rfl (Or.inl rfl) (pe_call (ok_take T) (hr.mono (by decide)) rfl T.m_take T.F_take.kp T.b_take .nil VW.pass0F (pa_cons (pv 0) (pa_cons (pe_op op_add pe_int (pe_callTy VW.call_int1A (by rfl) T.n_int (by decide +kernel) (pa_cons (pv 1) pa_nil))) pa_nil))))
      (pss_cons (ps_if (pt_cmpR op_lt (pv 4) pe_int (nomark _))
      (pss_one (ps_ret (pe_ix ix_list (VW.pe_kp (pe_lst (pa_cons (pe_tup (pa_cons pe_str (pa_cons (pv 2) pa_nil))) (pa_cons (pe_tup (pa_cons pe_str (pa_cons (pv 2) (pa_cons (pv 3) pa_nil)))) (pa_cons (pe_tup (pa_cons pe_str (pa_cons (pv 2) pa_nil))) (pa_cons (pe_tup (pa_cons pe_str (pa_cons (pv 2) (pa_cons (pv 3) (pa_cons (pe_call (ok_take T) (hr.mono (by decide)) rfl T.m_take T.F_take.kp T.b_take .nil VW.pass0F (pa_cons (pv 0) (pa_cons pe_int pa_nil))) pa_nil))))) pa_nil)))))) (pv 4) (fun _ _ => rfl))))
      pss_nil)
      (pss_one (ps_ret (pe_tup (pa_cons pe_str (pa_cons (pv 2) (pa_cons (pe_ix ix_list (VW.pe_kp (pe_lst (pa_cons pe_non (pa_cons (pe_call (ok_take T) (hr.mono (by decide)) rfl T.m_take T.F_take.kp T.b_take .nil VW.pass0F (pa_cons (pv 0) (pa_cons pe_int pa_nil))) pa_nil)))) (pe_call (ok_take T) (hr.mono (by decide)) rfl T.m_take T.F_take.kp T.b_take .nil VW.pass0F (pa_cons (pv 0) (pa_cons pe_int pa_nil))) (fun _ _ => rfl)) (pa_cons (pe_cmpR op_eq (pe_call (ok_take T) (hr.mono (by decide)) rfl T.m_take T.F_take.kp T.b_take .nil VW.pass0F (pa_cons (pv 0) (pa_cons pe_int pa_nil))) pe_int (nomark _)) pa_nil))))))))))), ?_⟩
  try dsimp only [cxOf, Cx.nox, Cx.wish, List.map]
  refine VW.body_up rh hv lv ?_
  obtain ⟨q, rfl, rfl, hq, k⟩ := h
  show VW.dSeq _ _ _ [some (.ref q), some (.bl true), none, none, none] S
  walk_at "v"
  intro r1 S1 r10 r11 d1
  have hq1 := d1.pool
  walk_at "v"
  intro r2 S2 r20 r21 d2
  have hq2 := d2.pool
  walk_at "v"
  have b : (4 : Int) + 1 < 1073741824 := by decide
  intro r3 S3 r30 r31 d3
  have hq3 := d3.pool
  have r31 : r3 < 5 := by
    have : r3 < 4 + 1 := r31
    omega
  walk_at "v"
  refine ite2 (fun c => ?_) (fun c => ?_)
  · have c : r3 < 4 := of_decide_eq_true c
    walk_at "v"
    intro r4 S4 r40 r41 d4
    have dd := ((d1.trans d2).trans d3).trans d4
    have c : r3 = 0 ∨ r3 = 1 ∨ r3 = 2 ∨ r3 = 3 := by omega
    rcases c with rfl | rfl | rfl | rfl
    · have a0 : ∀ x y z u, atI [x, y, z, u] 0 = some (x : VW.D) := fun _ _ _ _ => atI_nat (j := 0) rfl
      walk_at "v"
      exact k (.ask (.find r1) none) S4 ⟨⟨r10, by omega⟩, rfl⟩ dd
    · have a0 : ∀ x y z u, atI [x, y, z, u] 1 = some (y : VW.D) := fun _ _ _ _ => atI_nat (j := 1) rfl
      walk_at "v"
      exact k (.ask (.put r1 r2) none) S4 ⟨⟨⟨r10, by omega⟩, r20, by omega⟩, rfl⟩ dd
    · have a0 : ∀ x y z u, atI [x, y, z, u] 2 = some (z : VW.D) := fun _ _ _ _ => atI_nat (j := 2) rfl
      walk_at "v"
      exact k (.ask (.take r1) none) S4 ⟨⟨r10, by omega⟩, rfl⟩ dd
    · have a0 : ∀ x y z u, atI [x, y, z, u] 3 = some (u : VW.D) := fun _ _ _ _ => atI_nat (j := 3) rfl
      walk_at "v"
      exact k (.ask (.change r1 r2 r4) none) S4 ⟨⟨⟨r10, by omega⟩, ⟨r20, by omega⟩, r40, by omega⟩, rfl⟩ dd
  · walk_at "v"
    intro r4 S4 r40 r41 d4
    have hq4 := d4.pool
    walk_at "v"
    intro r5 S5 r50 r51 d5
    have hq5 := d5.pool
    obtain ⟨hi, ha, hb⟩ : ∃ hi : Option Int, atI [VW.D.non, .int r4] r5 = some (oI hi) ∧ ∀ x, hi = some x → 0 ≤ x ∧ x ≤ 9 := by
      have : r5 = 0 ∨ r5 = 1 := by omega
      rcases this with rfl | rfl
      · exact ⟨none, rfl, fun x h => by cases h⟩
      · exact ⟨some r4, rfl, fun x h => by cases h; omega⟩
    walk_at "v"
    intro r6 S6 r60 r61 d6
    walk_at "v"
    exact k (.going r1 hi (decide (r6 = 1)) []) S6 ⟨⟨r10, by omega⟩, hb, rfl⟩ (((((d1.trans d2).trans d3).trans d4).trans d5).trans d6)
/-! ### a going, cut in pieces -/
structure CutOk (low : Int) (hi : Option Int) (back : Bool) (ts : List Int) (ps : List Pc) : Prop where
  ab : abutG low hi back ps = true
  len : ps.length ≤ 3
  bd : ∀ p ∈ ps, (0 ≤ p.fst ∧ p.fst ≤ 50) ∧ ∀ l, p.lst = some l → 0 ≤ l ∧ l ≤ 50
  ms : ps.map Pc.mom = ts.take ps.length
/-- the ends of pieces -/
def cutPr (hi : Option Int) : List Int → List (Int × Option Int)
  | [] => []
  | [c] => [(c, hi)]
  | c :: d :: r => (c, some d) :: cutPr hi (d :: r)
def cutPs (ps : List (Int × Option Int)) (ts : List Int) : List Pc := List.zipWith (fun q t => ⟨q.1, q.2, t⟩) ps ts
def lowB (hi : Option Int) (c : Int) : Bool := match hi with
  | none => true
  | some h => decide (c < h)
def prD (q : Int × Option Int) : VW.D := .tup [.int q.1, oI q.2]
theorem lowB_le {hi : Option Int} {c d : Int} (h : c ≤ d) (l : lowB hi d = true) : lowB hi c = true := by
  cases hi with
  | none => rfl
  | some x =>
    have l : d < x := of_decide_eq_true l
    exact decide_eq_true (by omega)
theorem lowB_lt {hi : Option Int} {c h : Int} (l : lowB hi c = true) (e : hi = some h) : c < h := by
  rw [e] at l
  exact of_decide_eq_true l
theorem cut_ok {low a b y0 y1 y2 : Int} {hi : Option Int} {back : Bool} {ks : List Int} (hn : ¬ ∃ h, hi = some h ∧ h ≤ low) (hl : 0 ≤ low ∧ low ≤ 9) (ha : low < a ∧ a ≤ low + 3) (hb : a < b ∧ b ≤ a + 3) (hh : ∀ x, hi = some x → 0 ≤ x ∧ x ≤ 9)
    (hk : ks = [low] ∨ (ks = [low, a] ∧ lowB hi a = true) ∨ (ks = [low, a, b] ∧ lowB hi b = true)) : CutOk low hi back [y0, y1, y2] (cutPs (if back then (cutPr hi ks).reverse else cutPr hi ks) [y0, y1, y2]) := by
  have h0 : ∀ l, hi = some l → low < l := fun l e => by
    by_cases c : l ≤ low
    · exact absurd ⟨l, e, c⟩ hn
    · omega
  have x1 : ∀ t, abutL (some low) [⟨low, hi, t⟩] hi = true := fun t => by
    show (if some low = some low ∧ ∀ l, hi = some l → low < l then decide (hi = hi) else false) = true
    rw [if_pos ⟨rfl, h0⟩, decide_eq_true rfl]
  have x2 : lowB hi a = true → ∀ t u, abutL (some low) [⟨low, some a, t⟩, ⟨a, hi, u⟩] hi = true := fun la t u => by
    show (if some low = some low ∧ ∀ l, some a = some l → low < l then (if some a = some a ∧ ∀ l, hi = some l → a < l then decide (hi = hi) else false) else false) = true
    rw [if_pos ⟨rfl, fun l e => by cases e; exact ha.1⟩, if_pos ⟨rfl, fun l e => lowB_lt la e⟩, decide_eq_true rfl]
  have x3 : lowB hi b = true → ∀ t u v, abutL (some low) [⟨low, some a, t⟩, ⟨a, some b, u⟩, ⟨b, hi, v⟩] hi = true := fun lb t u v => by
    show (if some low = some low ∧ ∀ l, some a = some l → low < l then (if some a = some a ∧ ∀ l, some b = some l → a < l then (if some b = some b ∧ ∀ l, hi = some l → b < l then decide (hi = hi) else false) else false) else false) = true
    rw [if_pos ⟨rfl, fun l e => by cases e; exact ha.1⟩, if_pos ⟨rfl, fun l e => by cases e; exact hb.1⟩, if_pos ⟨rfl, fun l e => lowB_lt lb e⟩, decide_eq_true rfl]
  have bh : ∀ l, hi = some l → 0 ≤ l ∧ l ≤ 50 := fun l e => by have := hh l e; omega
  have ba : ∀ l, some a = some l → 0 ≤ l ∧ l ≤ 50 := fun l e => by cases e; omega
  have bb : ∀ l, some b = some l → 0 ≤ l ∧ l ≤ 50 := fun l e => by cases e; omega
  have p0 : 0 ≤ low ∧ low ≤ 50 := by omega
  have pa : 0 ≤ a ∧ a ≤ 50 := by omega
  have pb : 0 ≤ b ∧ b ≤ 50 := by omega
  rcases hk with rfl | ⟨rfl, la⟩ | ⟨rfl, lb⟩ <;> cases back
  · exact ⟨by unfold abutG; rw [if_neg hn]; exact x1 _, by show 1 ≤ 3; decide, fun p hp => by rw [List.mem_singleton.mp (show p ∈ [(⟨low, hi, y0⟩ : Pc)] from hp)]; exact ⟨p0, bh⟩, rfl⟩
  · exact ⟨by unfold abutG; rw [if_neg hn]; exact x1 _, by show 1 ≤ 3; decide, fun p hp => by rw [List.mem_singleton.mp (show p ∈ [(⟨low, hi, y0⟩ : Pc)] from hp)]; exact ⟨p0, bh⟩, rfl⟩
  · exact ⟨by unfold abutG; rw [if_neg hn]; exact x2 la _ _, by show 2 ≤ 3; decide, fun p hp => by
      have hp : p ∈ [(⟨low, some a, y0⟩ : Pc), ⟨a, hi, y1⟩] := hp
      simp only [List.mem_cons, List.not_mem_nil, or_false] at hp
      rcases hp with rfl | rfl
      · exact ⟨p0, ba⟩
      · exact ⟨pa, bh⟩, rfl⟩
  · exact ⟨by unfold abutG; rw [if_neg hn]; exact x2 la _ _, by show 2 ≤ 3; decide, fun p hp => by
      have hp : p ∈ [(⟨a, hi, y0⟩ : Pc), ⟨low, some a, y1⟩] := hp
      simp only [List.mem_cons, List.not_mem_nil, or_false] at hp
      rcases hp with rfl | rfl
      · exact ⟨pa, bh⟩
      · exact ⟨p0, ba⟩, rfl⟩
  · exact ⟨by unfold abutG; rw [if_neg hn]; exact x3 lb _ _ _, by show 3 ≤ 3; decide, fun p hp => by
      have hp : p ∈ [(⟨low, some a, y0⟩ : Pc), ⟨a, some b, y1⟩, ⟨b, hi, y2⟩] := hp
      simp only [List.mem_cons, List.not_mem_nil, or_false] at hp
      rcases hp with rfl | rfl | rfl
      · exact ⟨p0, ba⟩
      · exact ⟨pa, bb⟩
      · exact ⟨pb, bh⟩, rfl⟩
  · exact ⟨by unfold abutG; rw [if_neg hn]; exact x3 lb _ _ _, by show 3 ≤ 3; decide, fun p hp => by
      have hp : p ∈ [(⟨b, hi, y0⟩ : Pc), ⟨a, some b, y1⟩, ⟨low, some a, y2⟩] := hp
      simp only [List.mem_cons, List.not_mem_nil, or_false] at hp
      rcases hp with rfl | rfl | rfl
      · exact ⟨pb, bh⟩
      · exact ⟨pa, bb⟩
      · exact ⟨p0, ba⟩, rfl⟩
def spCut : VW.SpD := VW.sp3 fun x y z S P _ => ∃ q low hi back y0 y1 y2, x = .ref q ∧ y = .tup [.str "going", .int low, oI hi, .bl back] ∧ z = .lst [.int y0, .int y1, .int y2] ∧ VW.PoolS S q ∧ (0 ≤ low ∧ low ≤ 9) ∧ (∀ x, hi = some x → 0 ≤ x ∧ x ≤ 9) ∧
  ∀ ps S', CutOk low hi back [y0, y1, y2] ps → VW.Drawn S q S' → P (.lst (ps.map Pc.d)) S'
theorem ok_cut_pieces (T : Txt w K mg A) : FnOk P w K mg base CX0 2 A.a_cut_pieces A.d_cut_pieces ["_law_pool_here", "_law_ask", "_law_times"] (VW.upSp K (spCut)) := by
  refine T.F_cut_pieces.ok sc_cut_pieces (VW.upSp.len VW.sp3_len) (fun cdv A' outer s H vs Q E hr h => ?_)
  obtain ⟨F, S, ds, P', PE, rh, hv, ⟨x1, x2, x3, rfl, h⟩, lv, lx⟩ := h
  have hS0 := (fun (X : VW.Sto) (e : X = S) => e) S rfl
  haveI : VW.XLe K F E PE := ⟨lx⟩
  have hu := hu_of hr
  refine ⟨_, (pss_cons (ps_asg (pv 1) (pg_tup (n := 4) rfl (pgs_cons (pg_name (i := 3) sc_cut_pieces.nd rfl (Or.inl rfl)) (pgs_cons (pg_name (i := 4) sc_cut_pieces.nd rfl (Or.inl rfl)) (pgs_cons (pg_name (i := 5) sc_cut_pieces.nd rfl (Or.inr rfl)) (pgs_cons (pg_name (i := 6) sc_cut_pieces.nd rfl (Or.inl rfl)) pgs_nil))))))
      (VW.cutAt (ps_if (PW.pt (pw_and (pt_cmpR VW.op_notNA (pv 5) pe_non (nomark _)) (pw_and1 (pt_cmpR op_le (pv 5) (pv 4) (nomark _)))))
      (pss_one (ps_ret (VW.pe_kp (pe_lst pa_nil))))
      pss_nil)
      (pss_cons (ps_set (i := 7) sc_cut_pieces.nd rfl (Or.inl rfl) (pe_lst (pa_cons (pv 4) pa_nil)))
      (pss_cons (ps_for PassesOwn.never rfl (pi_range1 rfl T.n_range (pa_cons (pe_op op_sub (pe_callB VW.call_lenA (by rfl) T.n_len PySem.boot_len (pa_cons (pv 2) pa_nil)) pe_int) pa_nil)) (pg_name (i := 8) sc_cut_pieces.nd rfl (Or.inl rfl))
      (pss_one (ps_expr (pe_bm PySem.F.plainAttrs_list PySem.F.slot_list_append PySem.F.type_list_append mt_append (pv 7) (pa_cons (pe_op op_add (pe_op op_add (pe_ix ix_list (pv 7) (pe_un un_neg pe_int) (fun _ _ => rfl)) pe_int) (pe_call (ok_take T) (hr.mono (by decide)) rfl T.m_take T.F_take.kp T.b_take .nil VW.pass0F (pa_cons (pv 0) (pa_cons pe_int pa_nil)))) pa_nil)))))
      (pss_cons (ps_set (i := 7) sc_cut_pieces.nd rfl (Or.inl rfl) (pe_op op_cat (VW.pe_kp (pe_lc (own := [("_law_one", 10)]) rfl sc_cut_pieces.nd (pi_list (pv 7)) (blkOk_by (own := [("_law_one", 10)]) (N := n_cut_pieces) (sc := defScope s_cut_pieces) (by decide +kernel)) (fun _ _ _ _ _ => viaG (pg_name (i := 10) sc_cut_pieces.nd rfl (Or.inl rfl)) (by first | rfl | (dsimp only [Cx.blk]; done) | (dsimp only [Cx.blk]; rfl))) (fun _ _ _ _ _ => viaT (pts_one (PW.pt (pw_or (pt_cmpR VW.op_isNA (pv 5) pe_non (nomark _)) (pw_or1 (pt_cmpR op_lt (pv 10) (pv 5) (nomark _)))))) (by first | rfl | (dsimp only [Cx.blk]; done) | (dsimp only [Cx.blk]; rfl))) (fun _ _ _ _ _ => viaE (pv 10) (by first | rfl | (dsimp only [Cx.blk]; done) | (dsimp only [Cx.blk]; rfl))))) (VW.pe_kp (pe_lst (pa_cons (pv 5) pa_nil)))))
      (pss_cons (ps_set (i := 9) sc_cut_pieces.nd rfl (Or.inl rfl) (LZ.pe_listZip rfl (by rfl) T.n_list (by decide +kernel) (by rfl) T.n_zip (pa_cons (pv 7) (pa_cons (VW.pe_kp (pe_slice sl_list (pv 7) (po_some pe_int) po_none)) pa_nil))))
      (VW.cutAt (ps_if (pt_val (pv 6))
      (pss_one (ps_set (i := 9) sc_cut_pieces.nd rfl (Or.inl rfl) (pe_rvL (pv 9))))
      pss_nil)
      (pss_one (ps_ret (VW.pe_kp (pe_lc (own := [("_law_one", 10), ("_law_other", 11), ("_law_moment", 12)]) rfl sc_cut_pieces.nd (pi_zip (by rfl) T.n_zip (pa_cons (pv 9) (pa_cons (pv 2) pa_nil))) (blkOk_by (own := [("_law_one", 10), ("_law_other", 11), ("_law_moment", 12)]) (N := n_cut_pieces) (sc := defScope s_cut_pieces) (by decide +kernel)) (fun _ _ _ _ _ => viaG (pg_tup (n := 2) rfl (pgs_cons (pg_tup (n := 2) rfl (pgs_cons (pg_name (i := 10) sc_cut_pieces.nd rfl (Or.inl rfl)) (pgs_cons (pg_name (i := 11) sc_cut_pieces.nd rfl (Or.inl rfl)) pgs_nil))) (pgs_cons (pg_name (i := 12) sc_cut_pieces.nd rfl (Or.inl rfl)) pgs_nil))) (by first | rfl | (dsimp only [Cx.blk]; done) | (dsimp only [Cx.blk]; rfl))) (fun _ _ _ _ _ => viaT pts_nil (by first | rfl | (dsimp only [Cx.blk]; done) | (dsimp only [Cx.blk]; rfl))) (fun _ _ _ _ _ => viaE (pe_tup (pa_cons (pv 10) (pa_cons (pv 11) (pa_cons (pv 12) pa_nil)))) (by first | rfl | (dsimp only [Cx.blk]; done) | (dsimp only [Cx.blk]; rfl)))))))))))))), ?_⟩
  try dsimp only [cxOf, Cx.nox, Cx.wish, List.map]
  refine VW.body_less rh hv lv ?_
  obtain ⟨q, low, hi, back, y0, y1, y2, rfl, rfl, rfl, hq, hlow, hhi, k⟩ := h
  show VW.dSeq _ _ _ [some (.ref q), some (.tup [.str "going", .int low, oI hi, .bl back]), some (.lst [.int y0, .int y1, .int y2]), none, none, none, none, none, none, none, none, none, none] S
  walk_at "v"
  refine ⟨fun env S2 => env = [some (.ref q), some (.tup [.str "going", .int low, oI hi, .bl back]), some (.lst [.int y0, .int y1, .int y2]), some (.str "going"), some (.int low), some (oI hi), some (.bl back), none, none, none, none, none, none] ∧ S2 = S ∧ ¬ ∃ h, hi = some h ∧ h ≤ low, ?_, ?_⟩
  · walk_at "v"
    cases hi with
    | none =>
      rw [show (!VW.isNon (oI none)) = false from rfl]
      walk_at "v"
      exact fun z => by obtain ⟨h, e, _⟩ := z; cases e
    | some h =>
      rw [show (!VW.isNon (oI (some h))) = true from rfl]
      walk_at "v"
      refine ite2 (fun c => ?_) (fun c => ?_)
      · have c : h ≤ low := of_decide_eq_true c
        walk_at "v"
        exact VW.less_id (k [] S ⟨by unfold abutG; rw [if_pos ⟨h, rfl, c⟩]; rfl, Nat.zero_le _, (fun p hp => by cases hp), rfl⟩ (.refl hq))
      · have c : ¬ h ≤ low := fun z => c (decide_eq_true z)
        walk_at "v"
        exact fun z => by obtain ⟨h2, e, h3⟩ := z; cases e; exact c h3
  · rintro env S2 ⟨rfl, rfl, hn⟩
    walk_at "v"
    intro L hL
    have nLq := hq.ne hL
    walk_at "v"
    refine ⟨⟨by show (-2 ^ 62 : Int) ≤ 3 - 1; decide, by show (3 : Int) - 1 < 2 ^ 62; decide⟩, ?_⟩
    refine VW.ForD.mk ⟨fun j env S4 => Wrap (∃ (v8 : Option VW.D) (cs : List Int) (S5 : VW.Sto), env = [some (.ref q), some (.tup [.str "going", .int low, oI hi, .bl back]), some (.lst [.int y0, .int y1, .int y2]), some (.str "going"), some (.int low), some (oI hi), some (.bl back), some (.ref L), v8, none, none, none, none] ∧ S4 = VW.sup S5 L (.lst (cs.map VW.D.int)) ∧ VW.Drawn S2 q S5 ∧
      (j = 0 → cs = [low]) ∧ (j = 1 → ∃ a : Int, cs = [low, a] ∧ low < a ∧ a ≤ low + 3) ∧ (j = 2 → ∃ a b : Int, cs = [low, a, b] ∧ low < a ∧ a ≤ low + 3 ∧ a < b ∧ b ≤ a + 3)), ?_, fun _ _ _ _ _ => True.intro, ?_, ?_⟩
    · exact ⟨_, [low], S2, rfl, rfl, .refl hq, fun _ => rfl, (fun h => by cases h), (fun h => by cases h)⟩
    · rintro j x env S4 hj hx ⟨v8, cs, S5, rfl, rfl, d5, c0, c1, c2⟩
      have hj : j < 2 := hj
      have hLn : S2 L = none := hL
      rcases (by omega : j = 0 ∨ j = 1) with rfl | rfl
      · obtain rfl := c0 rfl
        have hq5 : VW.PoolS (VW.sup S5 L (.lst ([low].map VW.D.int))) q := d5.pool.over nLq
        have al : atI ([low].map VW.D.int) (-1) = some (.int low) := rfl
        walk_at "v"
        intro r S6 r0 r1 d6
        obtain ⟨S7, rfl, d7⟩ := d6.under nLq
        walk_at "v"
        refine ⟨_, [low, low + 1 + r], S7, rfl, by rw [VW.sup_sup]; rfl, d5.trans d7, (fun h => by cases h), fun _ => ⟨low + 1 + r, rfl, by omega, by omega⟩, (fun h => by cases h)⟩
      · obtain ⟨a, rfl, a1, a2⟩ := c1 rfl
        have hq5 : VW.PoolS (VW.sup S5 L (.lst ([low, a].map VW.D.int))) q := d5.pool.over nLq
        have al : atI ([low, a].map VW.D.int) (-1) = some (.int a) := rfl
        walk_at "v"
        intro r S6 r0 r1 d6
        obtain ⟨S7, rfl, d7⟩ := d6.under nLq
        walk_at "v"
        refine ⟨_, [low, a, a + 1 + r], S7, rfl, by rw [VW.sup_sup]; rfl, d5.trans d7, (fun h => by cases h), (fun h => by cases h), fun _ => ⟨a, a + 1 + r, rfl, by omega, by omega, by omega, by omega⟩⟩
    · rintro env S4 ⟨v8, cs, S5, rfl, rfl, d5, c0, c1, c2⟩
      obtain ⟨a, b, rfl, a1, a2, b1, b2⟩ := c2 rfl
      have hLn : S2 L = none := hL
      have hL5 : S5 L = none := d5.gone hLn nLq
      obtain ⟨cs, hcs⟩ : ∃ cs : List Int, cs = [low, a, b] := ⟨_, rfl⟩
      rw [← hcs]
      have hSL : VW.SeqL (VW.sup S5 L (.lst (cs.map VW.D.int))) (.ref L) (cs.map VW.D.int) := Or.inr (Or.inl ⟨L, rfl, VW.sup_same⟩)
      walk_at "v"
      refine lcD_of cs (fun c => if lowB hi c = true then some (.int c) else none) (List.length_map ..) (by rw [hcs, sizeLine_eq]; show 3 < 16777216; decide) (fun L' acc hL' => Or.inr (Or.inl ⟨L, rfl, by rw [VW.sup_ne (fun z => by rw [← z, VW.sup_same] at hL'; cases hL'), VW.sup_same]⟩)) (fun i c d S3 Zy Zn hr hd hS hy hn => ?_) ?_
      · have hd : (cs.map VW.D.int)[i]? = some d := hd
        rw [List.getElem?_map, hr] at hd
        cases hd
        walk_at "v"
        cases hi with
        | none =>
          rw [show VW.isNon (oI none) = true from rfl]
          walk_at "v"
          exact hy _ rfl
        | some h =>
          rw [show VW.isNon (oI (some h)) = false from rfl]
          have hy : ∀ y, (if decide (c < h) = true then some (VW.D.int c) else none) = some y → Zy y S3 := hy
          have hn : (if decide (c < h) = true then some (VW.D.int c) else none) = none → Zn S3 := hn
          walk_at "v"
          refine ite2 (fun c2 => ?_) (fun c2 => ?_)
          · rw [c2] at hy
            walk_at "v"
            exact hy _ rfl
          · rw [Bool.eq_false_iff.mpr c2] at hn
            walk_at "v"
            exact hn rfl
      obtain ⟨ks, hks, hk, hkl⟩ : ∃ ks : List Int, cs.filterMap (fun c => if lowB hi c = true then some (VW.D.int c) else none) = ks.map VW.D.int ∧ (ks = [low] ∨ (ks = [low, a] ∧ lowB hi a = true) ∨ (ks = [low, a, b] ∧ lowB hi b = true)) ∧ ks.length ≤ 3 := by
        have l0 : lowB hi low = true := by
          cases hi with
          | none => rfl
          | some h => exact decide_eq_true (by by_cases c : h ≤ low; exact absurd ⟨h, rfl, c⟩ hn; omega)
        rw [hcs]
        cases lb : lowB hi b with
        | true =>
          have la := lowB_le (by omega : a ≤ b) lb
          exact ⟨[low, a, b], by simp [l0, la, lb], .inr (.inr ⟨rfl, rfl⟩), by show 3 ≤ 3; decide⟩
        | false =>
          cases la : lowB hi a with
          | true => exact ⟨[low, a], by simp [l0, la, lb], .inr (.inl ⟨rfl, rfl⟩), by show 2 ≤ 3; decide⟩
          | false => exact ⟨[low], by simp [l0, la, lb], .inl rfl, by show 1 ≤ 3; decide⟩
      rw [hks]
      have hz : VW.zipD (ks.map VW.D.int ++ [oI hi]) (VW.cutD (ks.map VW.D.int ++ [oI hi]) (some 1) none) = (cutPr hi ks).map prD := by
        rcases hk with rfl | ⟨rfl, _⟩ | ⟨rfl, _⟩ <;> rfl
      have ho := cut_ok (y0 := y0) (y1 := y1) (y2 := y2) (back := back) hn hlow ⟨a1, a2⟩ ⟨b1, b2⟩ hhi hk
      walk_at "v"
      refine ⟨by rw [List.length_map, sizeLine_eq]; show ks.length + 1 ≤ _; omega, fun L2 hL2 => ?_⟩
      have n2L : L2 ≠ L := fun z => by rw [z, VW.sup_same] at hL2; cases hL2
      have hL25 : S5 L2 = none := by rw [VW.sup_ne n2L] at hL2; exact hL2
      have n2q : L2 ≠ q := d5.pool.ne hL25
      walk_at "v"
      rw [hz]
      generalize hS9 : VW.sup (VW.sup S5 L (.lst (cs.map VW.D.int))) L2 (.lst (ks.map VW.D.int ++ [oI hi])) = S9
      refine ⟨fun env S3 => env = [some (.ref q), some (.tup [.str "going", .int low, oI hi, .bl back]), some (.lst [.int y0, .int y1, .int y2]), some (.str "going"), some (.int low), some (oI hi), some (.bl back), some (.ref L2), v8, some (.lst ((if back then (cutPr hi ks).reverse else cutPr hi ks).map prD)), none, none, none] ∧ S3 = S9, ?_, ?_⟩
      · cases back with
        | true =>
          walk_at "v"
          exact ⟨by rw [if_pos rfl, List.map_reverse]; rfl, rfl⟩
        | false =>
          walk_at "v"
          rfl
      · rintro env S3 ⟨rfl, rfl⟩
        obtain ⟨qs, hqs⟩ : ∃ qs, qs = (if back then (cutPr hi ks).reverse else cutPr hi ks) := ⟨_, rfl⟩
        rw [← hqs] at ho ⊢
        walk_at "v"
        refine lcD_of (cutPs qs [y0, y1, y2]) (fun p => some p.d) ?_ ?_ (fun L' acc hL' => ⟨Or.inl rfl, Or.inl rfl⟩) (fun i c d S3 Zy Zn hr hd hS hy hn => ?_) ?_
        · show min (qs.map prD).length 3 = (List.zipWith _ qs [y0, y1, y2]).length
          rw [List.length_zipWith, List.length_map]; rfl
        · have := ho.len
          rw [sizeLine_eq]; omega
        · obtain ⟨u, v, hu, hv, rfl⟩ := hd
          obtain ⟨x, t, hx, ht, rfl⟩ := List.getElem?_zipWith_eq_some.mp hr
          have hv : ([y0, y1, y2].map VW.D.int)[i]? = some v := hv
          rw [List.getElem?_map, hx] at hu
          rw [List.getElem?_map, ht] at hv
          cases hu; cases hv
          show VW.kTup 2 _ (.tup [.tup [.int x.1, oI x.2], .int t]) _ S3 _
          walk_at "v"
          exact hy _ rfl
        · rw [show (cutPs qs [y0, y1, y2]).filterMap (fun p => some p.d) = (cutPs qs [y0, y1, y2]).map Pc.d from by rw [← List.filterMap_eq_map]; rfl]
          refine ⟨S5, fun a o h => ?_, k _ S5 ho d5⟩
          rw [← hS9, VW.sup_ne (fun z => by rw [z, hL25] at h; cases h), VW.sup_ne (fun z => by rw [z, hL5] at h; cases h)]
          exact h

local macro_rules | `(tactic| walk_at "vf") => `(tactic| first
  | ((with_reducible show VW.DGot _ _ _ _); exact dgotA (by walk_at "sq"))
  | ((with_reducible show VW.DPutD _ _ _ _ _); exact dputA (by walk_at "sp") (by first | assumption | walk_at "arith"))
  | ((with_reducible show VW.DPopD _ _ _ _ _); exact dpopA (by walk_at "sp") (by assumption)))

/-! ### rows that are good -/
structure PcG (n : Nat) (p : Pc) : Prop where
  f : 0 ≤ p.fst ∧ p.fst ≤ 100 + (n : Int)
  l : ∀ l, p.lst = some l → 0 ≤ l ∧ l ≤ 200 + (n : Int)
  m : -200000 - 10000 * (n : Int) ≤ p.mom ∧ p.mom ≤ 200000 + 10000 * (n : Int)
def WkG (n : Nat) : Wk → Prop
  | .ask k m => k.g ∧ ∀ o, m = some o → -200000 - 10000 * (n : Int) ≤ o ∧ o ≤ 200000 + 10000 * (n : Int)
  | .going l h _ ps => (0 ≤ l ∧ l ≤ 9) ∧ (∀ x, h = some x → 0 ≤ x ∧ x ≤ 9) ∧ ps.length ≤ 3 + n ∧ ∀ p ∈ ps, PcG n p
structure GRn (n : Nat) (r : Row) : Prop where
  nm : Sh 20 0 (.str r.nm)
  w : WkG n r.w
  b : ∀ b, r.b = some b → 0 ≤ b ∧ b ≤ 200000 + 10000 * (n : Int)
  e : ∀ e, r.e = some e → 0 ≤ e ∧ e ≤ 200000 + 10000 * (n : Int)
  an : r.an.gn (500 + n)
/-- a row of a history -/
structure HR (i : Nat) (r : Row) : Prop where
  gr : GRn 0 r
  tm : timely r = true
  nd : (lawMoms r).Nodup
  md : ∀ o ∈ lawMoms r, o % 1000 / 10 = (i : Int)
  an : r.an = .non
/-- three moments, rising -/
structure T3 (b en : Int) (i : Nat) (ys : List Int) : Prop where
  len : ys.length = 3
  nd : ys.Nodup
  bd : ∀ y ∈ ys, b < y ∧ y < en ∧ y % 1000 / 10 = (i : Int)
def WOk (ys : List Int) (e : Option Int) : Wk → Prop
  | .ask k m => k.g ∧ ((∃ y ∈ ys, m = some y) ∨ (m = none ∧ e = none))
  | .going l h b ps => (0 ≤ l ∧ l ≤ 9) ∧ (∀ x, h = some x → 0 ≤ x ∧ x ≤ 9) ∧ CutOk l h b ys ps
theorem hr_of {nm : Str} {w : Wk} {b en : Int} {i : Nat} {ys : List Int} {e : Option Int} (hn : Sh 20 0 (.str nm)) (t : T3 b en i ys) (hb : 0 ≤ b ∧ b ≤ 100000) (he : en ≤ 100000) (hw : WOk ys e w) (ee : e = none ∨ e = some en) : HR i ⟨nm, w, some b, e, .non⟩ := by
  have be : ∀ z, e = some z → 0 ≤ z ∧ z ≤ 200000 + 10000 * ((0 : Nat) : Int) ∧ z = en := fun z h => by
    rcases ee with ee | ee
    · rw [ee] at h; cases h
    · rw [ee] at h; cases h
      have hl := t.len
      obtain ⟨y, hy⟩ : ∃ y, y ∈ ys := by
        cases ys with
        | nil => cases hl
        | cons y r => exact ⟨y, List.mem_cons_self⟩
      have := t.bd y hy
      omega
  have iw : ∀ y ∈ ys, inW (some b) (some y) e = true := fun y hy => by
    have := t.bd y hy
    rcases ee with ee | ee
    · rw [ee]; show (decide (b < y) && true) = true; rw [decide_eq_true this.1]; rfl
    · rw [ee]; show (decide (b < y) && decide (y < en)) = true; rw [decide_eq_true this.1, decide_eq_true this.2.1]; rfl
  have hbb : ∀ z, some b = some z → 0 ≤ z ∧ z ≤ 200000 + 10000 * ((0 : Nat) : Int) := fun z h => by cases h; omega
  cases w with
  | ask k m =>
    obtain ⟨hk, hm⟩ := hw
    rcases hm with ⟨y, hy, rfl⟩ | ⟨rfl, rfl⟩
    · have hyb := t.bd y hy
      refine ⟨⟨hn, ⟨hk, fun o h => by cases h; omega⟩, hbb, fun z h => ⟨(be z h).1, (be z h).2.1⟩, trivial⟩, ?_, ?_, ?_, rfl⟩
      · show ((e.isNone && false) || inW (some b) (some y) e) = true
        rw [iw y hy, Bool.or_true]
      · exact List.pairwise_singleton _ _
      · intro o ho
        rw [List.mem_singleton.mp (show o ∈ [y] from ho)]
        exact hyb.2.2
    · exact ⟨⟨hn, ⟨hk, fun o h => by cases h⟩, hbb, (fun z h => by cases h), trivial⟩, rfl, List.nodup_nil, (fun o ho => by cases ho), rfl⟩
  | going l h bk ps =>
    obtain ⟨h1, h2, h3⟩ := hw
    have hm : ∀ p ∈ ps, p.mom ∈ ys := fun p hp => by
      have : p.mom ∈ ps.map Pc.mom := List.mem_map.mpr ⟨p, hp, rfl⟩
      rw [h3.ms] at this
      exact List.mem_of_mem_take this
    refine ⟨⟨hn, ⟨h1, h2, h3.len, fun p hp => ?_⟩, hbb, fun z h => ⟨(be z h).1, (be z h).2.1⟩, trivial⟩, ?_, ?_, ?_, rfl⟩
    · obtain ⟨c1, c2⟩ := h3.bd p hp
      have := t.bd _ (hm p hp)
      exact ⟨by omega, fun l e => by have := c2 l e; omega, by omega⟩
    · cases e with
      | none => rfl
      | some z =>
        obtain ⟨_, _, rfl⟩ := be z rfl
        show (abutG l h bk ps && (decide (b < z) && (ps.map fun p => inW (some b) (some p.mom) (some z)).all id)) = true
        rw [h3.ab, Bool.true_and, Bool.and_eq_true]
        refine ⟨?_, ?_⟩
        · have hl := t.len
          obtain ⟨y, hy⟩ : ∃ y, y ∈ ys := by
            cases ys with
            | nil => cases hl
            | cons y r => exact ⟨y, List.mem_cons_self⟩
          have := t.bd y hy
          exact decide_eq_true (by omega)
        · rw [List.all_map, List.all_eq_true]
          intro p hp
          exact iw _ (hm p hp)
    · show (if e.isSome = true then ps.map Pc.mom else []).Nodup
      split
      · rw [h3.ms]; exact t.nd.sublist (List.take_sublist _ _)
      · exact List.nodup_nil
    · intro o ho
      have ho : o ∈ (if e.isSome = true then ps.map Pc.mom else []) := ho
      split at ho
      · obtain ⟨p, hp, rfl⟩ := List.mem_map.mp ho
        exact (t.bd _ (hm p hp)).2.2
      · cases ho
/-! ### a history -/
theorem ixN_last {n m : Nat} (h : n = m + 1) : ixN n (-1) = some m := by
  unfold ixN
  rw [if_neg (by decide), if_pos (by omega)]
  congr 1; omega
theorem set_last {rs : List Row} {r s : Row} {d : VW.D} (h : d = s.d := by rfl) : ((rs ++ [r]).map Row.d).set rs.length d = (rs ++ [s]).map Row.d := by
  rw [h, List.map_append, List.map_append]
  have e : rs.length = (rs.map Row.d).length := (List.length_map ..).symm
  rw [e]
  rw [List.set_append_right _ _ (Nat.le_refl _), Nat.sub_self]; rfl
def Hs (rs : List Row) : Prop := ∀ i r, rs[i]? = some r → HR i r
theorem Hs.app {rs : List Row} {r : Row} {j : Nat} (h : Hs rs) (l : rs.length = j) (g : HR j r) : Hs (rs ++ [r]) := fun i s hi => by
  rcases Nat.lt_trichotomy i rs.length with c | c | c
  · rw [List.getElem?_append_left c] at hi; exact h i s hi
  · subst c
    rw [List.getElem?_append_right (Nat.le_refl _), Nat.sub_self] at hi
    cases hi; rw [l]; exact g
  · rw [List.getElem?_eq_none (by rw [List.length_append]; show rs.length + 1 ≤ i; omega)] at hi; cases hi
def spHist : VW.SpD := VW.sp3 fun x y z S P _ => ∃ (q : Addr) (n : Nat), x = .ref q ∧ y = .int (n : Int) ∧ z = .bl true ∧ VW.PoolS S q ∧ n ≤ 6 ∧
  ∀ (rs : List Row) (S' : VW.Sto), Hs rs → rs.length = n → VW.Drawn S q S' → P (.lst (rs.map Row.d)) S'
theorem ok_history (T : Txt w K mg A) : FnOk P w K mg base CX0 3 A.a_history A.d_history ["_law_pool_here", "_law_many", "_law_has_goings"] (VW.upSp K (spHist)) := by
  refine T.F_history.ok sc_history (VW.upSp.len VW.sp3_len) (fun cdv A' outer s H vs Q E hr h => ?_)
  obtain ⟨F, S, ds, P', PE, rh, hv, ⟨x1, x2, x3, rfl, h⟩, lv, lx⟩ := h
  have hS0 := (fun (X : VW.Sto) (e : X = S) => e) S rfl
  haveI : VW.XLe K F E PE := ⟨lx⟩
  have hu := hu_of hr
  refine ⟨_, (pss_cons (ps_set (i := 3) sc_history.nd rfl (Or.inl rfl) (pe_lst pa_nil))
      (pss_cons (ps_for PassesOwn.never rfl (pi_range1 rfl T.n_range (pa_cons (pv 1) pa_nil)) (pg_name (i := 4) sc_history.nd rfl (Or.inr rfl))
      (pss_cons (ps_set (i := 5) sc_history.nd rfl (Or.inl rfl) (pe_call (ok_drawn_ask T) (hr.mono (by decide)) rfl T.m_drawn_ask T.F_drawn_ask.kp T.b_drawn_ask .nil VW.pass0F (pa_cons (pv 0) (pa_cons (pv 2) pa_nil))))
      (pss_cons (ps_set (i := 6) sc_history.nd rfl (Or.inr rfl) (pe_op op_mul pe_int (pe_call (ok_take T) (hr.mono (by decide)) rfl T.m_take T.F_take.kp T.b_take .nil VW.pass0F (pa_cons (pv 0) (pa_cons pe_int pa_nil)))))
      (pss_cons (VW.ps_setLcK (i := 7) (own := [("_law_k", 10)]) rfl sc_history.nd rfl rfl (sw_true rfl rfl rfl (by decide +kernel)) (pi_range1 rfl T.n_range (pa_cons pe_int pa_nil)) (blkOk_by (own := [("_law_k", 10)]) (N := n_history) (sc := defScope s_history) (by decide +kernel)) (fun _ _ _ _ _ => viaG (pg_name (i := 10) sc_history.nd rfl (Or.inl rfl)) (by first | rfl | (dsimp only [Cx.blk]; done) | (dsimp only [Cx.blk]; rfl))) (fun _ _ _ _ _ => viaT pts_nil (by first | rfl | (dsimp only [Cx.blk]; done) | (dsimp only [Cx.blk]; rfl))) (fun _ _ _ _ _ => viaE (pe_op op_add (pe_op op_add (pe_op op_add (pv 6) (pe_op op_mul pe_int (pe_op op_add (pe_op op_add pe_int (pv 10)) (pe_op op_mul (pe_call (ok_take T) (hr.mono (by decide)) rfl T.m_take T.F_take.kp T.b_take .nil VW.pass0F (pa_cons (pv 0) (pa_cons pe_int pa_nil))) pe_int)))) (pe_op op_mul pe_int (pv 4))) (pv 10)) (by first | rfl | (dsimp only [Cx.blk]; done) | (dsimp only [Cx.blk]; rfl))))
      (pss_cons (ps_set (i := 7) sc_history.nd rfl (Or.inl rfl) (VW.pe_kp (pe_callB VW.call_sortI (by rfl) T.n_sorted (by decide +kernel) (pa_cons (pv 7) pa_nil))))
      (pss_cons (ps_set (i := 8) sc_history.nd rfl (Or.inl rfl) (pe_op op_add (pe_op op_add (pe_ix ix_list (pv 7) (pe_un un_neg pe_int) (fun _ _ => rfl)) (pe_op op_mul pe_int (pe_op op_add pe_int (pe_call (ok_take T) (hr.mono (by decide)) rfl T.m_take T.F_take.kp T.b_take .nil VW.pass0F (pa_cons (pv 0) (pa_cons pe_int pa_nil)))))) pe_int))
      (pss_cons (ps_set (i := 9) sc_history.nd rfl (Or.inl rfl) (pe_ix ix_list (pv 7) (pe_call (ok_take T) (hr.mono (by decide)) rfl T.m_take T.F_take.kp T.b_take .nil VW.pass0F (pa_cons (pv 0) (pa_cons pe_int pa_nil))) (fun _ _ => rfl)))
      (VW.cutAt (ps_if (pt_cmpR op_eq (pe_ix ix_tup (pv 5) pe_int (fun _ _ => rfl)) pe_str (nomark _))
      (pss_one (ps_set (i := 9) sc_history.nd rfl (Or.inl rfl) (pe_call (ok_cut_pieces T) (hr.mono (by decide)) rfl T.m_cut_pieces T.F_cut_pieces.kp T.b_cut_pieces .nil VW.pass0F (pa_cons (pv 0) (pa_cons (pv 5) (pa_cons (pv 7) pa_nil))))))
      pss_nil)
      (VW.cutAt (ps_if (pt_cmpR op_eq (pe_call (ok_take T) (hr.mono (by decide)) rfl T.m_take T.F_take.kp T.b_take .nil VW.pass0F (pa_cons (pv 0) (pa_cons pe_int pa_nil))) pe_int (nomark _))
      (pss_cons (ps_set (i := 8) sc_history.nd rfl (Or.inl rfl) pe_non)
      (pss_one (ps_if (PW.pt (pw_and (pt_cmpR op_ne (pe_ix ix_tup (pv 5) pe_int (fun _ _ => rfl)) pe_str (nomark _)) (pw_and1 (pt_cmpR op_eq (pe_call (ok_take T) (hr.mono (by decide)) rfl T.m_take T.F_take.kp T.b_take .nil VW.pass0F (pa_cons (pv 0) (pa_cons pe_int pa_nil))) pe_int (nomark _)))))
      (pss_one (ps_set (i := 9) sc_history.nd rfl (Or.inl rfl) pe_non))
      pss_nil)))
      pss_nil)
      (pss_cons (ps_expr (pe_bm PySem.F.plainAttrs_list PySem.F.slot_list_append PySem.F.type_list_append mt_append (pv 3) (pa_cons (pe_tup (pa_cons (pe_ix ix_str pe_str (pe_op op_mod (pv 4) pe_int) (fun _ _ => rfl)) (pa_cons (pv 5) (pa_cons (pe_op op_add (pv 6) (pe_op op_mul pe_int (pv 4))) (pa_cons (pv 9) (pa_cons (pv 8) (pa_cons pe_non pa_nil))))))) pa_nil)))
      (pss_one (ps_if (PW.pt (pw_and (pt_cmpR VW.op_isNA (pv 8) pe_non (nomark _)) (pw_and (pt_cmpR VW.op_isNA (pv 9) pe_non (nomark _)) (pw_and1 (pt_cmpR op_eq (pe_call (ok_take T) (hr.mono (by decide)) rfl T.m_take T.F_take.kp T.b_take .nil VW.pass0F (pa_cons (pv 0) (pa_cons pe_int pa_nil))) pe_int (nomark _))))))
      (pss_one (ps_asg (pe_tup (pa_cons (pe_ix ix_str pe_str (pe_op op_mod (pv 4) pe_int) (fun _ _ => rfl)) (pa_cons (pv 5) (pa_cons pe_non (pa_cons pe_non (pa_cons pe_non (pa_cons pe_non pa_nil))))))) (pg_sub (pv 3) (pe_un un_neg pe_int) set_list)))
      pss_nil))))))))))))
      (pss_one (ps_ret (pv 3))))), ?_⟩
  try dsimp only [cxOf, Cx.nox, Cx.wish, List.map]
  refine VW.body_frzS rh hv lv ?_
  obtain ⟨q, n, rfl, rfl, rfl, hq, hn, k⟩ := h
  show VW.dSeq _ _ _ [some (.ref q), some (.int (n : Int)), some (.bl true), none, none, none, none, none, none, none, none] S
  walk_at "v"
  intro L hL
  have nLq := hq.ne hL
  walk_at "v"
  refine VW.ForD.mk ⟨fun j env S4 => Wrap (∃ v4 v5 v6 v7 v8 v9 v10 : Option VW.D, ∃ rs : List Row, env = [some (.ref q), some (.int (n : Int)), some (.bl true), some (.ref L), v4, v5, v6, v7, v8, v9, v10] ∧ S4 L = some (.lst (rs.map Row.d)) ∧ VW.PoolS S4 q ∧ (∀ a o, S a = some o → a ≠ q → S4 a = some o) ∧ rs.length = j ∧ Hs rs), ?_, fun _ _ _ _ _ => True.intro, ?_, ?_⟩
  · exact ⟨_, _, _, _, _, _, _, [], rfl, VW.sup_same, hq.over nLq, fun a o h n => by
      rw [VW.sup_ne (fun z => by rw [z, hL] at h; cases h)]; exact h, rfl, fun i r hr => by simp at hr⟩
  · rintro j x env S4 hj hx ⟨v4, v5, v6, v7, v8, v9, v10, rs, rfl, hL4, hq4, hS4, hrl, hgr⟩
    obtain rfl : x = .int (j : Int) := by
      have hx : x = .int (0 + (j : Int)) := hx
      rw [hx, Int.zero_add]
    have hj : j < n := by
      have : j < ((n : Int)).toNat := hj
      omega
    walk_at "v"
    intro ask S5 ga d5
    have hq5 := d5.pool
    walk_at "v"
    intro r1 S6 r10 r11 d6
    have hq6 := d6.pool
    walk_at "v"
    refine VW.lcD_drawnR (q := q) [.int 0, .int 1, .int 2] (fun i acc => ∃ ts : List Int, acc = ts.map VW.D.int ∧ ts.length = i ∧ i ≤ 3 ∧ (∀ t ∈ ts, (1000 * r1 + 10 * (j : Int) + 1000 ≤ t ∧ t ≤ 1000 * r1 + 10 * (j : Int) + 6002) ∧ t % 1000 / 10 = (j : Int) ∧ t % 10 < (i : Int)) ∧ ts.Pairwise fun a b => a % 10 < b % 10) rfl (fun i d hlt hit => ?_) hq6 (fun _ _ _ _ _ => True.intro) ⟨[], rfl, rfl, by omega, (fun t ht => by cases ht), List.Pairwise.nil⟩ (fun i acc ⟨ts, e, hl, hi, _⟩ => ?_) ?_ ?_
    · have hlt : i < 3 := hlt
      have hit : d = .int (0 + (i : Int)) := hit
      rw [hit]
      have : i = 0 ∨ i = 1 ∨ i = 2 := by omega
      rcases this with rfl | rfl | rfl <;> rfl
    · rw [e, List.length_map, sizeLine_eq]; omega
    · intro i d acc S7 Zy Zn hd ⟨ts, e, hl, hi3, ht, hpw⟩ hq7 hS7 hy hn
      subst e
      have hi : i < 3 := (List.getElem?_eq_some_iff.mp hd).1
      obtain rfl : d = .int (i : Int) := by
        have : i = 0 ∨ i = 1 ∨ i = 2 := by omega
        rcases this with rfl | rfl | rfl <;> (cases hd; rfl)
      walk_at "v"
      intro r2 S8 r20 r21 d8
      walk_at "v"
      have tn : (1000 * r1 + 1000 * (1 + (i : Int) + r2 * 3) + 10 * (j : Int) + (i : Int)) % 1000 = 10 * (j : Int) + (i : Int) := by omega
      refine hy _ _ d8 ⟨ts ++ [1000 * r1 + 1000 * (1 + (i : Int) + r2 * 3) + 10 * (j : Int) + (i : Int)], by rw [List.map_append]; rfl, by rw [List.length_append, hl]; rfl, by omega, fun t h => ?_, ?_⟩
      · rcases List.mem_append.mp h with h | h
        · have := ht t h
          exact ⟨this.1, this.2.1, by have := this.2.2; omega⟩
        · rw [List.mem_singleton.mp h]
          exact ⟨⟨by omega, by omega⟩, by omega, by omega⟩
      · rw [List.pairwise_append]
        refine ⟨hpw, List.pairwise_singleton _ _, fun a ha b hb => ?_⟩
        rw [List.mem_singleton.mp hb]
        have := (ht a ha).2.2
        omega
    · rintro acc S8 ⟨ts, rfl, hl, _, ht, hpw⟩ d8
      have hq8 := d8.pool
      walk_at "v"
      intro ys hys
      have hy : ∀ y ∈ ys, (1000 * r1 + 10 * (j : Int) + 1000 ≤ y ∧ y ≤ 1000 * r1 + 10 * (j : Int) + 6002) ∧ y % 1000 / 10 = (j : Int) := fun y h => by have := ht y (hys.pm.mem_iff.mp h); exact ⟨this.1, this.2.1⟩
      have hynd : ys.Nodup := hys.pm.nodup_iff.mpr (List.nodup_iff_pairwise_ne.mpr (hpw.imp fun {a b} h e => by rw [e] at h; omega))
      have hypw := hys.pw
      have hyl : ys.length = 3 := hys.pm.length_eq.trans hl
      clear hys ht hpw
      obtain ⟨y0, y1, y2, rfl⟩ : ∃ y0 y1 y2, ys = [y0, y1, y2] := by
        match ys, hyl with
        | [y0, y1, y2], _ => exact ⟨y0, y1, y2, rfl⟩
      have hy01 : (y0 ≤ y1 ∧ y0 ≤ y2) ∧ y1 ≤ y2 := by simpa using hypw
      show VW.kName _ (.lst [.int y0, .int y1, .int y2]) _ _ _
      have am : atI [VW.D.int y0, .int y1, .int y2] (-1) = some (.int y2) := rfl
      walk_at "v"
      intro r2 S9 r20 r21 d9
      have hq9 := d9.pool
      walk_at "v"
      intro r3 S10 r30 r31 d10
      have hq10 := d10.pool
      obtain ⟨y, ay, hym⟩ : ∃ y : Int, atI [VW.D.int y0, .int y1, .int y2] r3 = some (.int y) ∧ y ∈ [y0, y1, y2] := by
        have : r3 = 0 ∨ r3 = 1 ∨ r3 = 2 := by omega
        rcases this with rfl | rfl | rfl
        · exact ⟨y0, rfl, by simp⟩
        · exact ⟨y1, rfl, by simp⟩
        · exact ⟨y2, rfl, by simp⟩
      have h2 := hy y2 (by simp)
      have t3 : T3 (1000 * r1 + 10 * (j : Int)) (y2 + 1000 * (1 + r2) + 7) j [y0, y1, y2] := ⟨rfl, hynd, fun z hz => by
        have h1 := hy z hz
        have hz : z = y0 ∨ z = y1 ∨ z = y2 := by simpa using hz
        exact ⟨by omega, by omega, h1.2⟩⟩
      have hen : y2 + 1000 * (1 + r2) + 7 ≤ 100000 := by omega
      walk_at "v"
      show VW.dCut _ _ _ [some (.ref q), some (.int (n : Int)), some (.bl true), some (.ref L), some (.int (j : Int)), some ask.ad, some (.int (1000 * r1)), some (.lst [.int y0, .int y1, .int y2]), some (.int (y2 + 1000 * (1 + r2) + 7)), some (.int y), v10] S10
      generalize y2 + 1000 * (1 + r2) + 7 = en at t3 hen ⊢
      refine ⟨fun env S11 => Wrap (∃ w : Wk, env = [some (.ref q), some (.int (n : Int)), some (.bl true), some (.ref L), some (.int (j : Int)), some w.ad, some (.int (1000 * r1)), some (.lst [.int y0, .int y1, .int y2]), some (.int en), some w.md, v10] ∧ VW.Drawn S10 q S11 ∧ ∀ e, WOk [y0, y1, y2] e w), ?_, ?_⟩
      · cases ask with
        | ask ka m =>
          obtain ⟨hk, rfl⟩ := ga
          obtain ⟨z, tl, ad, a0, ez⟩ := ask_word ka
          have ad : (Wk.ask ka none).ad = .tup (.str z :: tl) := ad
          walk_at "v"
          rw [ez]
          walk_at "v"
          exact ⟨.ask ka (some y), rfl, .refl hq10, fun e => ⟨hk, .inl ⟨y, hym, rfl⟩⟩⟩
        | going l h b ps =>
          obtain ⟨h1, h2', rfl⟩ := ga
          have ad : (Wk.going l h b []).ad = .tup [.str "going", .int l, oI h, .bl b] := rfl
          walk_at "v"
          intro ps S11 hc d11
          walk_at "v"
          exact ⟨.going l h b ps, rfl, d11, fun e => ⟨h1, h2', hc⟩⟩
      · rintro env S11 ⟨w, rfl, d11, hw⟩
        have hq11 := d11.pool
        walk_at "v"
        refine ⟨fun env S12 => Wrap (∃ (w : Wk) (e : Option Int), env = [some (.ref q), some (.int (n : Int)), some (.bl true), some (.ref L), some (.int (j : Int)), some w.ad, some (.int (1000 * r1)), some (.lst [.int y0, .int y1, .int y2]), some (oI e), some w.md, v10] ∧ VW.Drawn S11 q S12 ∧ WOk [y0, y1, y2] e w ∧ (e = none ∨ e = some en)), ?_, ?_⟩
        · obtain ⟨z, tl, ad, a0, ez⟩ : ∃ (z : Str) (tl : List VW.D), w.ad = .tup (.str z :: tl) ∧ atI (VW.D.str z :: tl) 0 = some (.str z) ∧ decide (z = ("going" : Str)) = (match w with | .going _ _ _ _ => true | .ask _ _ => false) := by
            cases w with
            | ask k m => exact ask_word k
            | going l h b ps => exact ⟨"going", _, rfl, rfl, decide_eq_true rfl⟩
          walk_at "v"
          intro r4 S12 r40 r41 d12
          have hq12 := d12.pool
          walk_at "v"
          refine ite2 (fun _ => ?_) (fun _ => ?_)
          · walk_at "v"
            rw [ez]
            cases w with
            | ask ka m =>
              rw [show (!false) = true from rfl]
              walk_at "v"
              intro r5 S13 r50 r51 d13
              walk_at "v"
              refine ite2 (fun _ => ?_) (fun _ => ?_)
              · walk_at "v"
                exact ⟨.ask ka none, none, rfl, d12.trans d13, ⟨(hw none).1, .inr ⟨rfl, rfl⟩⟩, .inl rfl⟩
              · walk_at "v"
                exact ⟨.ask ka m, none, rfl, d12.trans d13, hw none, .inl rfl⟩
            | going l h b ps =>
              rw [show (!true) = false from rfl]
              walk_at "v"
              exact ⟨.going l h b ps, none, rfl, d12, hw none, .inl rfl⟩
          · walk_at "v"
            exact ⟨w, some en, rfl, d12, hw _, .inr rfl⟩
        · rintro env S12 ⟨w, e, rfl, d12, hw, he⟩
          have hq12 := d12.pool
          have dd := ((((((d5.trans d6).trans d8).trans d9).trans d10).trans d11).trans d12)
          have hL12 := dd.at hL4 nLq
          have hS12 : ∀ a o, S a = some o → a ≠ q → S12 a = some o := fun a o h n => dd.at (hS4 a o h n) n
          have hLn : S L = none := hL
          have hrl2 : (rs.map Row.d).length < sizeLine := by rw [List.length_map, sizeLine_eq]; omega
          clear d5 d6 d8 d9 d10 d11 d12 dd
          obtain ⟨c, ac, hc⟩ : ∃ c, atI ("abcdefgh" : Str).cps.toList ((j : Int) % 8) = some c ∧ Sh 20 0 (.str ⟨#[c]⟩) := by
            rcases (by omega : j = 0 ∨ j = 1 ∨ j = 2 ∨ j = 3 ∨ j = 4 ∨ j = 5) with rfl | rfl | rfl | rfl | rfl | rfl
            · exact ⟨97, by decide +kernel, (Sh.str (by decide +kernel)).mono (by decide) (Nat.le_refl _)⟩
            · exact ⟨98, by decide +kernel, (Sh.str (by decide +kernel)).mono (by decide) (Nat.le_refl _)⟩
            · exact ⟨99, by decide +kernel, (Sh.str (by decide +kernel)).mono (by decide) (Nat.le_refl _)⟩
            · exact ⟨100, by decide +kernel, (Sh.str (by decide +kernel)).mono (by decide) (Nat.le_refl _)⟩
            · exact ⟨101, by decide +kernel, (Sh.str (by decide +kernel)).mono (by decide) (Nat.le_refl _)⟩
            · exact ⟨102, by decide +kernel, (Sh.str (by decide +kernel)).mono (by decide) (Nat.le_refl _)⟩
          have hr1 : HR j ⟨⟨#[c]⟩, w, some (1000 * r1 + 10 * (j : Int)), e, .non⟩ := hr_of hc t3 ⟨by omega, by omega⟩ hen hw he
          have fin : ∀ (S13 : VW.Sto) (r : Row), HR j r → S13 L = some (.lst ((rs ++ [r]).map Row.d)) → VW.PoolS S13 q → (∀ a o, S12 a = some o → a ≠ q → a ≠ L → S13 a = some o) →
              (∀ a o, S a = some o → a ≠ q → S13 a = some o) ∧ (rs ++ [r]).length = j + 1 ∧ Hs (rs ++ [r]) := fun S13 r g1 hL13 hq13 hh => by
            refine ⟨fun a o h n => hh a o (hS12 a o h n) n (fun z => by rw [z, hLn] at h; cases h), by rw [List.length_append, hrl]; rfl, hgr.app hrl g1⟩
          walk_at "v"
          generalize hst : VW.sup S12 L _ = S13
          have hL13 : S13 L = some (.lst ((rs ++ [(⟨⟨#[c]⟩, w, some (1000 * r1 + 10 * (j : Int)), e, .non⟩ : Row)]).map Row.d)) := by rw [← hst, VW.sup_same, List.map_append]; rfl
          have hq13 : VW.PoolS S13 q := by rw [← hst]; exact hq12.over nLq
          have hh13 : ∀ a o, S12 a = some o → a ≠ q → a ≠ L → S13 a = some o := fun a o h _ n => by rw [← hst, VW.sup_ne n]; exact h
          clear hst
          obtain ⟨f1, f2, f3⟩ := fin S13 _ hr1 hL13 hq13 hh13
          cases e with
          | some e0 =>
            show (if VW.isNon (.int e0) = true then _ else _)
            walk_at "v"
            exact ⟨_, _, _, _, _, _, _, _, rfl, hL13, hq13, f1, f2, f3⟩
          | none =>
            show (if VW.isNon .non = true then _ else _)
            walk_at "v"
            cases w with
            | going l h b ps =>
              show (if VW.isNon (.lst (ps.map Pc.d)) = true then _ else _)
              walk_at "v"
              exact ⟨_, _, _, _, _, _, _, _, rfl, hL13, hq13, f1, f2, f3⟩
            | ask ka m =>
              cases m with
              | some m0 =>
                show (if VW.isNon (.int m0) = true then _ else _)
                walk_at "v"
                exact ⟨_, _, _, _, _, _, _, _, rfl, hL13, hq13, f1, f2, f3⟩
              | none =>
                show (if VW.isNon .non = true then _ else _)
                walk_at "v"
                intro r6 S14 r60 r61 d14
                have hq14 := d14.pool
                have hL14 := d14.at hL13 nLq
                walk_at "v"
                refine ite2 (fun _ => ?_) (fun _ => ?_)
                · have hr2 : HR j ⟨⟨#[c]⟩, .ask ka none, none, none, .non⟩ := ⟨⟨hc, ⟨hw.1, fun o h => by cases h⟩, (fun b h => by cases h), (fun b h => by cases h), trivial⟩, rfl, List.nodup_nil, (fun o ho => by cases ho), rfl⟩
                  walk_at "v"
                  refine ⟨ixN_last (by rw [List.length_map, List.length_append]; rfl : _ = rs.length + 1), ?_⟩
                  rw [set_last (s := ⟨⟨#[c]⟩, .ask ka none, none, none, .non⟩)]
                  obtain ⟨g1, g2, g3⟩ := fin (VW.sup S14 L (.lst ((rs ++ [(⟨⟨#[c]⟩, .ask ka none, none, none, .non⟩ : Row)]).map Row.d))) _ hr2 VW.sup_same (hq14.over nLq) (fun a o h n n2 => by rw [VW.sup_ne n2]; exact d14.at (hh13 a o h n n2) n)
                  exact ⟨_, _, _, _, _, _, _, _, rfl, VW.sup_same, hq14.over nLq, g1, g2, g3⟩
                · walk_at "v"
                  obtain ⟨g1, g2, g3⟩ := fin S14 _ hr1 hL14 hq14 (fun a o h n n2 => d14.at (hh13 a o h n n2) n)
                  exact ⟨_, _, _, _, _, _, _, _, rfl, hL14, hq14, g1, g2, g3⟩
  · rintro env S4 ⟨v4, v5, v6, v7, v8, v9, v10, rs, rfl, hL4, hq4, hS4, hrl, hgr⟩
    walk_at "v"
    obtain ⟨c, sd, e4, c0, s0, s1⟩ := hq4
    refine ⟨L, _, rfl, hL4, VW.sup S q (.lst [.int c, .int sd]), fun a o h => ?_, k rs _ hgr (by rw [hrl]; show ((n : Int)).toNat = n; omega) ⟨c, sd, rfl, c0, s0, s1⟩⟩
    by_cases ea : a = q
    · rw [ea, VW.sup_same] at h
      rw [ea, VW.sdel_ne nLq.symm, e4]; exact h
    · rw [VW.sup_ne ea] at h
      rw [VW.sdel_ne (fun z => by rw [z, hL] at h; cases h)]
      exact hS4 a o h ea

local macro_rules | `(tactic| walk_at "vf") => `(tactic| first
  | ((with_reducible show VW.DGot _ _ _ _); exact dgotA (by walk_at "sq"))
  | ((with_reducible show VW.DPutD _ _ _ _ _); exact dputA (by walk_at "sp") (by first | assumption | walk_at "arith"))
  | ((with_reducible show VW.DPopD _ _ _ _ _); exact dpopA (by walk_at "sp") (by assumption)))

/-! ### answered rows -/
structure GRs (n : Nat) (rs : List Row) : Prop where
  len : rs.length ≤ 6
  pos : 0 < rs.length
  all : ∀ r ∈ rs, GRn n r
structure GP (ps : List (Int × Int)) : Prop where
  prs : Prs ps
  gk : GK ps
theorem GRn.few {n : Nat} {r : Row} (g : GRn n r) (h : n ≤ 2) : r.few ∧ (lawMoms r).length ≤ 5 := by
  have gw := g.w
  obtain ⟨nm, w, b, e, an⟩ := r
  cases w with
  | ask k m => cases m <;> exact ⟨trivial, by show _ ≤ 5; simp [lawMoms, momsL]⟩
  | going l hh bk ps =>
    obtain ⟨_, _, h3, _⟩ := gw
    refine ⟨by show ps.length ≤ 20; omega, ?_⟩
    show (if e.isSome = true then ps.map Pc.mom else []).length ≤ 5
    split
    · rw [List.length_map]; omega
    · exact Nat.zero_le _
theorem moms_len {rs : List Row} (h : ∀ r ∈ rs, (lawMoms r).length ≤ 5) (i : Nat) : (evF i rs).length ≤ 5 * rs.length := by
  induction rs generalizing i with
  | nil => exact Nat.le_refl _
  | cons r rs ih =>
    show (evR i r ++ evF (i + 1) rs).length ≤ _
    have h1 := h r List.mem_cons_self
    rw [← evR_moms i, List.length_map] at h1
    have h2 := ih (fun s hs => h s (List.mem_cons_of_mem _ hs)) (i + 1)
    rw [List.length_append, List.length_cons]
    omega
theorem GRs.gd {n : Nat} {rs : List Row} {ps : List (Int × Int)} (g : GRs n rs) (h : n ≤ 2) (gp : GP ps) : Gd rs ps :=
  ⟨⟨Nat.le_trans g.len (by decide), fun r hr => ((g.all r hr).few h).1⟩, fun r hr => by
    have gw := (g.all r hr).w
    unfold Row.askG
    cases ew : r.w with
    | ask k m => rw [ew] at gw; exact gw.1
    | going l hh b ps => trivial, gp.prs, gp.gk, by
    have := moms_len (rs := rs) (fun r hr => ((g.all r hr).few h).2) 0
    have := g.len
    omega⟩
theorem GRn.mom {n : Nat} {r : Row} (g : GRn n r) (h : n ≤ 2) : ∀ o ∈ lawMoms r, o < 1000000 := by
  have gw := g.w
  obtain ⟨nm, w, b, e, an⟩ := r
  intro o ho
  cases w with
  | ask k m =>
    cases m with
    | none => cases ho
    | some m =>
      rw [List.mem_singleton.mp (show o ∈ [m] from ho)]
      have := gw.2 m rfl
      omega
  | going l hh bk ps =>
    have ho : o ∈ (if e.isSome = true then ps.map Pc.mom else []) := ho
    split at ho
    · obtain ⟨p, hp, rfl⟩ := List.mem_map.mp ho
      have := (gw.2.2.2 p hp).m
      omega
    · cases ho
theorem gm_of {rs : List Row} (nd : (moms rs).Nodup) (ct : (rs.map timely).all id = true) (gb : ∀ r ∈ rs, ∀ b, r.b = some b → 0 ≤ b) (gm : ∀ r ∈ rs, ∀ o ∈ lawMoms r, o < 1000000) : Gm rs := ⟨nd, fun o ho => by
  obtain ⟨r, hr, ho⟩ := moms_mem ho
  have hm := gm r hr o ho
  have ht : timely r = true := List.all_eq_true.mp (by rw [List.all_map] at ct; exact ct) r hr
  rw [placed_timely] at ht
  simp only [Bool.and_eq_true] at ht
  have h3 := List.all_eq_true.mp ht.2.2 o ho
  cases eb : r.b with
  | none => rw [eb] at h3; cases h3
  | some b =>
    have b0 := gb r hr b eb
    rw [eb] at h3
    have h3 : (decide (b < o) && _) = true := h3
    rw [Bool.and_eq_true, decide_eq_true_eq] at h3
    omega⟩
def ansR (F : List (Int × An2)) (i : Nat) (r : Row) : Row := ⟨r.nm, r.w, r.b, r.e, if r.e.isSome = true then dueF F i r.w else .non⟩
def ansL (F : List (Int × An2)) : Nat → List Row → List Row
  | _, [] => []
  | i, r :: rs => ansR F i r :: ansL F (i + 1) rs
theorem ansL_len (F : List (Int × An2)) : ∀ (rs : List Row) (i : Nat), (ansL F i rs).length = rs.length
  | [], _ => rfl
  | r :: rs, i => by show (ansL F (i + 1) rs).length + 1 = _; rw [ansL_len F rs (i + 1)]; rfl
theorem ansL_at (F : List (Int × An2)) : ∀ (rs : List Row) (i j : Nat), (ansL F i rs)[j]? = (rs[j]?).map (ansR F (i + j))
  | [], _, _ => by simp [ansL]
  | r :: rs, i, 0 => rfl
  | r :: rs, i, j + 1 => by
    show (ansL F (i + 1) rs)[j]? = _
    rw [ansL_at F rs (i + 1) j, show i + 1 + j = i + (j + 1) by omega]
    rfl
theorem ansL_snoc (F : List (Int × An2)) (r : Row) : ∀ (rs : List Row) (i : Nat), ansL F i (rs ++ [r]) = ansL F i rs ++ [ansR F (i + rs.length) r]
  | [], i => rfl
  | x :: rs, i => by
    show ansR F i x :: ansL F (i + 1) (rs ++ [r]) = ansR F i x :: (ansL F (i + 1) rs ++ [ansR F (i + (rs.length + 1)) r])
    rw [ansL_snoc F r rs (i + 1), show i + 1 + rs.length = i + (rs.length + 1) by omega]
theorem ansL_ev (F : List (Int × An2)) : ∀ (rs : List Row) (i : Nat), evF i (ansL F i rs) = evF i rs
  | [], _ => rfl
  | r :: rs, i => by
    show evR i (ansR F i r) ++ evF (i + 1) (ansL F (i + 1) rs) = evR i r ++ evF (i + 1) rs
    rw [ansL_ev F rs (i + 1)]; rfl
theorem ansL_ok (F : List (Int × An2)) : ∀ (rs : List Row) (i : Nat), okFrom F i (ansL F i rs) = true
  | [], _ => rfl
  | r :: rs, i => by
    show ((r.e.isNone || decide ((if r.e.isSome = true then dueF F i r.w else .non) = dueF F i r.w)) && okFrom F (i + 1) (ansL F (i + 1) rs)) = true
    rw [ansL_ok F rs (i + 1), Bool.and_true]
    cases r.e with
    | none => rfl
    | some e => exact decide_eq_true rfl
theorem ansL_w (F : List (Int × An2)) (rs : List Row) (n : Nat) : ((ansL F 0 rs)[n]?).map Row.w = (rs[n]?).map Row.w := by
  rw [ansL_at, Option.map_map]; rfl
theorem ansL_play (F : List (Int × An2)) (rs : List Row) (ps : List (Int × Int)) : play (ansL F 0 rs) ps = play rs ps := by
  unfold play
  rw [ansL_ev]
  have e : plS (ansL F 0 rs) = plS rs := by
    funext st e
    unfold plS askAt backAt
    rw [ansL_w]
  rw [e]
theorem ansL_tm (F : List (Int × An2)) : ∀ (rs : List Row) (i : Nat), (ansL F i rs).map timely = rs.map timely
  | [], _ => rfl
  | r :: rs, i => by
    show timely (ansR F i r) :: (ansL F (i + 1) rs).map timely = _
    rw [ansL_tm F rs (i + 1)]; rfl
theorem hs_nd : ∀ (rs : List Row) (i : Nat), (∀ k r, rs[k]? = some r → HR (i + k) r) → ((evF i rs).map (·.mom)).Nodup ∧ ∀ o ∈ (evF i rs).map (·.mom), (i : Int) ≤ o % 1000 / 10
  | [], _, _ => ⟨List.nodup_nil, fun o ho => by cases ho⟩
  | r :: rs, i, h => by
    have h0 : HR i r := h 0 r rfl
    obtain ⟨ih1, ih2⟩ := hs_nd rs (i + 1) fun k s hk => by
      have := h (k + 1) s hk
      rw [show i + (k + 1) = i + 1 + k by omega] at this; exact this
    have e : (evF i (r :: rs)).map (·.mom) = lawMoms r ++ (evF (i + 1) rs).map (·.mom) := by
      show (evR i r ++ evF (i + 1) rs).map (·.mom) = _
      rw [List.map_append, evR_moms]
    rw [e]
    refine ⟨List.nodup_append.mpr ⟨h0.nd, ih1, fun a ha b hb e => ?_⟩, fun o ho => ?_⟩
    · have h1 := h0.md a ha
      have h2 := ih2 b hb
      rw [← e, h1] at h2
      omega
    · rcases List.mem_append.mp ho with ho | ho
      · rw [h0.md o ho]; exact Int.le_refl _
      · have := ih2 o ho
        omega
theorem hs_good {rs : List Row} (h : Hs rs) (hl : rs.length ≤ 6) (hp : 0 < rs.length) : GRs 0 rs ∧ (rs.map timely).all id = true ∧ (moms rs).Nodup := by
  have hm : ∀ r ∈ rs, ∃ i, HR i r := fun r hr => by
    obtain ⟨i, hi⟩ := List.getElem?_of_mem hr
    exact ⟨i, h i r hi⟩
  refine ⟨⟨hl, hp, fun r hr => let ⟨i, g⟩ := hm r hr; g.gr⟩, ?_, (hs_nd rs 0 fun k r hk => by rw [Nat.zero_add]; exact h k r hk).1⟩
  rw [List.all_map, List.all_eq_true]
  intro r hr
  obtain ⟨i, g⟩ := hm r hr
  exact g.tm
theorem due_gn {rs : List Row} {ps : List (Int × Int)} (g : PlG rs 500 (play rs ps)) (i : Nat) (w : Wk) : (dueF (play rs ps).1 i w).gn 500 := by
  unfold dueF
  cases eg : getG (play rs ps).1 (i : Int) with
  | none => cases w <;> first | exact trivial | exact ⟨fun p hp => (List.not_mem_nil hp).elim, Nat.zero_le _⟩
  | some a => exact g.an _ (getG_mem eg)
/-- the rows that the law starts from -/
theorem ans_good {rs : List Row} {ps : List (Int × Int)} (h : Hs rs) (hl : rs.length ≤ 6) (hp : 0 < rs.length) (gp : GP ps) : GRs 0 (ansL (play rs ps).1 0 rs) ∧ standB (ansL (play rs ps).1 0 rs) ps = true := by
  obtain ⟨g, ct, nd⟩ := hs_good h hl hp
  have pg := play_good (g.gd (by decide) gp)
  refine ⟨⟨by rw [ansL_len]; exact hl, by rw [ansL_len]; exact hp, fun r hr => ?_⟩, ?_⟩
  · obtain ⟨j, hj⟩ := List.getElem?_of_mem hr
    rw [ansL_at] at hj
    obtain ⟨s, hs, rfl⟩ := Option.map_eq_some_iff.mp hj
    have gs := g.all s (List.mem_of_getElem? hs)
    refine ⟨gs.nm, gs.w, gs.b, gs.e, ?_⟩
    show (if s.e.isSome = true then dueF (play rs ps).1 (0 + j) s.w else .non).gn _
    split
    · exact due_gn pg _ _
    · trivial
  · unfold standB
    rw [ansL_tm, ct, Bool.true_and]
    have em : moms (ansL (play rs ps).1 0 rs) = moms rs := by unfold moms; rw [ansL_ev]
    rw [em, if_pos nd, ansL_play, ansL_ok]
def spAnsd : VW.SpD := VW.sp2 fun x y S P _ => ∃ ps rs, VW.PrX S x (ps.map pairD) ∧ y = .lst (rs.map Row.d) ∧ GP ps ∧ Hs rs ∧ rs.length ≤ 6 ∧ 0 < rs.length ∧ P (.lst ((ansL (play rs ps).1 0 rs).map Row.d)) S
theorem ok_answered (T : Txt w K mg A) : FnOk P w K mg base CX0 3 A.a_answered A.d_answered ["_law_twos", "_law_rows"] (VW.upSp K (spAnsd)) := by
  refine T.F_answered.ok sc_answered (VW.upSp.len VW.sp2_len) (fun cdv A' outer s H vs Q E hr h => ?_)
  obtain ⟨F, S, ds, P', PE, rh, hv, ⟨x1, x2, rfl, h⟩, lv, lx⟩ := h
  have hS0 := (fun (X : VW.Sto) (e : X = S) => e) S rfl
  haveI : VW.XLe K F E PE := ⟨lx⟩
  have hu := hu_of hr
  refine ⟨_, (pss_cons (ps_set (i := 2) sc_answered.nd rfl (Or.inl rfl) (pe_ix ix_tup (pe_call (ok_played T) (hr.mono (by decide)) rfl T.m_played T.F_played.kp T.b_played .nil VW.pass0F (pa_cons (pv 0) (pa_cons (pv 1) pa_nil))) pe_int (fun _ _ => rfl)))
      (pss_cons (ps_set (i := 3) sc_answered.nd rfl (Or.inl rfl) (pe_lst pa_nil))
      (pss_cons (ps_for PassesOwn.never rfl (pi_zip (by rfl) T.n_zip (pa_cons (pv 1) (pa_cons (pv 2) pa_nil))) (pg_tup (n := 2) rfl (pgs_cons (pg_name (i := 4) sc_answered.nd rfl (Or.inl rfl)) (pgs_cons (pg_name (i := 5) sc_answered.nd rfl (Or.inl rfl)) pgs_nil)))
      (VW.cutAt (ps_if (PW.pt (pw_and (pt_cmpR (VW.op_eqPl hr.units) (pe_ix ix_tup (pe_ix ix_tup (pv 4) pe_int (fun _ _ => rfl)) pe_int (fun _ _ => rfl)) pe_str (nomark _)) (pw_and1 (pt_cmpR VW.op_isNA (pv 5) pe_non (nomark _)))))
      (pss_one (ps_set (i := 5) sc_answered.nd rfl (Or.inl rfl) (VW.pe_kp (pe_lst pa_nil))))
      pss_nil)
      (pss_one (ps_expr (pe_bm PySem.F.plainAttrs_list PySem.F.slot_list_append PySem.F.type_list_append mt_append (pv 3) (pa_cons (pe_op op_catA (pe_slice sl_tupA (pv 4) po_none (po_some pe_int)) (pe_tup (pa_cons (pe_ix ix_list (VW.pe_kp (pe_lst (pa_cons pe_non (pa_cons (pv 5) pa_nil)))) (pe_callTy VW.call_int1A (by rfl) T.n_int (by decide +kernel) (pa_cons (pe_cmpR VW.op_notNA (pe_ix ix_tup (pv 4) pe_int (fun _ _ => rfl)) pe_non (nomark _)) pa_nil)) (fun _ _ => rfl)) pa_nil))) pa_nil))))))
      (pss_one (ps_ret (pv 3)))))), ?_⟩
  try dsimp only [cxOf, Cx.nox, Cx.wish, List.map]
  refine VW.body_frzS rh hv lv ?_
  obtain ⟨ps, rs, hpx, rfl, gp, hs, hrl, hrp, k⟩ := h
  obtain ⟨gr, ct, nd⟩ := hs_good hs hrl hrp
  have gd := gr.gd (by decide) gp
  have gmm : Gm rs := gm_of nd ct (fun r hr b e => ((gr.all r hr).b b e).1) (fun r hr => (gr.all r hr).mom (by decide))
  show VW.dSeq _ _ _ [some x1, some (.lst (rs.map Row.d)), none, none, none, none] S
  walk_at "v"
  intro L q S1 nLq hL1 hq1 hS1
  obtain ⟨pa, _, _, pgo⟩ := play_good gd
  generalize (play rs ps).1 = F at hL1 k pa pgo
  walk_at "v"
  intro M hM
  have nML : M ≠ L := fun z => by rw [z, hL1] at hM; cases hM
  have hMn : S M = none := by
    cases e : S M with
    | none => rfl
    | some o => rw [hS1 _ _ e] at hM; cases hM
  walk_at "v"
  refine VW.ForD.mk ⟨fun j env S4 => Wrap (∃ v4 v5 : Option VW.D, env = [some x1, some (.lst (rs.map Row.d)), some (.ref L), some (.ref M), v4, v5] ∧ S4 = VW.sup S1 M (.lst ((ansL F 0 (rs.take j)).map Row.d))), ?_, fun j env S4 _ ⟨v4, v5, _, e⟩ => ?_, ?_, ?_⟩
  · exact ⟨_, _, rfl, rfl⟩
  · rw [e]
    exact ⟨Or.inl rfl, Or.inr (Or.inl ⟨L, rfl, by rw [VW.sup_ne nML.symm]; exact hL1⟩)⟩
  · rintro j x env S4 hj hx ⟨v4, v5, rfl, rfl⟩
    obtain ⟨a, b, ha, hb, rfl⟩ := hx
    rw [List.getElem?_map] at ha hb
    obtain ⟨r, hr2, rfl⟩ := Option.map_eq_some_iff.mp ha
    obtain ⟨an, han, rfl⟩ := Option.map_eq_some_iff.mp hb
    have hjl := (List.getElem?_eq_some_iff.mp hr2).1
    rw [fndL_at hjl] at han
    have han : (getG F (j : Int)).getD .non = an := Option.some.inj han
    have adue : (VW.isNon an.d = true ∧ ∃ l h b ps, r.w = .going l h b ps) ∧ dueF F j r.w = .rows [] ∨ (VW.isNon an.d = false ∨ ∃ k m, r.w = .ask k m) ∧ dueF F j r.w = an := by
      unfold dueF
      cases eg : getG F (j : Int) with
      | none =>
        rw [eg] at han
        have han : An2.non = an := han
        subst han
        cases ew : r.w with
        | ask k m => exact .inr ⟨.inr ⟨k, m, rfl⟩, rfl⟩
        | going l h b ps => exact .inl ⟨⟨rfl, l, h, b, ps, rfl⟩, rfl⟩
      | some a =>
        rw [eg] at han
        have han : a = an := han
        subst han
        cases ew : r.w with
        | ask k m => exact .inr ⟨.inr ⟨k, m, rfl⟩, rfl⟩
        | going l h b ps =>
          obtain ⟨xs, e, _⟩ := pgo _ (getG_mem eg) j r l h b ps rfl hr2 ew
          have e : a = .rows xs := e
          exact .inr ⟨.inl (by rw [e]; rfl), rfl⟩
    obtain ⟨z, tl, ad, a0, ez⟩ : ∃ (z : Str) (tl : List VW.D), r.w.ad = .tup (.str z :: tl) ∧ atI (VW.D.str z :: tl) 0 = some (.str z) ∧ decide (z = ("going" : Str)) = (match r.w with | .going _ _ _ _ => true | .ask _ _ => false) := by
      cases ew : r.w with
      | ask k m => exact ask_word k
      | going l h b ps => exact ⟨"going", _, rfl, rfl, decide_eq_true rfl⟩
    have ep : ∀ T, VW.eqP (VW.pyS T (.str z)) (VW.pyS T (VW.toD (V.str "going"))) = decide (z = ("going" : Str)) := fun T => by
      show VW.eqP (VW.pyS T (.str z)) (VW.pyS T (.str "going")) = _
      have e : ∀ x : Str, VW.pyS T (.str x) = some (.str x) := fun x => by show VW.py (.str x) = _; rw [VW.py]
      rw [e, e]
      show PyData.eqv (.str z) (.str "going") = _
      simp only [PyData.eqv]
      rfl
    rw [ez] at ep
    obtain ⟨due, hdue⟩ : ∃ due, due = dueF F j r.w := ⟨_, rfl⟩
    rw [← hdue] at adue
    show VW.kTup _ _ (.tup [.tup [.str r.nm, r.w.ad, oI r.b, r.w.md, oI r.e, r.an.d], an.d]) _ _ _
    walk_at "v"
    refine ⟨fun env S5 => env = [some x1, some (.lst (rs.map Row.d)), some (.ref L), some (.ref M), some r.d, some due.d] ∧ S5 = VW.sup S1 M (.lst ((ansL F 0 (rs.take j)).map Row.d)), ?_, ?_⟩
    · rcases adue with ⟨⟨hn, l, h, b, pcs, ew⟩, rfl⟩ | ⟨hn, rfl⟩
      · rw [ew] at ep
        walk_at "v"
        rw [ep]
        walk_at "v"
        rw [hn]
        walk_at "v"
        rfl
      · rcases hn with hn | ⟨ka, m, ew⟩
        · walk_at "v"
          rw [ep]
          generalize (match r.w with | .going _ _ _ _ => true | .ask _ _ => false) = cc
          cases cc with
          | true =>
            walk_at "v"
            rw [hn]
            walk_at "v"
            rfl
          | false =>
            walk_at "v"
            rfl
        · rw [ew] at ep
          walk_at "v"
          rw [ep]
          walk_at "v"
          rfl
    · rintro env S5 ⟨rfl, rfl⟩
      have hsz : ((ansL F 0 (rs.take j)).map Row.d).length < sizeLine := by rw [List.length_map, ansL_len, List.length_take, sizeLine_eq]; omega
      have ex : atI [VW.toD V.non, due.d] (if (!VW.isNon (oI r.e)) = true then 1 else 0) = some (if r.e.isSome = true then due else .non).d := by
        cases r.e with
        | none => rfl
        | some e => rfl
      have nx : ansL F 0 (rs.take (j + 1)) = ansL F 0 (rs.take j) ++ [ansR F j r] := by
        rw [List.take_add_one, hr2]
        show ansL F 0 (rs.take j ++ [r]) = _
        rw [ansL_snoc, List.length_take, Nat.min_eq_left (by omega), Nat.zero_add]
      show VW.dDrop _ _ [some x1, some (.lst (rs.map Row.d)), some (.ref L), some (.ref M), some (.tup [.str r.nm, r.w.ad, oI r.b, r.w.md, oI r.e, r.an.d]), some due.d] _
      walk_at "v"
      rw [VW.sup_sup]
      refine ⟨_, _, rfl, ?_⟩
      rw [nx, List.map_append, show (List.map Row.d [ansR F j r]) = [.tup [.str r.nm, r.w.ad, oI r.b, r.w.md, oI r.e, (if r.e.isSome = true then dueF F j r.w else .non).d]] from rfl, ← hdue]
      rfl
  · rintro env S4 ⟨v4, v5, rfl, rfl⟩
    rw [show rs.take (VW.wZ (VW.D.lst (rs.map Row.d)) (VW.D.ref L) (rs.map Row.d) ((fndL F rs.length).map An2.d)).n = rs from by show rs.take (min (rs.map Row.d).length ((fndL F rs.length).map An2.d).length) = rs; rw [List.length_map, List.length_map, fndL_len, Nat.min_self, List.take_length]]
    walk_at "v"
    refine ⟨M, _, rfl, VW.sup_same, S, fun a o h => ?_, k⟩
    rw [VW.sdel_sup hM]
    exact hS1 _ _ h

local macro_rules | `(tactic| walk_at "vf") => `(tactic| first
  | ((with_reducible show VW.DGot _ _ _ _); exact dgotA (by walk_at "sq"))
  | ((with_reducible show VW.DPutD _ _ _ _ _); exact dputA (by walk_at "sp") (by first | assumption | walk_at "arith"))
  | ((with_reducible show VW.DPopD _ _ _ _ _); exact dpopA (by walk_at "sp") (by assumption)))

/-! ### pieces, bent -/
theorem cutD_take {xs : List VW.D} (n : Nat) : VW.cutD xs none (some (n : Int)) = xs.take n := by
  unfold VW.cutD
  rw [HT.sIx_none, HT.sIx_nat]
  show (xs.drop 0).take (min n xs.length - 0) = _
  rw [List.drop_zero, Nat.sub_zero]
  by_cases h : n ≤ xs.length
  · rw [Nat.min_eq_left h]
  · rw [Nat.min_eq_right (by omega), List.take_length, List.take_of_length_le (by omega)]
theorem cutD_drop {xs : List VW.D} (n : Nat) : VW.cutD xs (some (n : Int)) none = xs.drop n := by
  unfold VW.cutD
  rw [HT.sIx_none, HT.sIx_nat]
  by_cases h : n ≤ xs.length
  · rw [Nat.min_eq_left h, List.take_of_length_le (by rw [List.length_drop]; omega)]
  · rw [Nat.min_eq_right (by omega), List.drop_length, List.take_nil, List.drop_of_length_le (by omega)]
theorem cutD_one {xs : List VW.D} {i : Nat} (h : i < xs.length) : VW.cutD xs (some (i : Int)) (some ((i : Int) + 1)) = (xs.drop i).take 1 := by
  have e1 : HT.sIx xs.length 0 (some (i : Int)) = i := by rw [HT.sIx_nat]; omega
  have e2 : HT.sIx xs.length xs.length (some ((i : Int) + 1)) = i + 1 := by rw [show ((i : Int) + 1) = ((i + 1 : Nat) : Int) by omega, HT.sIx_nat]; omega
  unfold VW.cutD
  rw [e1, e2, show i + 1 - i = 1 by omega]
theorem PcG.up {n : Nat} {p : Pc} (g : PcG n p) : PcG (n + 1) p := ⟨by have := g.f; omega, fun l e => by have := g.l l e; omega, by have := g.m; omega⟩
def spPB : VW.SpD := VW.sp2 fun x y S P _ => ∃ (n : Nat) (q : Addr) (ps : List Pc), x = .ref q ∧ y = .lst (ps.map Pc.d) ∧ VW.PoolS S q ∧ 0 < ps.length ∧ ps.length ≤ 3 + n ∧ n ≤ 2 ∧ (∀ p ∈ ps, PcG n p) ∧
  ∀ (ps' : List Pc) (S' : VW.Sto), (∀ p ∈ ps', PcG (n + 1) p) → ps'.length ≤ 3 + (n + 1) → VW.Drawn S q S' → P (.lst (ps'.map Pc.d)) S'
theorem ok_pieces_bent (T : Txt w K mg A) : FnOk P w K mg base CX0 2 A.a_pieces_bent A.d_pieces_bent ["_law_pool_here", "_law_pieces"] (VW.upSp K (spPB)) := by
  refine T.F_pieces_bent.ok sc_pieces_bent (VW.upSp.len VW.sp2_len) (fun cdv A' outer s H vs Q E hr h => ?_)
  obtain ⟨F, S, ds, P', PE, rh, hv, ⟨x1, x2, rfl, h⟩, lv, lx⟩ := h
  haveI : VW.XLe K F E PE := ⟨lx⟩
  have hu := hu_of hr
  refine ⟨_, (pss_cons (ps_set (i := 2) sc_pieces_bent.nd rfl (Or.inl rfl) (pe_call (ok_take T) (hr.mono (by decide)) rfl T.m_take T.F_take.kp T.b_take .nil VW.pass0F (pa_cons (pv 0) (pa_cons (pe_callB VW.call_lenA (by rfl) T.n_len PySem.boot_len (pa_cons (pv 1) pa_nil)) pa_nil))))
      (pss_cons (ps_asg (pe_ix ix_list (pv 1) (pv 2) (fun _ _ => rfl)) (pg_tup (n := 3) rfl (pgs_cons (pg_name (i := 3) sc_pieces_bent.nd rfl (Or.inl rfl)) (pgs_cons (pg_name (i := 4) sc_pieces_bent.nd rfl (Or.inl rfl)) (pgs_cons (pg_name (i := 5) sc_pieces_bent.nd rfl (Or.inl rfl)) pgs_nil)))))
      (pss_cons (ps_set (i := 6) sc_pieces_bent.nd rfl (Or.inl rfl) (pe_call (ok_take T) (hr.mono (by decide)) rfl T.m_take T.F_take.kp T.b_take .nil VW.pass0F (pa_cons (pv 0) (pa_cons pe_int pa_nil))))
      (pss_cons (ps_if (pt_cmpR op_eq (pv 6) pe_int (nomark _))
      (pss_one (ps_ret (VW.pe_kp (pe_op op_cat (VW.pe_kp (pe_slice sl_list (pv 1) po_none (po_some (pv 2)))) (VW.pe_kp (pe_slice sl_list (pv 1) (po_some (pe_op op_add (pv 2) pe_int)) po_none))))))
      pss_nil)
      (pss_cons (ps_if (pt_cmpR op_eq (pv 6) pe_int (nomark _))
      (pss_one (ps_ret (pe_rvL (pv 1))))
      pss_nil)
      (pss_cons (ps_if (pt_cmpR op_eq (pv 6) pe_int (nomark _))
      (pss_one (ps_ret (VW.pe_kp (pe_op op_cat (pv 1) (VW.pe_kp (pe_slice sl_list (pv 1) (po_some (pv 2)) (po_some (pe_op op_add (pv 2) pe_int))))))))
      pss_nil)
      (pss_cons (ps_if (pt_cmpR op_eq (pv 6) pe_int (nomark _))
      (pss_one (ps_ret (VW.pe_kp (pe_op op_cat (VW.pe_kp (pe_op op_cat (VW.pe_kp (pe_slice sl_list (pv 1) po_none (po_some (pv 2)))) (VW.pe_kp (pe_lst (pa_cons (pe_tup (pa_cons (pe_op op_add (pv 3) pe_int) (pa_cons (pv 4) (pa_cons (pv 5) pa_nil)))) pa_nil))))) (VW.pe_kp (pe_slice sl_list (pv 1) (po_some (pe_op op_add (pv 2) pe_int)) po_none))))))
      pss_nil)
      (pss_cons (ps_if (pt_cmpR op_eq (pv 6) pe_int (nomark _))
      (pss_one (ps_ret (VW.pe_kp (pe_op op_cat (VW.pe_kp (pe_op op_cat (VW.pe_kp (pe_slice sl_list (pv 1) po_none (po_some (pv 2)))) (VW.pe_kp (pe_lst (pa_cons (pe_tup (pa_cons (pv 3) (pa_cons pe_int (pa_cons (pv 5) pa_nil)))) pa_nil))))) (VW.pe_kp (pe_slice sl_list (pv 1) (po_some (pe_op op_add (pv 2) pe_int)) po_none))))))
      pss_nil)
      (pss_cons (ps_if (pt_cmpR op_eq (pv 6) pe_int (nomark _))
      (pss_one (ps_ret (VW.pe_kp (pe_op op_cat (VW.pe_kp (pe_op op_cat (VW.pe_kp (pe_slice sl_list (pv 1) po_none (po_some (pv 2)))) (VW.pe_kp (pe_lst (pa_cons (pe_tup (pa_cons (pv 3) (pa_cons (pv 4) (pa_cons (pe_op op_add (pv 5) (pe_ix ix_list (VW.pe_kp (pe_lst (pa_cons pe_int (pa_cons (pe_un un_neg pe_int) (pa_cons pe_int pa_nil))))) (pe_call (ok_take T) (hr.mono (by decide)) rfl T.m_take T.F_take.kp T.b_take .nil VW.pass0F (pa_cons (pv 0) (pa_cons pe_int pa_nil))) (fun _ _ => rfl))) pa_nil)))) pa_nil))))) (VW.pe_kp (pe_slice sl_list (pv 1) (po_some (pe_op op_add (pv 2) pe_int)) po_none))))))
      pss_nil)
      (pss_one (ps_ret (VW.pe_kp (pe_op op_cat (VW.pe_kp (pe_op op_cat (VW.pe_kp (pe_slice sl_list (pv 1) po_none (po_some (pv 2)))) (VW.pe_kp (pe_lst (pa_cons (pe_tup (pa_cons (pv 3) (pa_cons (pv 3) (pa_cons (pv 5) pa_nil)))) pa_nil))))) (VW.pe_kp (pe_slice sl_list (pv 1) (po_some (pv 2)) po_none))))))))))))))), ?_⟩
  try dsimp only [cxOf, Cx.nox, Cx.wish, List.map]
  refine VW.body_up rh hv lv ?_
  obtain ⟨n, q, ps, rfl, rfl, hq, hpos, hlen, hn2, hg, k⟩ := h
  have hsm : ((ps.map Pc.d).length : Int) < 1073741824 := by rw [List.length_map]; omega
  have hpos2 : (0 : Int) < ((ps.map Pc.d).length : Int) := by rw [List.length_map]; omega
  show VW.dSeq _ _ _ [some (.ref q), some (.lst (ps.map Pc.d)), none, none, none, none, none] S
  walk_at "v"
  intro at0 S1 a0 a1 d1
  have hq1 := d1.pool
  rw [List.length_map] at a1
  obtain ⟨i, rfl⟩ : ∃ i : Nat, at0 = (i : Int) := ⟨at0.toNat, by omega⟩
  have hil : i < ps.length := by omega
  obtain ⟨p, hp⟩ : ∃ p, ps[i]? = some p := ⟨_, List.getElem?_eq_getElem hil⟩
  have gp := hg p (List.mem_of_getElem? hp)
  have hai : atI (ps.map Pc.d) (i : Int) = some (.tup [.int p.fst, oI p.lst, .int p.mom]) := atI_nat (by rw [List.getElem?_map, hp]; rfl)
  have c1 : VW.cutD (ps.map Pc.d) none (some (i : Int)) = (ps.take i).map Pc.d := by rw [cutD_take, List.map_take]
  have c2 : VW.cutD (ps.map Pc.d) (some ((i : Int) + 1)) none = (ps.drop (i + 1)).map Pc.d := by rw [show ((i : Int) + 1) = ((i + 1 : Nat) : Int) by omega, cutD_drop, List.map_drop]
  have c3 : VW.cutD (ps.map Pc.d) (some (i : Int)) none = (ps.drop i).map Pc.d := by rw [cutD_drop, List.map_drop]
  have c4 : VW.cutD (ps.map Pc.d) (some (i : Int)) (some ((i : Int) + 1)) = ((ps.drop i).take 1).map Pc.d := by rw [cutD_one (by rw [List.length_map]; exact hil), List.map_take, List.map_drop]
  have gt : ∀ z ∈ ps.take i, PcG (n + 1) z := fun z h => (hg z (List.mem_of_mem_take h)).up
  have gd : ∀ m, ∀ z ∈ ps.drop m, PcG (n + 1) z := fun m z h => (hg z (List.mem_of_mem_drop h)).up
  have l1 : (ps.take i).length = i := by rw [List.length_take]; omega
  have l2 : (ps.drop (i + 1)).length = ps.length - (i + 1) := List.length_drop ..
  have l3 : (ps.drop i).length = ps.length - i := List.length_drop ..
  have mid : ∀ (z : Pc) (S3 : VW.Sto), PcG (n + 1) z → VW.Drawn S q S3 → P' (.lst ((ps.take i).map Pc.d ++ [z.d] ++ (ps.drop (i + 1)).map Pc.d)) S3 := fun z S3 gz d3 => by
    have := k (ps.take i ++ [z] ++ ps.drop (i + 1)) S3 (fun y hy => by
      rcases List.mem_append.mp hy with hy | hy
      · rcases List.mem_append.mp hy with hy | hy
        · exact gt y hy
        · rw [List.mem_singleton.mp hy]; exact gz
      · exact gd _ y hy) (by rw [List.length_append, List.length_append, l1, l2]; show i + 1 + _ ≤ _; omega) d3
    rw [List.map_append, List.map_append] at this
    exact this
  have sz1 : ((ps.take i).map Pc.d).length + 1 ≤ sizeLine := by rw [List.length_map, l1, sizeLine_eq]; omega
  have sz2 : ∀ z : VW.D, ((ps.take i).map Pc.d ++ [z]).length + ((ps.drop (i + 1)).map Pc.d).length ≤ sizeLine := fun z => by rw [List.length_append, List.length_map, List.length_map, l1, l2, sizeLine_eq]; show i + 1 + _ ≤ _; omega
  walk_at "v"
  intro way S2 w0 w1 d2
  have hq2 := d2.pool
  walk_at "v"
  refine ite2 (fun c => ?_) (fun c => ?_)
  · walk_at "v"
    rw [c1, c2]
    refine ⟨by rw [List.length_map, List.length_map, l1, l2, sizeLine_eq]; omega, ?_⟩
    have := k (ps.take i ++ ps.drop (i + 1)) S2 (fun y hy => by
      rcases List.mem_append.mp hy with hy | hy
      · exact gt y hy
      · exact gd _ y hy) (by rw [List.length_append, l1, l2]; omega) (d1.trans d2)
    rw [List.map_append] at this
    exact this
  walk_at "v"
  refine ite2 (fun c => ?_) (fun c => ?_)
  · walk_at "v"
    have := k ps.reverse S2 (fun y hy => (hg y (List.mem_reverse.mp hy)).up) (by rw [List.length_reverse]; omega) (d1.trans d2)
    rw [List.map_reverse] at this
    exact this
  walk_at "v"
  refine ite2 (fun c => ?_) (fun c => ?_)
  · walk_at "v"
    rw [c4]
    have l4 : ((ps.drop i).take 1).length ≤ 1 := by rw [List.length_take]; omega
    refine ⟨by rw [List.length_map, List.length_map, sizeLine_eq]; omega, ?_⟩
    have := k (ps ++ (ps.drop i).take 1) S2 (fun y hy => by
      rcases List.mem_append.mp hy with hy | hy
      · exact (hg y hy).up
      · exact gd i y (List.mem_of_mem_take hy)) (by rw [List.length_append]; omega) (d1.trans d2)
    rw [List.map_append] at this
    exact this
  walk_at "v"
  refine ite2 (fun c => ?_) (fun c => ?_)
  · walk_at "v"
    rw [c1]
    refine ⟨sz1, ?_⟩
    walk_at "v"
    rw [c2]
    refine ⟨sz2 _, ?_⟩
    exact mid ⟨p.fst + 1, p.lst, p.mom⟩ S2 ⟨by have := gp.f; show 0 ≤ p.fst + 1 ∧ p.fst + 1 ≤ _; omega, gp.up.l, gp.up.m⟩ (d1.trans d2)
  walk_at "v"
  refine ite2 (fun c => ?_) (fun c => ?_)
  · walk_at "v"
    rw [c1]
    refine ⟨sz1, ?_⟩
    walk_at "v"
    rw [c2]
    refine ⟨sz2 _, ?_⟩
    exact mid ⟨p.fst, some 8, p.mom⟩ S2 ⟨gp.up.f, (fun l e => by cases e; omega), gp.up.m⟩ (d1.trans d2)
  walk_at "v"
  refine ite2 (fun c => ?_) (fun c => ?_)
  · walk_at "v"
    rw [c1]
    intro r S3 r0 r1 d3
    obtain ⟨m, am, hm⟩ : ∃ m : Int, atI [VW.toD (V.int 9000), (fun i => VW.toD (V.int (-i))) 9000, VW.toD (V.int 1)] r = some (.int m) ∧ -9000 ≤ m ∧ m ≤ 9000 := by
      rcases (by omega : r = 0 ∨ r = 1 ∨ r = 2) with rfl | rfl | rfl
      · exact ⟨9000, rfl, by omega⟩
      · exact ⟨-9000, rfl, by omega⟩
      · exact ⟨1, rfl, by omega⟩
    walk_at "v"
    rw [c2]
    refine ⟨sz2 _, ?_⟩
    exact mid ⟨p.fst, p.lst, p.mom + m⟩ S3 ⟨gp.up.f, gp.up.l, by have := gp.m; show _ ≤ p.mom + m ∧ p.mom + m ≤ _; omega⟩ ((d1.trans d2).trans d3)
  walk_at "v"
  rw [c1]
  refine ⟨sz1, ?_⟩
  walk_at "v"
  rw [c3]
  refine ⟨by rw [List.length_append, List.length_map, List.length_map, l1, l3, sizeLine_eq]; show i + 1 + _ ≤ _; omega, ?_⟩
  have := k (ps.take i ++ [⟨p.fst, some p.fst, p.mom⟩] ++ ps.drop i) S2 (fun y hy => by
    rcases List.mem_append.mp hy with hy | hy
    · rcases List.mem_append.mp hy with hy | hy
      · exact gt y hy
      · rw [List.mem_singleton.mp hy]; exact ⟨gp.up.f, (fun l e => by cases e; have := gp.f; omega), gp.up.m⟩
    · exact gd _ y hy) (by rw [List.length_append, List.length_append, l1, l3]; show i + 1 + _ ≤ _; omega) (d1.trans d2)
  rw [List.map_append, List.map_append] at this
  exact this

local macro_rules | `(tactic| walk_at "vf") => `(tactic| first
  | ((with_reducible show VW.DGot _ _ _ _); exact dgotA (by walk_at "sq"))
  | ((with_reducible show VW.DPutD _ _ _ _ _); exact dputA (by walk_at "sp") (by first | assumption | walk_at "arith"))
  | ((with_reducible show VW.DPopD _ _ _ _ _); exact dpopA (by walk_at "sp") (by assumption)))

/-! ### rows, bent -/
def trI : Option Int → Bool
  | none => false
  | some v => v != 0
theorem tr_ok {S : VW.Sto} {b : Option Int} : VW.TrD S (oI b) (trI b) := by cases b <;> rfl
theorem tr_1 {b : Option Int} (h : trI b = true) : ∃ v, b = some v ∧ oI b = .int v := by
  cases b with
  | none => cases h
  | some v => exact ⟨v, rfl, rfl⟩
theorem WkG.up {n : Nat} {w : Wk} (g : WkG n w) : WkG (n + 1) w := by
  cases w with
  | ask k m => exact ⟨g.1, fun o h => by have := g.2 o h; omega⟩
  | going l h b ps => exact ⟨g.1, g.2.1, by have := g.2.2.1; omega, fun p hp => (g.2.2.2 p hp).up⟩
theorem GRn.up {n : Nat} {r : Row} (g : GRn n r) : GRn (n + 1) r := ⟨g.nm, g.w.up, fun b h => by have := g.b b h; omega, fun b h => by have := g.e b h; omega, g.an.mono (by omega)⟩
theorem GRs.up {n : Nat} {rs : List Row} (g : GRs n rs) : GRs (n + 1) rs := ⟨g.len, g.pos, fun r hr => (g.all r hr).up⟩
structure Hid (E : Prop) : Prop where
  h : E
theorem two_step {E G : Prop} (b : E) (a : Hid E → G) : G := a ⟨b⟩
theorem cutD_end {xs : List VW.D} {z : VW.D} : VW.cutD (xs ++ [z]) (some (-1)) none = [z] := by
  unfold VW.cutD
  rw [HT.sIx_none]
  have : HT.sIx (xs ++ [z]).length 0 (some (-1)) = xs.length := by
    show (if (-1 : Int) < 0 then ((-1 : Int) + ((xs ++ [z]).length : Int)).toNat else min (-1 : Int).toNat (xs ++ [z]).length) = _
    rw [if_pos (by decide), List.length_append, List.length_singleton]; omega
  rw [this, List.drop_left' rfl, List.take_of_length_le]
  rw [List.length_append, List.length_singleton]; omega
theorem cutD_last1 (xs : List (Int × Int)) : ∃ f2 : List (Int × Int), VW.cutD (xs.map pairD) (some (-1)) none = f2.map pairD ∧ f2.length ≤ 1 ∧ ∀ p ∈ f2, p ∈ xs := by
  rcases List.eq_nil_or_concat xs with rfl | ⟨ini, z, rfl⟩
  · exact ⟨[], rfl, Nat.zero_le _, fun p hp => hp⟩
  · refine ⟨[z], ?_, Nat.le_refl _, fun p hp => ?_⟩
    · rw [List.concat_eq_append, List.map_append]; exact cutD_end
    · rw [List.mem_singleton.mp hp, List.concat_eq_append]; simp
theorem an2_tyL (S : VW.Sto) (a : An2) : VW.isT "list" (VW.tyN S a.d) = (match a with | .rows _ => true | _ => false) := by
  cases a with
  | non => show VW.isT "list" "NoneType" = false; decide +kernel
  | bl b => show VW.isT "list" "bool" = false; decide +kernel
  | int i => show VW.isT "list" "int" = false; decide +kernel
  | rows xs => show VW.isT "list" "list" = true; decide +kernel
def spBent : VW.SpD := VW.sp2 fun x y S P _ => ∃ (n : Nat) (q : Addr) (rs : List Row), x = .ref q ∧ y = .lst (rs.map Row.d) ∧ VW.PoolS S q ∧ GRs n rs ∧ n ≤ 1 ∧ ∀ (rs' : List Row) (S' : VW.Sto), GRs (n + 1) rs' → VW.Drawn S q S' → P (.lst (rs'.map Row.d)) S'
theorem ok_bent (T : Txt w K mg A) : FnOk P w K mg base CX0 3 A.a_bent A.d_bent ["_law_pool_here", "_law_rows"] (VW.upSp K (spBent)) := by
  refine T.F_bent.ok sc_bent (VW.upSp.len VW.sp2_len) (fun cdv A' outer s H vs Q E hr h => ?_)
  obtain ⟨F, S, ds, P', PE, rh, hv, ⟨x1, x2, rfl, h⟩, lv, lx⟩ := h
  haveI : VW.XLe K F E PE := ⟨lx⟩
  have hu := hu_of hr
  refine ⟨_, (pss_cons (ps_set (i := 2) sc_bent.nd rfl (Or.inl rfl) (pe_call (ok_take T) (hr.mono (by decide)) rfl T.m_take T.F_take.kp T.b_take .nil VW.pass0F (pa_cons (pv 0) (pa_cons (pe_callB VW.call_lenA (by rfl) T.n_len PySem.boot_len (pa_cons (pv 1) pa_nil)) pa_nil))))
      (pss_cons (ps_asg (pe_ix ix_list (pv 1) (pv 2) (fun _ _ => rfl)) (pg_tup (n := 6) rfl (pgs_cons (pg_name (i := 3) sc_bent.nd rfl (Or.inl rfl)) (pgs_cons (pg_name (i := 4) sc_bent.nd rfl (Or.inl rfl)) (pgs_cons (pg_name (i := 5) sc_bent.nd rfl (Or.inl rfl)) (pgs_cons (pg_name (i := 6) sc_bent.nd rfl (Or.inl rfl)) (pgs_cons (pg_name (i := 7) sc_bent.nd rfl (Or.inl rfl)) (pgs_cons (pg_name (i := 8) sc_bent.nd rfl (Or.inl rfl)) pgs_nil))))))))
      (pss_cons (ps_set (i := 9) sc_bent.nd rfl (Or.inl rfl) (pe_call (ok_take T) (hr.mono (by decide)) rfl T.m_take T.F_take.kp T.b_take .nil VW.pass0F (pa_cons (pv 0) (pa_cons pe_int pa_nil))))
      (VW.cutAt (ps_if (pt_cmpR op_eq (pv 9) pe_int (nomark _))
      (pss_cons (ps_set (i := 8) sc_bent.nd rfl (Or.inl rfl) (pe_ix ix_list (VW.pe_kp (pe_lst (pa_cons pe_non (pa_cons pe_int (pa_cons (pe_un un_neg pe_int) (pa_cons (VW.pe_kp (pe_lst pa_nil)) (pa_cons (VW.pe_kp (pe_lst (pa_cons (pe_tup (pa_cons pe_int (pa_cons pe_int pa_nil))) pa_nil))) pa_nil))))))) (pe_call (ok_take T) (hr.mono (by decide)) rfl T.m_take T.F_take.kp T.b_take .nil VW.pass0F (pa_cons (pv 0) (pa_cons pe_int pa_nil))) (fun _ _ => rfl)))
      (VW.cutAt (ps_if (pt_cmpR op_eq (pe_ix ix_tup (pv 4) pe_int (fun _ _ => rfl)) pe_str (nomark _))
      (pss_one (ps_set (i := 8) sc_bent.nd rfl (Or.inl rfl) (pe_ix ix_list (VW.pe_kp (pe_lst (pa_cons pe_bl (pa_cons pe_bl (pa_cons pe_non (pa_cons pe_int pa_nil)))))) (pe_call (ok_take T) (hr.mono (by decide)) rfl T.m_take T.F_take.kp T.b_take .nil VW.pass0F (pa_cons (pv 0) (pa_cons pe_int pa_nil))) (fun _ _ => rfl))))
      pss_nil)
      (pss_one (ps_if (pt_cmpR op_eq (pe_ix ix_tup (pv 4) pe_int (fun _ _ => rfl)) pe_str (nomark _))
      (pss_one (ps_set (i := 8) sc_bent.nd rfl (Or.inl rfl) (pe_ix ix_list (VW.pe_kp (pe_lst (pa_cons (VW.pe_kp (pe_lst pa_nil)) (pa_cons (VW.pe_kp (pe_lst (pa_cons (pe_tup (pa_cons pe_int (pa_cons pe_int pa_nil))) pa_nil))) (pa_cons (VW.pe_kp (pe_lst (pa_cons (pe_tup (pa_cons pe_int (pa_cons pe_int pa_nil))) (pa_cons (pe_tup (pa_cons pe_int (pa_cons pe_int pa_nil))) pa_nil)))) pa_nil))))) (pe_call (ok_take T) (hr.mono (by decide)) rfl T.m_take T.F_take.kp T.b_take .nil VW.pass0F (pa_cons (pv 0) (pa_cons pe_int pa_nil))) (fun _ _ => rfl))))
      pss_nil))))
      (pss_one (ps_if (PW.pt (pw_and (pt_cmpR op_eq (pv 9) pe_int (nomark _)) (pw_and1 (pt_val (pe_callB VW.call_isA (by rfl) T.n_isinstance (by decide +kernel) (pa_cons (pv 8) (pa_cons (pe_bltn (v := V.ty "list") (by rfl) T.n_list (by decide +kernel) rfl) pa_nil)))))))
      (pss_one (ps_set (i := 8) sc_bent.nd rfl (Or.inl rfl) (pe_ix ix_list (VW.pe_kp (pe_lst (pa_cons (pe_rvL (pv 8)) (pa_cons (VW.pe_kp (pe_slice sl_list (pv 8) (po_some pe_int) po_none)) (pa_cons (VW.pe_kp (pe_op op_cat (pv 8) (VW.pe_kp (pe_slice sl_list (pv 8) (po_some (pe_un un_neg pe_int)) po_none)))) pa_nil))))) (pe_call (ok_take T) (hr.mono (by decide)) rfl T.m_take T.F_take.kp T.b_take .nil VW.pass0F (pa_cons (pv 0) (pa_cons pe_int pa_nil))) (fun _ _ => rfl))))
      (pss_one (ps_if (PW.pt (pw_and (pt_cmpR op_eq (pe_ix ix_tup (pv 4) pe_int (fun _ _ => rfl)) pe_str (nomark _)) (pw_and (pt_cmpR VW.op_notNA (pv 7) pe_non (nomark _)) (pw_and1 (pt_cmpR (op_neL0 hr.units) (pv 6) (VW.pe_kp (pe_lst pa_nil)) (nomark _))))))
      (pss_one (ps_set (i := 6) sc_bent.nd rfl (Or.inl rfl) (pe_call (ok_pieces_bent T) (hr.mono (by decide)) rfl T.m_pieces_bent T.F_pieces_bent.kp T.b_pieces_bent .nil VW.pass0F (pa_cons (pv 0) (pa_cons (pv 6) pa_nil)))))
      (pss_one (ps_if (PW.pt (pw_and (pt_cmpR op_lt (pv 9) pe_int (nomark _)) (pw_and1 (pt_cmpR op_ne (pe_ix ix_tup (pv 4) pe_int (fun _ _ => rfl)) pe_str (nomark _)))))
      (pss_cons (ps_set (i := 10) sc_bent.nd rfl (Or.inl rfl) (pe_ix ix_list (pv 1) (pe_call (ok_take T) (hr.mono (by decide)) rfl T.m_take T.F_take.kp T.b_take .nil VW.pass0F (pa_cons (pv 0) (pa_cons (pe_callB VW.call_lenA (by rfl) T.n_len PySem.boot_len (pa_cons (pv 1) pa_nil)) pa_nil))) (fun _ _ => rfl)))
      (pss_one (ps_set (i := 6) sc_bent.nd rfl (Or.inl rfl) (pe_ix ix_list (VW.pe_kp (pe_lst (pa_cons pe_non (pa_cons (pv 5) (pa_cons (pv 7) (pa_cons (pe_op op_sub (pe_orT (pv 5) (pe_one pe_int)) pe_int) (pa_cons (pe_op op_add (pe_orT (pv 7) (pe_one pe_int)) pe_int) (pa_cons (pe_ix ix_tup (pv 10) pe_int (fun _ _ => rfl)) (pa_cons pe_int pa_nil))))))))) (pe_call (ok_take T) (hr.mono (by decide)) rfl T.m_take T.F_take.kp T.b_take .nil VW.pass0F (pa_cons (pv 0) (pa_cons pe_int pa_nil))) (fun _ _ => rfl)))))
      (pss_one (ps_if (pt_cmpR op_eq (pv 9) pe_int (nomark _))
      (pss_one (ps_set (i := 7) sc_bent.nd rfl (Or.inl rfl) (pe_ix ix_list (VW.pe_kp (pe_lst (pa_cons pe_non (pa_cons pe_int (pa_cons (pv 5) pa_nil))))) (pe_call (ok_take T) (hr.mono (by decide)) rfl T.m_take T.F_take.kp T.b_take .nil VW.pass0F (pa_cons (pv 0) (pa_cons pe_int pa_nil))) (fun _ _ => rfl))))
      (pss_one (ps_if (PW.pt (pw_and (pt_cmpR op_eq (pv 9) pe_int (nomark _)) (pw_and1 (pt_cmpR VW.op_notNA (pv 5) pe_non (nomark _)))))
      (pss_one (ps_set (i := 5) sc_bent.nd rfl (Or.inl rfl) (pe_op op_add (pv 5) (pe_op op_mul pe_int (pe_call (ok_take T) (hr.mono (by decide)) rfl T.m_take T.F_take.kp T.b_take .nil VW.pass0F (pa_cons (pv 0) (pa_cons pe_int pa_nil)))))))
      (pss_one (ps_if (pt_cmpR op_eq (pv 9) pe_int (nomark _))
      (pss_cons (ps_set (i := 10) sc_bent.nd rfl (Or.inl rfl) (pe_ix ix_list (pv 1) (pe_call (ok_take T) (hr.mono (by decide)) rfl T.m_take T.F_take.kp T.b_take .nil VW.pass0F (pa_cons (pv 0) (pa_cons (pe_callB VW.call_lenA (by rfl) T.n_len PySem.boot_len (pa_cons (pv 1) pa_nil)) pa_nil))) (fun _ _ => rfl)))
      (pss_one (ps_if (PW.pt (pw_and (pt_cmpR op_ne (pe_ix ix_tup (pv 4) pe_int (fun _ _ => rfl)) pe_str (nomark _)) (pw_and1 (pt_cmpR (VW.op_nePl hr.units) (pe_ix ix_tup (pe_ix ix_tup (pv 10) pe_int (fun _ _ => rfl)) pe_int (fun _ _ => rfl)) pe_str (nomark _)))))
      (pss_one (ps_set (i := 6) sc_bent.nd rfl (Or.inl rfl) (pe_ix ix_tup (pv 10) pe_int (fun _ _ => rfl))))
      pss_nil)))
      pss_nil)))))))))))))
      (VW.cutAt (ps_if (pt_cmpR VW.op_isNA (pv 7) pe_non (nomark _))
      (pss_one (ps_set (i := 8) sc_bent.nd rfl (Or.inl rfl) pe_non))
      pss_nil)
      (pss_one (ps_ret (VW.pe_kp (pe_op op_cat (VW.pe_kp (pe_op op_cat (VW.pe_kp (pe_slice sl_list (pv 1) po_none (po_some (pv 2)))) (VW.pe_kp (pe_lst (pa_cons (pe_tup (pa_cons (pv 3) (pa_cons (pv 4) (pa_cons (pv 5) (pa_cons (pv 6) (pa_cons (pv 7) (pa_cons (pv 8) pa_nil))))))) pa_nil))))) (VW.pe_kp (pe_slice sl_list (pv 1) (po_some (pe_op op_add (pv 2) pe_int)) po_none))))))))))), ?_⟩
  try dsimp only [cxOf, Cx.nox, Cx.wish, List.map]
  refine VW.body_up rh hv lv ?_
  obtain ⟨n, q, rs, rfl, rfl, hq, gr, hn1, k⟩ := h
  have hl6 := gr.len
  have hpos := gr.pos
  have hsm : ((rs.map Row.d).length : Int) < 1073741824 := by rw [List.length_map]; omega
  have hpos2 : (0 : Int) < ((rs.map Row.d).length : Int) := by rw [List.length_map]; omega
  show VW.dSeq _ _ _ [some (.ref q), some (.lst (rs.map Row.d)), none, none, none, none, none, none, none, none, none] S
  walk_at "v"
  intro at0 S1 a0 a1 d1
  have hq1 := d1.pool
  rw [List.length_map] at a1
  obtain ⟨i, rfl⟩ : ∃ i : Nat, at0 = (i : Int) := ⟨at0.toNat, by omega⟩
  have hil : i < rs.length := by omega
  obtain ⟨r, hr⟩ : ∃ r, rs[i]? = some r := ⟨_, List.getElem?_eq_getElem hil⟩
  have hai := atI_rows hr
  have g := gr.all r (List.mem_of_getElem? hr)
  have gu := g.up
  walk_at "v"
  intro way S2 w0 w1 d2
  have hq2 := d2.pool
  have dd2 := d1.trans d2
  walk_at "v"
  refine ⟨fun env S3 => Wrap (∃ (w' : Wk) (b' e' : Option Int) (an' : An2) (v10 : Option VW.D), env = [some (.ref q), some (.lst (rs.map Row.d)), some (.int (i : Int)), some (.str r.nm), some r.w.ad, some (oI b'), some w'.md, some (oI e'), some an'.d, some (.int way), v10] ∧ w'.ad = r.w.ad ∧ GRn (n + 1) ⟨r.nm, w', b', e', an'⟩ ∧ VW.Drawn S q S3), ?_, ?_⟩
  · have oth : ∀ r1 : Int, 0 ≤ r1 → r1 < ((rs.map Row.d).length : Int) → ∃ s : Row, atI (rs.map Row.d) r1 = some (.tup [.str s.nm, s.w.ad, oI s.b, s.w.md, oI s.e, s.an.d]) ∧ GRn (n + 1) s := fun r1 h0 h1 => by
      rw [List.length_map] at h1
      obtain ⟨j, rfl⟩ : ∃ j : Nat, r1 = (j : Int) := ⟨r1.toNat, by omega⟩
      obtain ⟨s, hs⟩ : ∃ s, rs[j]? = some s := ⟨_, List.getElem?_eq_getElem (by omega)⟩
      exact ⟨s, atI_rows hs, (gr.all s (List.mem_of_getElem? hs)).up⟩
    have gb := gu.b
    have ge := gu.e
    show VW.dIfS _ _ _ _ [some (.ref q), some (.lst (rs.map Row.d)), some (.int (i : Int)), some (.str r.nm), some r.w.ad, some (oI r.b), some r.w.md, some (oI r.e), some r.an.d, some (.int way), none] S2
    have gw := gu.w
    obtain ⟨z, tl, ad, a0, ez⟩ : ∃ (z : Str) (tl : List VW.D), r.w.ad = .tup (.str z :: tl) ∧ atI (VW.D.str z :: tl) 0 = some (.str z) ∧ decide (z = ("going" : Str)) = (match r.w with | .going _ _ _ _ => true | .ask _ _ => false) := by
      cases ew : r.w with
      | ask k m => exact ask_word k
      | going l h b ps => exact ⟨"going", _, rfl, rfl, decide_eq_true rfl⟩
    walk_at "v"
    refine ite2 (fun c => ?_) (fun c => ?_)
    · walk_at "v"
      intro r1 S3 r10 r11 d3
      have hq3 := d3.pool
      obtain ⟨an1, g1, e1⟩ : ∃ an1 : An2, an1.gn 2 ∧ atI [VW.toD V.non, VW.toD (V.int 3), (fun i => VW.toD (V.int (-i))) 7, VW.D.lst [], VW.D.lst [VW.D.tup [VW.toD (V.int 1), VW.toD (V.int 1)]]] r1 = some an1.d := by
        rcases (by omega : r1 = 0 ∨ r1 = 1 ∨ r1 = 2 ∨ r1 = 3 ∨ r1 = 4) with rfl | rfl | rfl | rfl | rfl
        · exact ⟨.non, trivial, rfl⟩
        · exact ⟨.int 3, by constructor <;> decide, rfl⟩
        · exact ⟨.int (-7), by constructor <;> decide, rfl⟩
        · exact ⟨.rows [], ⟨fun p hp => (List.not_mem_nil hp).elim, Nat.zero_le _⟩, rfl⟩
        · exact ⟨.rows [(1, 1)], ⟨fun p hp => by rw [List.mem_singleton.mp hp]; exact ⟨by decide, by decide⟩, by decide⟩, rfl⟩
      walk_at "v"
      refine ⟨fun env S4 => Wrap (∃ (an' : An2), env = [some (.ref q), some (.lst (rs.map Row.d)), some (.int (i : Int)), some (.str r.nm), some r.w.ad, some (oI r.b), some r.w.md, some (oI r.e), some an'.d, some (.int way), none] ∧ an'.gn 2 ∧ VW.Drawn S q S4), ?_, ?_⟩
      · walk_at "v"
        by_cases ch : z = ("change" : Str)
        · rw [decide_eq_true ch]
          walk_at "v"
          intro r3 S4 r30 r31 d4
          obtain ⟨an2, g2, e2⟩ : ∃ an1 : An2, an1.gn 2 ∧ atI [VW.toD (V.bl true), VW.toD (V.bl false), VW.toD V.non, VW.toD (V.int 3)] r3 = some an1.d := by
            rcases (by omega : r3 = 0 ∨ r3 = 1 ∨ r3 = 2 ∨ r3 = 3) with rfl | rfl | rfl | rfl
            · exact ⟨.bl true, trivial, rfl⟩
            · exact ⟨.bl false, trivial, rfl⟩
            · exact ⟨.non, trivial, rfl⟩
            · exact ⟨.int 3, by constructor <;> decide, rfl⟩
          walk_at "v"
          exact ⟨an2, rfl, g2, (dd2.trans d3).trans d4⟩
        · rw [decide_eq_false ch]
          walk_at "v"
          exact ⟨an1, rfl, g1, dd2.trans d3⟩
      · rintro env S4 ⟨an', rfl, g', d4⟩
        have hq4 := d4.pool
        walk_at "v"
        rw [ez]
        generalize (match r.w with | .going _ _ _ _ => true | .ask _ _ => false) = cc
        cases cc with
        | true =>
          walk_at "v"
          intro r3 S5 r30 r31 d5
          obtain ⟨an2, g2, e2⟩ : ∃ an1 : An2, an1.gn 2 ∧ atI [VW.D.lst [], VW.D.lst [VW.D.tup [VW.toD (V.int 1), VW.toD (V.int 1)]], VW.D.lst [VW.D.tup [VW.toD (V.int 2), VW.toD (V.int 5)], VW.D.tup [VW.toD (V.int 1), VW.toD (V.int 1)]]] r3 = some an1.d := by
            rcases (by omega : r3 = 0 ∨ r3 = 1 ∨ r3 = 2) with rfl | rfl | rfl
            · exact ⟨.rows [], ⟨fun p hp => (List.not_mem_nil hp).elim, Nat.zero_le _⟩, rfl⟩
            · exact ⟨.rows [(1, 1)], ⟨fun p hp => by rw [List.mem_singleton.mp hp]; exact ⟨by decide, by decide⟩, by decide⟩, rfl⟩
            · exact ⟨.rows [(2, 5), (1, 1)], ⟨fun p hp => by
                simp only [List.mem_cons, List.not_mem_nil, or_false] at hp
                rcases hp with rfl | rfl <;> exact ⟨by decide, by decide⟩, by decide⟩, rfl⟩
          walk_at "v"
          exact ⟨r.w, r.b, r.e, an2, none, rfl, rfl, ⟨g.nm, gw, gb, ge, g2.mono (by omega)⟩, d4.trans d5⟩
        | false =>
          walk_at "v"
          exact ⟨r.w, r.b, r.e, an', none, rfl, rfl, ⟨g.nm, gw, gb, ge, g'.mono (by omega)⟩, d4⟩
    · have tyA := an2_okTy S2 r.an
      walk_at "v"
      refine @two_step ?zzE _ ?zzB ?zzA
      case zzA =>
        intro hE
        refine ite2 (fun c1 => ?_) (fun c1 => ?_)
        · walk_at "v"
          rw [an2_tyL]
          rcases (show (∃ xs, r.an = .rows xs) ∨ (match r.an with | .rows _ => true | _ => false) = false from by cases r.an <;> first | exact .inl ⟨_, rfl⟩ | exact .inr rfl) with ⟨xs, ean⟩ | ean
          · rw [ean]
            have gan := g.an
            rw [ean] at gan
            obtain ⟨gx, gl⟩ := gan
            have gl : xs.length ≤ 500 + n := gl
            obtain ⟨f2, ef, lf, hf⟩ := cutD_last1 xs
            have ed : (An2.rows xs).d = .lst (xs.map pairD) := rfl
            have c1 : VW.cutD (xs.map pairD) (some 1) none = (xs.drop 1).map pairD := by rw [show (1 : Int) = ((1 : Nat) : Int) from rfl, cutD_drop, List.map_drop]
            walk_at "v"
            rw [ef]
            refine ⟨by rw [List.length_map, List.length_map, sizeLine_eq]; omega, ?_⟩
            walk_at "v"
            intro r3 S4 r30 r31 d4
            rw [c1]
            obtain ⟨an2, g2, e2⟩ : ∃ an1 : An2, an1.gn (500 + (n + 1)) ∧ atI [VW.D.lst (xs.map pairD).reverse, .lst ((xs.drop 1).map pairD), .lst (xs.map pairD ++ f2.map pairD)] r3 = some an1.d := by
              rcases (by omega : r3 = 0 ∨ r3 = 1 ∨ r3 = 2) with rfl | rfl | rfl
              · exact ⟨.rows xs.reverse, ⟨fun p hp => gx p (List.mem_reverse.mp hp), by rw [List.length_reverse]; omega⟩, by rw [← List.map_reverse]; rfl⟩
              · exact ⟨.rows (xs.drop 1), ⟨fun p hp => gx p (List.mem_of_mem_drop hp), by rw [List.length_drop]; omega⟩, rfl⟩
              · exact ⟨.rows (xs ++ f2), ⟨fun p hp => by
                  rcases List.mem_append.mp hp with hp | hp
                  · exact gx p hp
                  · exact gx p (hf p hp), by rw [List.length_append]; omega⟩, by rw [← List.map_append]; rfl⟩
            walk_at "v"
            exact ⟨r.w, r.b, r.e, an2, none, rfl, rfl, ⟨g.nm, gw, gb, ge, g2⟩, dd2.trans d4⟩
          · rw [ean]
            walk_at "v"
            exact hE.h
        · walk_at "v"
          exact hE.h
      case zzB =>
        rw [ez]
        cases ew : r.w with
        | going l h bk ps =>
          rw [ew] at gw
          obtain ⟨gw1, gw2, gw3, gw4⟩ := (show WkG n (.going l h bk ps) from by have := g.w; rw [ew] at this; exact this)
          have hmd : (Wk.going l h bk ps).md = .lst (ps.map Pc.d) := rfl
          have hml : (ps.map Pc.d).length < sizeLine := by rw [List.length_map, sizeLine_eq]; omega
          have ad : (Wk.going l h bk ps).ad = .tup [.str "going", .int l, oI h, .bl bk] := rfl
          show (if true = true then _ else _)
          walk_at "v"
          refine @two_step ?yyE _ ?yyB ?yyA
          case yyA =>
            intro hG
            rcases (show r.e = none ∨ ∃ b, r.e = some b from by cases r.e <;> first | exact .inl rfl | exact .inr ⟨_, rfl⟩) with ee | ⟨e, ee⟩
            · rw [show (!VW.isNon (oI r.e)) = false from by rw [ee]; rfl]
              walk_at "v"
              exact hG.h
            · rw [show (!VW.isNon (oI r.e)) = true from by rw [ee]; rfl]
              walk_at "v"
              have em : (ps.map Pc.d).isEmpty = ps.isEmpty := by cases ps <;> rfl
              rw [em]
              cases hb : ps.isEmpty with
              | true =>
                rw [show (!true) = false from rfl]
                walk_at "v"
                exact hG.h
              | false =>
                rw [show (!false) = true from rfl]
                have hps : 0 < ps.length := by
                  cases ps with
                  | nil => cases hb
                  | cons _ _ => exact Nat.succ_pos _
                walk_at "v"
                intro ps' S4 g4 l4 d4
                walk_at "v"
                exact ⟨.going l h bk ps', r.b, r.e, r.an, none, rfl, rfl, ⟨g.nm, ⟨gw1, gw2, l4, g4⟩, gb, ge, gu.an⟩, dd2.trans d4⟩
          case yyB =>
            have stay : GRn (n + 1) ⟨r.nm, .going l h bk ps, r.b, r.e, r.an⟩ := ⟨g.nm, gw, gb, ge, gu.an⟩
            refine @two_step ?wwE _ ?wwB ?wwA
            case wwA =>
              intro hH
              refine ite2 (fun c3 => ?_) (fun c3 => ?_)
              · walk_at "v"
                exact hH.h
              · walk_at "v"
                exact hH.h
            case wwB =>
              refine ite2 (fun c4 => ?_) (fun c4 => ?_)
              · walk_at "v"
                intro r3 S4 r30 r31 d4
                obtain ⟨e', a1, a2⟩ : ∃ e' : Option Int, atI [VW.toD V.non, VW.toD (V.int 99999), oI r.b] r3 = some (oI e') ∧ ∀ b, e' = some b → 0 ≤ b ∧ b ≤ 200000 + 10000 * ((n + 1 : Nat) : Int) := by
                  rcases (by omega : r3 = 0 ∨ r3 = 1 ∨ r3 = 2) with rfl | rfl | rfl
                  · exact ⟨none, rfl, fun b h => by cases h⟩
                  · exact ⟨some 99999, rfl, fun b h => by cases h; omega⟩
                  · exact ⟨r.b, rfl, gb⟩
                walk_at "v"
                exact ⟨.going l h bk ps, r.b, e', r.an, none, rfl, rfl, ⟨g.nm, gw, gb, a2, gu.an⟩, dd2.trans d4⟩
              walk_at "v"
              refine @two_step ?xxE _ ?xxB ?xxA
              case xxA =>
                intro hF
                refine ite2 (fun c5 => ?_) (fun c5 => ?_)
                · walk_at "v"
                  rcases (show r.b = none ∨ ∃ b, r.b = some b from by cases r.b <;> first | exact .inl rfl | exact .inr ⟨_, rfl⟩) with eb | ⟨b, eb⟩
                  · rw [show (!VW.isNon (oI r.b)) = false from by rw [eb]; rfl]
                    walk_at "v"
                    exact hF.h
                  · rw [show (!VW.isNon (oI r.b)) = true from by rw [eb]; rfl]
                    have hb := g.b b eb
                    have ob : oI r.b = .int b := by rw [eb]; rfl
                    walk_at "v"
                    intro r3 S4 r30 r31 d4
                    walk_at "v"
                    exact ⟨.going l h bk ps, some (b + 1000 * r3), r.e, r.an, none, rfl, rfl, ⟨g.nm, gw, (fun x h => by cases h; omega), ge, gu.an⟩, dd2.trans d4⟩
                · walk_at "v"
                  exact hF.h
              case xxB =>
                refine ite2 (fun c6 => ?_) (fun c6 => ?_)
                · walk_at "v"
                  intro r3 S4 r30 r31 d4
                  obtain ⟨s, as, gs⟩ := oth r3 r30 r31
                  walk_at "v"
                  rw [show (!decide (("going" : Str) = "going")) = false from by rw [decide_eq_true rfl]; rfl]
                  walk_at "v"
                  exact ⟨.going l h bk ps, r.b, r.e, r.an, _, rfl, rfl, stay, dd2.trans d4⟩
                · walk_at "v"
                  exact ⟨.going l h bk ps, r.b, r.e, r.an, none, rfl, rfl, stay, dd2⟩
        | ask ka m =>
          rw [ew] at gw
          obtain ⟨z, tl, ad, a0, ez⟩ := ask_word ka
          have ad : (Wk.ask ka m).ad = .tup (.str z :: tl) := ad
          show (if false = true then _ else _)
          walk_at "v"
          refine ite2 (fun c3 => ?_) (fun c3 => ?_)
          · walk_at "v"
            rw [ez, show (!false) = true from rfl]
            walk_at "v"
            intro r3 S4 r30 r31 d4
            have hq4 := d4.pool
            obtain ⟨s, as, gs⟩ := oth r3 r30 r31
            walk_at "v"
            have key : ∀ (vb ve : Int), (0 ≤ vb ∧ vb ≤ 200000 + 10000 * (n : Int)) → (0 ≤ ve ∧ ve ≤ 200000 + 10000 * (n : Int)) → ∀ r4 : Int, 0 ≤ r4 → r4 < 7 → ∃ m' : Option Int, atI [VW.toD V.non, oI r.b, oI r.e, .int (vb - 1), .int (ve + 1), oI s.b, VW.toD (V.int 5)] r4 = some (oI m') ∧ ∀ o, m' = some o → -200000 - 10000 * ((n + 1 : Nat) : Int) ≤ o ∧ o ≤ 200000 + 10000 * ((n + 1 : Nat) : Int) := fun vb ve hb0 he0 r4 r40 r41 => by
              rcases (by omega : r4 = 0 ∨ r4 = 1 ∨ r4 = 2 ∨ r4 = 3 ∨ r4 = 4 ∨ r4 = 5 ∨ r4 = 6) with rfl | rfl | rfl | rfl | rfl | rfl | rfl
              · exact ⟨none, rfl, fun o h => by cases h⟩
              · exact ⟨r.b, rfl, fun o h => by have := gb o h; omega⟩
              · exact ⟨r.e, rfl, fun o h => by have := ge o h; omega⟩
              · exact ⟨some (vb - 1), rfl, fun o h => by cases h; omega⟩
              · exact ⟨some (ve + 1), rfl, fun o h => by cases h; omega⟩
              · exact ⟨s.b, rfl, fun o h => by have := gs.b o h; omega⟩
              · exact ⟨some 5, rfl, fun o h => by cases h; omega⟩
            refine ⟨tr_ok, ?_⟩
            refine ite2 (fun cb => ?_) (fun cb => ?_)
            · obtain ⟨b, eb, ob⟩ := tr_1 cb
              have hb := g.b b eb
              walk_at "v"
              refine ⟨tr_ok, ?_⟩
              refine ite2 (fun ce => ?_) (fun ce => ?_)
              · obtain ⟨e, ee, oe⟩ := tr_1 ce
                have he := g.e e ee
                walk_at "v"
                intro r4 S5 r40 r41 d5
                obtain ⟨m', am, hm⟩ := key b e hb he r4 r40 r41
                walk_at "v"
                exact ⟨.ask ka m', r.b, r.e, r.an, _, rfl, rfl, ⟨g.nm, ⟨gw.1, hm⟩, gb, ge, gu.an⟩, (dd2.trans d4).trans d5⟩
              · walk_at "v"
                intro r4 S5 r40 r41 d5
                obtain ⟨m', am, hm⟩ := key b 0 hb ⟨by omega, by omega⟩ r4 r40 r41
                walk_at "v"
                exact ⟨.ask ka m', r.b, r.e, r.an, _, rfl, rfl, ⟨g.nm, ⟨gw.1, hm⟩, gb, ge, gu.an⟩, (dd2.trans d4).trans d5⟩
            · walk_at "v"
              refine ⟨tr_ok, ?_⟩
              refine ite2 (fun ce => ?_) (fun ce => ?_)
              · obtain ⟨e, ee, oe⟩ := tr_1 ce
                have he := g.e e ee
                walk_at "v"
                intro r4 S5 r40 r41 d5
                obtain ⟨m', am, hm⟩ := key 0 e ⟨by omega, by omega⟩ he r4 r40 r41
                walk_at "v"
                exact ⟨.ask ka m', r.b, r.e, r.an, _, rfl, rfl, ⟨g.nm, ⟨gw.1, hm⟩, gb, ge, gu.an⟩, (dd2.trans d4).trans d5⟩
              · walk_at "v"
                intro r4 S5 r40 r41 d5
                obtain ⟨m', am, hm⟩ := key 0 0 ⟨by omega, by omega⟩ ⟨by omega, by omega⟩ r4 r40 r41
                walk_at "v"
                exact ⟨.ask ka m', r.b, r.e, r.an, _, rfl, rfl, ⟨g.nm, ⟨gw.1, hm⟩, gb, ge, gu.an⟩, (dd2.trans d4).trans d5⟩
          · walk_at "v"
            have stay : GRn (n + 1) ⟨r.nm, .ask ka m, r.b, r.e, r.an⟩ := ⟨g.nm, gw, gb, ge, gu.an⟩
            refine ite2 (fun c4 => ?_) (fun c4 => ?_)
            · walk_at "v"
              intro r3 S4 r30 r31 d4
              obtain ⟨e', a1, a2⟩ : ∃ e' : Option Int, atI [VW.toD V.non, VW.toD (V.int 99999), oI r.b] r3 = some (oI e') ∧ ∀ b, e' = some b → 0 ≤ b ∧ b ≤ 200000 + 10000 * ((n + 1 : Nat) : Int) := by
                rcases (by omega : r3 = 0 ∨ r3 = 1 ∨ r3 = 2) with rfl | rfl | rfl
                · exact ⟨none, rfl, fun b h => by cases h⟩
                · exact ⟨some 99999, rfl, fun b h => by cases h; omega⟩
                · exact ⟨r.b, rfl, gb⟩
              walk_at "v"
              exact ⟨.ask ka m, r.b, e', r.an, none, rfl, rfl, ⟨g.nm, gw, gb, a2, gu.an⟩, dd2.trans d4⟩
            walk_at "v"
            refine @two_step ?vvE _ ?vvB ?vvA
            case vvA =>
              intro hF
              refine ite2 (fun c5 => ?_) (fun c5 => ?_)
              · walk_at "v"
                rcases (show r.b = none ∨ ∃ b, r.b = some b from by cases r.b <;> first | exact .inl rfl | exact .inr ⟨_, rfl⟩) with eb | ⟨b, eb⟩
                · rw [show (!VW.isNon (oI r.b)) = false from by rw [eb]; rfl]
                  walk_at "v"
                  exact hF.h
                · rw [show (!VW.isNon (oI r.b)) = true from by rw [eb]; rfl]
                  have hb := g.b b eb
                  have ob : oI r.b = .int b := by rw [eb]; rfl
                  walk_at "v"
                  intro r3 S4 r30 r31 d4
                  walk_at "v"
                  exact ⟨.ask ka m, some (b + 1000 * r3), r.e, r.an, none, rfl, rfl, ⟨g.nm, gw, (fun x h => by cases h; omega), ge, gu.an⟩, dd2.trans d4⟩
              · walk_at "v"
                exact hF.h
            case vvB =>
              refine ite2 (fun c6 => ?_) (fun c6 => ?_)
              · walk_at "v"
                intro r3 S4 r30 r31 d4
                obtain ⟨s, as, gs⟩ := oth r3 r30 r31
                walk_at "v"
                rw [ez, show (!false) = true from rfl]
                have gsw := gs.w
                obtain ⟨z2, tl2, ad2, a02, ez2⟩ : ∃ (z : Str) (tl : List VW.D), s.w.ad = .tup (.str z :: tl) ∧ atI (VW.D.str z :: tl) 0 = some (.str z) ∧ decide (z = ("going" : Str)) = (match s.w with | .going _ _ _ _ => true | .ask _ _ => false) := by
                  cases ew : s.w with
                  | ask k m => exact ask_word k
                  | going l h b ps => exact ⟨"going", _, rfl, rfl, decide_eq_true rfl⟩
                have ep : ∀ T, VW.eqP (VW.pyS T (.str z2)) (VW.pyS T (VW.toD (V.str "going"))) = decide (z2 = ("going" : Str)) := fun T => by
                  show VW.eqP (VW.pyS T (.str z2)) (VW.pyS T (.str "going")) = _
                  have e : ∀ x : Str, VW.pyS T (.str x) = some (.str x) := fun x => by show VW.py (.str x) = _; rw [VW.py]
                  rw [e, e]
                  show PyData.eqv (.str z2) (.str "going") = _
                  simp only [PyData.eqv]
                  rfl
                walk_at "v"
                rw [ep, ez2]
                cases ew2 : s.w with
                | going l h bk ps =>
                  rw [show (!true) = false from rfl]
                  walk_at "v"
                  exact ⟨.ask ka m, r.b, r.e, r.an, _, rfl, rfl, stay, dd2.trans d4⟩
                | ask k2 m2 =>
                  rw [ew2] at gsw
                  rw [show (!false) = true from rfl]
                  have hm2 : (Wk.ask k2 m2).md = oI m2 := rfl
                  walk_at "v"
                  exact ⟨.ask ka m2, r.b, r.e, r.an, _, rfl, rfl, ⟨g.nm, ⟨gw.1, gsw.2⟩, gb, ge, gu.an⟩, dd2.trans d4⟩
              · walk_at "v"
                exact ⟨.ask ka m, r.b, r.e, r.an, none, rfl, rfl, stay, dd2⟩
  · rintro env S3 ⟨w', b', e', an', v10, rfl, hwa, g', d3⟩
    have c1 : VW.cutD (rs.map Row.d) none (some (i : Int)) = (rs.take i).map Row.d := by rw [cutD_take, List.map_take]
    have c2 : VW.cutD (rs.map Row.d) (some ((i : Int) + 1)) none = (rs.drop (i + 1)).map Row.d := by rw [show ((i : Int) + 1) = ((i + 1 : Nat) : Int) by omega, cutD_drop, List.map_drop]
    have l1 : (rs.take i).length = i := by rw [List.length_take]; omega
    have l2 : (rs.drop (i + 1)).length = rs.length - (i + 1) := List.length_drop ..
    have fin : ∀ an2 : An2, an2.gn (500 + (n + 1)) → P' (.lst ((rs.take i).map Row.d ++ [.tup [.str r.nm, r.w.ad, oI b', w'.md, oI e', an2.d]] ++ (rs.drop (i + 1)).map Row.d)) S3 := fun an2 h2 => by
      have := k (rs.take i ++ [⟨r.nm, w', b', e', an2⟩] ++ rs.drop (i + 1)) S3 ⟨by rw [List.length_append, List.length_append, l1, l2]; show i + 1 + _ ≤ 6; omega, by rw [List.length_append, List.length_append]; show 0 < _ + 1 + _; omega, fun y hy => by
        rcases List.mem_append.mp hy with hy | hy
        · rcases List.mem_append.mp hy with hy | hy
          · exact (gr.all y (List.mem_of_mem_take hy)).up
          · rw [List.mem_singleton.mp hy]; exact ⟨g'.nm, g'.w, g'.b, g'.e, h2⟩
        · exact (gr.all y (List.mem_of_mem_drop hy)).up⟩ d3
      rw [List.map_append, List.map_append] at this
      rw [← hwa]
      exact this
    have sz1 : ((rs.take i).map Row.d).length + 1 ≤ sizeLine := by rw [List.length_map, l1, sizeLine_eq]; omega
    have sz2 : ∀ z : VW.D, ((rs.take i).map Row.d ++ [z]).length + ((rs.drop (i + 1)).map Row.d).length ≤ sizeLine := fun z => by rw [List.length_append, List.length_map, List.length_map, l1, l2, sizeLine_eq]; show i + 1 + _ ≤ _; omega
    walk_at "v"
    refine ⟨fun env S4 => Wrap (∃ an2 : An2, env = [some (.ref q), some (.lst (rs.map Row.d)), some (.int (i : Int)), some (.str r.nm), some r.w.ad, some (oI b'), some w'.md, some (oI e'), some an2.d, some (.int way), v10] ∧ an2.gn (500 + (n + 1)) ∧ S4 = S3), ?_, ?_⟩
    · walk_at "v"
      refine ite2 (fun c => ?_) (fun c => ?_)
      · walk_at "v"
        exact ⟨.non, rfl, trivial, rfl⟩
      · walk_at "v"
        exact ⟨an', rfl, g'.an, rfl⟩
    · rintro env S4 ⟨an2, rfl, g2, rfl⟩
      walk_at "v"
      rw [c1]
      refine ⟨sz1, ?_⟩
      walk_at "v"
      rw [c2]
      refine ⟨sz2 _, ?_⟩
      exact fin an2 g2

local macro_rules | `(tactic| walk_at "vf") => `(tactic| first
  | ((with_reducible show VW.DGot _ _ _ _); exact dgotA (by walk_at "sq"))
  | ((with_reducible show VW.DPutD _ _ _ _ _); exact dputA (by walk_at "sp") (by first | assumption | walk_at "arith"))
  | ((with_reducible show VW.DPopD _ _ _ _ _); exact dpopA (by walk_at "sp") (by assumption)))

/-! ### what is handed in is small -/
instance : VW.UpB (fun _ ws => ws.reverse) (fun _ ws => ws.reverse) := ⟨fun _ b => b.rev⟩
theorem ibm {i : Int} (h0 : -1000000 ≤ i) (h1 : i ≤ 1000000) : IB i := by constructor <;> omega
theorem ask_sh {k : Ask} (g : k.g) : Sh 500 1 k.d := by
  have st : ∀ z : Str, (PyData.str z).leavesShort 40 = true → z.cps.size ≤ 10 → Sh 10 0 (.str z) := fun z h h2 => (Sh.str h).mono h2 (Nat.le_refl _)
  have si : ∀ {i : Int}, 0 ≤ i → i ≤ 9 → Sh 120 0 (.int i) := fun h0 h1 => Sh.int (ibm (by omega) (by omega))
  cases k with
  | find k => exact (Sh.tup (ShA.cons ((st "find" (by decide +kernel) (by decide +kernel))) (ShA.cons (si g.1 g.2) ShA.nil))).mono (by omega) (by omega)
  | put k v => exact (Sh.tup (ShA.cons ((st "put" (by decide +kernel) (by decide +kernel))) (ShA.cons (si g.1.1 g.1.2) (ShA.cons (si g.2.1 (by have := g.2.2; omega)) ShA.nil)))).mono (by omega) (by omega)
  | take k => exact (Sh.tup (ShA.cons ((st "take" (by decide +kernel) (by decide +kernel))) (ShA.cons (si g.1 g.2) ShA.nil))).mono (by omega) (by omega)
  | change k o n => exact (Sh.tup (ShA.cons ((st "change" (by decide +kernel) (by decide +kernel))) (ShA.cons (si g.1.1 g.1.2) (ShA.cons (si g.2.1.1 (by have := g.2.1.2; omega)) (ShA.cons (si g.2.2.1 (by have := g.2.2.2; omega)) ShA.nil))))).mono (by omega) (by omega)
theorem oI_sh {o : Option Int} (h : ∀ i, o = some i → -1000000 ≤ i ∧ i ≤ 1000000) : Sh 120 1 (oI o) := by
  cases o with
  | none => exact Sh.non.mono (by decide) (by decide)
  | some i => exact (Sh.int (ibm (h i rfl).1 (h i rfl).2)).mono (by decide) (by decide)
theorem pc_sh {n : Nat} {p : Pc} (g : PcG n p) (hn : n ≤ 2) : Sh 400 2 p.d := by
  have f := g.f
  have m := g.m
  exact (Sh.tup (k := 1) (ShA.cons ((Sh.int (ibm (by omega) (by omega))).mono (Nat.le_refl _) (by decide)) (ShA.cons (oI_sh fun i h => by have := g.l i h; omega) (ShA.cons ((Sh.int (ibm (by omega) (by omega))).mono (Nat.le_refl _) (by decide)) ShA.nil)))).mono (by omega) (by omega)
theorem row_sh {n : Nat} {r : Row} (g : GRn n r) (hn : n ≤ 2) : Sh 12000 4 r.d := by
  have ha : Sh 500 1 r.w.ad ∧ Sh 3000 3 r.w.md := by
    have gw := g.w
    cases ew : r.w with
    | ask k m =>
      rw [ew] at gw
      exact ⟨ask_sh gw.1, (oI_sh fun i h => by have := gw.2 i h; omega).mono (by decide) (by decide)⟩
    | going l h b ps =>
      rw [ew] at gw
      obtain ⟨h1, h2, h3, h4⟩ := gw
      refine ⟨(Sh.tup (ShA.cons ((Sh.str (z := "going") (by decide +kernel)).mono (by decide +kernel : _ ≤ 10) (Nat.le_refl _)) (ShA.cons ((Sh.int (ibm (by omega) (by omega))).mono (Nat.le_refl _) (Nat.le_refl _)) (ShA.cons (a := 120) (?_) (ShA.cons (Sh.bl.mono (Nat.le_refl _) (Nat.le_refl _)) ShA.nil))))).mono (by omega) (by omega), ?_⟩
      · cases h with
        | none => exact Sh.non.mono (by decide) (by decide)
        | some i => have := h2 i rfl; exact Sh.int (ibm (by omega) (by omega))
      · refine (Sh.lst (ShA.of (n := 400) (k := 2) fun x hx => ?_)).mono ?_ (Nat.le_refl _)
        · obtain ⟨p, hp, rfl⟩ := List.mem_map.mp hx
          exact pc_sh (h4 p hp) hn
        · rw [List.length_map]; omega
  have an : Sh 7000 2 r.an.d := ⟨r.an.p, fun S => an2_pq S r.an, an2_sq (g.an.g (by omega))⟩
  exact (Sh.tup (k := 3) (ShA.cons (g.nm.mono (Nat.le_refl _) (by decide)) (ShA.cons (ha.1.mono (Nat.le_refl _) (by decide)) (ShA.cons ((oI_sh fun i h => by have := g.b i h; omega).mono (Nat.le_refl _) (by decide)) (ShA.cons (ha.2.mono (Nat.le_refl _) (by decide)) (ShA.cons ((oI_sh fun i h => by have := g.e i h; omega).mono (Nat.le_refl _) (by decide)) (ShA.cons (an.mono (Nat.le_refl _) (by decide)) ShA.nil))))))).mono (by omega) (by omega)
def TwX (S : VW.Sto) (x : VW.D) (ps : List (Int × Int)) : Prop := x = .lst (ps.map pairD) ∨ ∃ a, x = .ref a ∧ S a = some (.tpN (ps.map pairD))
theorem TwX.pr {S : VW.Sto} {x : VW.D} {ps : List (Int × Int)} (h : TwX S x ps) : VW.PrX S x (ps.map pairD) := by
  rcases h with h | h
  · exact .inl (.inl h)
  · exact .inr h
theorem both_pq {n : Nat} {S : VW.Sto} {x : VW.D} {ps : List (Int × Int)} {rs : List Row} (hx : TwX S x ps) (gp : GP ps) (g : GRs n rs) (hn : n ≤ 2) : ∃ pd, (∀ T : VW.Sto, (∀ a o, S a = some o → T a = some o) → VW.Pq T (.lst [x, .lst (rs.map Row.d)]) pd) ∧ pd.showable = true ∧ pd.depth ≤ 60 ∧ pd.shown.length ≤ 16000000 := by
  obtain ⟨ds, h1, q1⟩ : ShA 5000 4 (ps.map pairD) := by
    refine (ShA.of (n := 300) (k := 4) fun y hy => ?_).mono ?_ (Nat.le_refl _)
    · obtain ⟨p, hp, rfl⟩ := List.mem_map.mp hy
      have := gp.gk p hp
      have h2 := this.2
      unfold sm4 at h2
      exact (Sh.tup (ShA.cons (Sh.int (ibm (by omega) (by omega))) (ShA.cons (Sh.int (ibm (by omega) (by omega))) ShA.nil))).mono (by omega) (by omega)
    · rw [List.length_map]; have := gp.prs.len; omega
  obtain ⟨d2, h2, q2⟩ : Sh 80000 6 (.lst (rs.map Row.d)) := by
    refine (Sh.lst (ShA.of (n := 12000) (k := 5) fun y hy => ?_)).mono ?_ (Nat.le_refl _)
    · obtain ⟨r, hr, rfl⟩ := List.mem_map.mp hy
      exact (row_sh (g.all r hr) hn).mono (Nat.le_refl _) (by decide)
    · rw [List.length_map]; have := g.len; omega
  rcases hx with rfl | ⟨a, rfl, ha⟩
  · obtain ⟨t1, t2, t3⟩ := (Sq.lst (SqAll.cons ((Sq.lst q1).mono (Nat.le_refl _) (by decide : 5 ≤ 6)) (SqAll.cons q2 SqAll.nil))).txt (by decide) (by decide)
    exact ⟨_, fun T _ => .lst (.cons (.lst (h1 T)) (.cons (h2 T) .nil)), t1, t2, t3⟩
  · obtain ⟨t1, t2, t3⟩ := (Sq.lst (SqAll.cons ((Sq.tup q1).mono (Nat.le_refl _) (by decide : 5 ≤ 6)) (SqAll.cons q2 SqAll.nil))).txt (by decide) (by decide)
    exact ⟨_, fun T hT => .lst (.cons (.refT (hT _ _ ha) (h1 T)) (.cons (h2 T) .nil)), t1, t2, t3⟩
/-! ### right -/
def spRight : VW.SpD := VW.sp2 fun x y S P _ => ∃ n ps rs, TwX S x ps ∧ y = .lst (rs.map Row.d) ∧ GP ps ∧ GRs n rs ∧ n ≤ 2 ∧ P (.bl true) S
theorem ok_right (T : Txt w K mg A) : GD.FnOkG P w K mg base 6 A.a_right A.d_right ["_law_twos", "_law_rows"] (VW.upSp K (spRight)) := by
  refine GD.okG T.F_right sc_right (VW.upSp.len VW.sp2_len) (fun cdv A' outer s H vs Q E hg hr h => ?_)
  obtain ⟨F, S, ds, P', PE, rh, hv, ⟨x1, x2, rfl, h⟩, lv, lx⟩ := h
  have hS0 := (fun (X : VW.Sto) (e : X = S) => e) S rfl
  haveI : VW.XLe K F E PE := ⟨lx⟩
  have hu := hu_of hr
  refine ⟨_, (pss_cons (ps_set (i := 2) sc_right.nd rfl (Or.inl rfl) (pe_callB (RQ.call_reprQ hg hr.units) (by rfl) T.n_repr (by decide +kernel) (pa_cons (VW.pe_kp (pe_lst (pa_cons (pv 0) (pa_cons (pv 1) pa_nil)))) pa_nil)))
      (pss_cons (ps_set (i := 3) sc_right.nd rfl (Or.inl rfl) (GD.pe_callG hg (ok_alike T) (hr.mono (by decide)) rfl T.m_alike T.F_alike.kp T.b_alike .nil (pa_cons (pv 0) (pa_cons (pv 1) pa_nil))))
      (pss_cons (ps_set (i := 4) sc_right.nd rfl (Or.inl rfl) (pe_call (ok_stand_alike T) (hr.mono (by decide)) rfl T.m_stand_alike T.F_stand_alike.kp T.b_stand_alike .nil VW.pass0F (pa_cons (pv 0) (pa_cons (pv 1) pa_nil))))
      (pss_cons (ps_if (PW.pt (pw_or (pt_not (pt_val (pe_callB VW.call_isA (by rfl) T.n_isinstance (by decide +kernel) (pa_cons (pv 4) (pa_cons (pe_bltn (v := V.ty "bool") (by rfl) T.n_bool (by decide +kernel) rfl) pa_nil))))) (pw_or (pt_cmpR (VW.op_nePl hr.units) (pv 4) (pv 3) (nomark _)) (pw_or1 (pt_cmpR op_ne (pe_callB (RQ.call_reprQ hg hr.units) (by rfl) T.n_repr (by decide +kernel) (pa_cons (VW.pe_kp (pe_lst (pa_cons (pv 0) (pa_cons (pv 1) pa_nil)))) pa_nil)) (pv 2) (nomark _))))))
      (pss_one (ps_ret pe_bl))
      pss_nil)
      (pss_cons (ps_if (pt_not (pt_val (pv 3)))
      (pss_one (ps_ret pe_bl))
      pss_nil)
      (pss_cons (ps_set (i := 5) sc_right.nd rfl (Or.inl rfl) (pe_callK0 (ok_held_behind T) (hr.mono (by decide)) rfl T.m_held_behind T.F_held_behind.kp (kb_of (ps := ["pairs", "asks"]) (ks := ["asks", "pairs"]) (n := 0) T.F_held_behind (fun _ ws => ws.reverse) (fun _ r => paired_rev r) (fun _ _ _ _ _ _ us ws h1 h2 => match us, ws, h1, h2 with | [], [_, _], _, _ => rfl)) VW.pass0F (pk_cons (pv 1) (pk_cons (pv 0) pk_nil))))
      (pss_one (ps_ret (pe_and (pe_cmpR (VW.op_eqPl hr.units) (pv 5) (pe_callB (cr_sortT (d := 2) (B := 1000000) (by decide)) (by rfl) T.n_sorted (by decide +kernel) (pa_cons (LiI.pe_listItems rfl (pe_ix ix_tup (pe_call (ok_played T) (hr.mono (by decide)) rfl T.m_played T.F_played.kp T.b_played .nil VW.pass0F (pa_cons (pv 0) (pa_cons (pv 1) pa_nil))) pe_int (fun _ _ => rfl)) (by rfl) T.n_list (by decide +kernel)) pa_nil)) (nomark _)) (pe_one (pe_cmpR op_eq (pe_callB (RQ.call_reprQ hg hr.units) (by rfl) T.n_repr (by decide +kernel) (pa_cons (VW.pe_kp (pe_lst (pa_cons (pv 0) (pa_cons (pv 1) pa_nil)))) pa_nil)) (pv 2) (nomark _)))))))))))), ?_⟩
  try dsimp only [cxOf, Cx.nox, Cx.wish, List.map]
  refine VW.body_less rh hv lv ?_
  obtain ⟨n, ps, rs, hx, rfl, gp, g, hn, k⟩ := h
  have gd := g.gd hn gp
  have hpx := hx.pr
  obtain ⟨pd, hpdT, t1, t2, t3⟩ := both_pq hx gp g hn
  have hpd := hpdT S fun a o h => h
  have hbn : ∀ r ∈ rs, ∀ b, r.b = some b → 0 ≤ b := fun r hr b e => ((g.all r hr).b b e).1
  have hmo : ∀ r ∈ rs, ∀ o ∈ lawMoms r, o < 1000000 := fun r hr => (g.all r hr).mom hn
  have han : ∀ r ∈ rs, r.an.g := fun r hr => (g.all r hr).an.g (by omega)
  have gpr := gp.prs
  have few := gd.few
  have gev := gd.ev
  have e9 : decide (pd.shown = pd.shown) = true := decide_eq_true rfl
  have tb : ∀ T b, VW.isT "bool" (VW.tyN T (.bl b)) = true := fun T b => by show VW.isT "bool" "bool" = true; decide +kernel
  have eb : ∀ T b, VW.eqP (VW.pyS T (.bl b)) (VW.pyS T (.bl b)) = true := fun T b => by
    have e : VW.pyS T (.bl b) = some (.bool b) := by show VW.py (.bl b) = _; rw [VW.py]
    rw [e]
    show PyData.eqv (.bool b) (.bool b) = _
    cases b <;> simp [PyData.eqv]
  show VW.dSeq _ _ _ [some x1, some (.lst (rs.map Row.d)), none, none, none, none] S
  walk_at "v"
  rw [eb, show (!true) = false from rfl]
  walk_at "v"
  rw [e9, show (!true) = false from rfl]
  walk_at "v"
  cases cs : standB rs ps with
  | false =>
    rw [show (!false) = true from rfl]
    walk_at "v"
    exact VW.less_id k
  | true =>
    rw [show (!true) = false from rfl]
    have cs' := cs
    unfold standB at cs'
    rw [Bool.and_eq_true] at cs'
    obtain ⟨ct, cn⟩ := cs'
    have nd : (moms rs).Nodup := by
      by_cases h : (moms rs).Nodup
      · exact h
      · rw [if_neg h] at cn; cases cn
    have nd2 : ((evF 0 rs).map (·.mom)).Nodup := nd
    have gmm : Gm rs := gm_of nd ct hbn hmo
    have pg := play_good gd
    obtain ⟨pk1, pk2⟩ := play_keys gpr gev
    have km := pg.gk.km pk2 pk1
    have er : rowsW (play rs ps).2 0 none = isort (play rs ps).2 := by
      unfold rowsW
      rw [List.filter_eq_self]
      intro p hp
      have := (pg.gk p ((isort_perm _).mem_iff.mp hp)).1
      show (decide (0 ≤ p.1) && true) = true
      rw [decide_eq_true this.1]; rfl
    walk_at "v"
    rw [er]
    intro L q S1 nLq hL1 hq1 hS1
    walk_at "v"
    have hml := km.len
    refine ⟨(Or.inl (by rw [← kv_pairs, List.map_map]; rfl) : VW.SeqL S1 _ (((play rs ps).2.map pn).map VW.tupD)), by rw [List.length_map]; exact hml, fun ns hns => ?_, fun mss hp hs => ?_⟩
    · obtain ⟨p, hp, rfl⟩ := List.mem_map.mp hns
      have h := km.bd p hp
      refine ⟨rfl, fun m hm => ?_⟩
      have hm : m ∈ [p.1, p.2] := hm
      simp only [List.mem_cons, List.not_mem_nil, or_false] at hm
      omega
    rw [pn_sorted km hp hs]
    have hpd1 := hpdT S1 hS1
    have ok1 : VW.okP (VW.pyS S1 (.lst ((isort (play rs ps).2).map pairD))) = true := an2_ok S1 (.rows (isort (play rs ps).2))
    have eq1 : VW.eqP (VW.pyS S1 (.lst ((isort (play rs ps).2).map pairD))) (VW.pyS S1 (.lst ((isort (play rs ps).2).map pairD))) = true := by
      have := same_eq (.rows (isort (play rs ps).2)) (.rows (isort (play rs ps).2))
      rw [decide_eq_true rfl, Bool.and_eq_true] at this
      show VW.eqP (VW.pyS S1 (An2.rows (isort (play rs ps).2)).d) (VW.pyS S1 (An2.rows (isort (play rs ps).2)).d) = true
      rw [an2_py]
      exact this.2
    walk_at "v"
    rw [eq1]
    walk_at "v"
    rw [e9]
    exact ⟨S, hS1, k⟩

local macro_rules | `(tactic| walk_at "vf") => `(tactic| first
  | ((with_reducible show VW.DGot _ _ _ _); exact dgotA (by walk_at "sq"))
  | ((with_reducible show VW.DPutD _ _ _ _ _); exact dputA (by walk_at "sp") (by first | assumption | walk_at "arith"))
  | ((with_reducible show VW.DPopD _ _ _ _ _); exact dpopA (by walk_at "sp") (by assumption)))

/-! ### one truth is another one -/
def rIsBB : R2 := fun x y H Q => ∃ b c, x = .bl b ∧ y = .bl c ∧ Q (.bl (b == c)) H
theorem op_isBB {X : Cx} : OpR X (compareOp .Is) rIsBB := by
  intro pins s σ H x y v u Q I rx ry h
  obtain ⟨b, c, rfl, rfl, q⟩ := h
  cases rx
  cases ry
  cases b <;> cases c <;> exact wpAny_pure ⟨.bl _, H, I, rfl, q⟩
def dIsBB : VW.R2D := fun x y S P => ∃ b c, x = .bl b ∧ y = .bl c ∧ P (.bl (b == c)) S
instance {K : PySem.W.Frag} {F0 : Hp} : VW.UpR K F0 rIsBB dIsBB := ⟨fun r hv hu ⟨b, c, e1, e2, p⟩ le => by
  subst e1; subst e2; cases hv; cases hu
  exact ⟨b, c, rfl, rfl, le _ _ _ _ _ p (Same.refl _) r (.bl _)⟩⟩
def spLaw (K : PySem.W.Frag) : Sp := fun vs H Q _ => ∃ (a : Addr) (ns : List Int), vs = [.ref a] ∧ SqL K H a (ns.map V.int) ∧ ns.length ≤ 63 ∧ ∀ H', Q (.bl true) H'
theorem vd_ints {K : PySem.W.Frag} {H : Hp} : ∀ ns : List Int, VW.VdAll K H (ns.map V.int) (ns.map VW.D.int)
  | [] => .nil
  | n :: r => .cons (.int n) (vd_ints r)
theorem most12 (L : Int) : (if (if (12 : Int) < L then 12 else L) > 1 then (if (12 : Int) < L then 12 else L) else 1).toNat ≤ 12 := by
  split <;> (try split) <;> omega
theorem ok_law (T : Txt w K mg A) : GD.FnOkG P w K mg base 7 A.a_law A.d_law ["_law_script"] (spLaw K) := by
  refine GD.okG T.F_law sc_law (fun vs H Q E h => by obtain ⟨a, ns, rfl, _⟩ := h; rfl) (fun cdv A' outer s H vs Q E hg hr h => ?_)
  obtain ⟨a, ns, rfl, hS, hns, k⟩ := h
  have hu := hu_of hr
  refine ⟨_, (pss_cons (ps_for PassesOwn.never rfl (pi_range1 rfl T.n_range (pa_cons (pe_callB (VW.call_max2A rfl) (by rfl) T.n_max (by decide +kernel) (pa_cons pe_int (pa_cons (pe_callB (VW.call_min2A rfl) (by rfl) T.n_min (by decide +kernel) (pa_cons (pe_callB VW.call_lenA (by rfl) T.n_len PySem.boot_len (pa_cons (pv 0) pa_nil)) (pa_cons pe_int pa_nil))) pa_nil))) pa_nil)) (pg_name (i := 1) sc_law.nd rfl (Or.inl rfl))
      (pss_cons (ps_set (i := 2) sc_law.nd rfl (Or.inr rfl) (pe_call (ok_pool T) (hr.mono (by decide)) rfl T.m_pool T.F_pool.kp T.b_pool .nil VW.pass0F (pa_cons (pv 0) (pa_cons (pv 1) pa_nil))))
      (pss_cons (VW.ps_setLcK (i := 3) (own := [("_law_key", 7)]) rfl sc_law.nd rfl rfl (sw_true rfl rfl rfl (by decide +kernel)) (pi_range1 rfl T.n_range (pa_cons pe_int pa_nil)) (blkOk_by (own := [("_law_key", 7)]) (N := n_law) (sc := defScope s_law) (by decide +kernel)) (fun _ _ _ _ _ => viaG (pg_name (i := 7) sc_law.nd rfl (Or.inl rfl)) (by first | rfl | (dsimp only [Cx.blk]; done) | (dsimp only [Cx.blk]; rfl))) (fun _ _ _ _ _ => viaT (pts_one (pt_cmpR op_eq (pe_call (ok_take T) (hr.mono (by decide)) rfl T.m_take T.F_take.kp T.b_take .nil VW.pass0F (pa_cons (pv 2) (pa_cons pe_int pa_nil))) pe_int (nomark _))) (by first | rfl | (dsimp only [Cx.blk]; done) | (dsimp only [Cx.blk]; rfl))) (fun _ _ _ _ _ => viaE (pe_tup (pa_cons (pv 7) (pa_cons (pe_call (ok_take T) (hr.mono (by decide)) rfl T.m_take T.F_take.kp T.b_take .nil VW.pass0F (pa_cons (pv 2) (pa_cons pe_int pa_nil))) pa_nil))) (by first | rfl | (dsimp only [Cx.blk]; done) | (dsimp only [Cx.blk]; rfl))))
      (pss_cons (ps_set (i := 4) sc_law.nd rfl (Or.inl rfl) (pe_call (ok_answered T) (hr.mono (by decide)) rfl T.m_answered T.F_answered.kp T.b_answered .nil VW.pass0F (pa_cons (pv 3) (pa_cons (pe_call (ok_history T) (hr.mono (by decide)) rfl T.m_history T.F_history.kp T.b_history .nil VW.pass0F (pa_cons (pv 2) (pa_cons (pe_op op_add pe_int (pe_call (ok_take T) (hr.mono (by decide)) rfl T.m_take T.F_take.kp T.b_take .nil VW.pass0F (pa_cons (pv 2) (pa_cons pe_int pa_nil)))) (pa_cons pe_bl pa_nil)))) pa_nil))))
      (pss_cons (ps_if (PW.pt (pw_or (pt_not (pt_val (GD.pe_callG hg (ok_alike T) (hr.mono (by decide)) rfl T.m_alike T.F_alike.kp T.b_alike .nil (pa_cons (pv 3) (pa_cons (pv 4) pa_nil))))) (pw_or1 (pt_not (pt_val (GD.pe_callG hg (ok_right T) (hr.mono (by decide)) rfl T.m_right T.F_right.kp T.b_right .nil (pa_cons (pe_callTy VW.call_tupNA (by rfl) T.n_tuple (by decide +kernel) (pa_cons (pv 3) pa_nil)) (pa_cons (pv 4) pa_nil))))))))
      (pss_one (ps_ret pe_bl))
      pss_nil)
      (pss_one (ps_for PassesOwn.never rfl (pi_range1 rfl T.n_range (pa_cons pe_int pa_nil)) (pg_name (i := 5) sc_law.nd rfl (Or.inl rfl))
      (pss_cons (ps_set (i := 6) sc_law.nd rfl (Or.inl rfl) (pe_call (ok_bent T) (hr.mono (by decide)) rfl T.m_bent T.F_bent.kp T.b_bent .nil VW.pass0F (pa_cons (pv 2) (pa_cons (pv 4) pa_nil))))
      (pss_one (ps_if (PW.pt (pw_or (pt_not (pt_val (GD.pe_callG hg (ok_right T) (hr.mono (by decide)) rfl T.m_right T.F_right.kp T.b_right .nil (pa_cons (pv 3) (pa_cons (pv 6) pa_nil))))) (pw_or1 (pt_not (pt_val (GD.pe_callG hg (ok_right T) (hr.mono (by decide)) rfl T.m_right T.F_right.kp T.b_right .nil (pa_cons (pv 3) (pa_cons (pe_call (ok_bent T) (hr.mono (by decide)) rfl T.m_bent T.F_bent.kp T.b_bent .nil VW.pass0F (pa_cons (pv 2) (pa_cons (pv 6) pa_nil))) pa_nil))))))))
      (pss_one (ps_ret pe_bl))
      pss_nil))))))))))
      (pss_one (ps_ret (pe_and (pe_cmpR op_isBB (pe_call (ok_stand_alike T) (hr.mono (by decide)) rfl T.m_stand_alike T.F_stand_alike.kp T.b_stand_alike .nil VW.pass0F (pa_cons (VW.pe_kp (pe_lst pa_nil)) (pa_cons (VW.pe_kp (pe_lst pa_nil)) pa_nil))) pe_bl (nomark _)) (pe_one (pe_cmpR (VW.op_eqPl hr.units) (pe_call (ok_held_behind T) (hr.mono (by decide)) rfl T.m_held_behind T.F_held_behind.kp T.b_held_behind .nil VW.pass0F (pa_cons (VW.pe_kp (pe_lst (pa_cons (pe_tup (pa_cons pe_int (pa_cons pe_int pa_nil))) (pa_cons (pe_tup (pa_cons pe_int (pa_cons pe_int pa_nil))) pa_nil)))) (pa_cons (VW.pe_kp (pe_lst pa_nil)) pa_nil))) (VW.pe_kp (pe_lst (pa_cons (pe_tup (pa_cons pe_int (pa_cons pe_int pa_nil))) (pa_cons (pe_tup (pa_cons pe_int (pa_cons pe_int pa_nil))) pa_nil)))) (nomark _))))))), ?_⟩
  try dsimp only [cxOf, Cx.nox, Cx.wish, List.map]
  have rh : VW.RelH K H H (fun _ => none) H := ⟨Same.refl _, Same.refl _, fun a o e => by cases e⟩
  have hv : VW.VdAll K H [.ref a] [.seq (ns.map VW.D.int)] := .cons (.seq hS (vd_ints ns)) .nil
  refine VW.body_up (P := fun x _ => x = .bl true) rh hv (fun x S F' H' v p _ _ hvv => by subst p; cases hvv; exact k H') ?_
  walk_at "v"
  refine VW.ForD.mk ⟨fun j env S4 => Wrap (∃ v1 v2 v3 v4 v5 v6 v7, env = [some (.seq (ns.map VW.D.int)), v1, v2, v3, v4, v5, v6, v7]), ?_, fun _ _ _ _ _ => True.intro, ?_, ?_⟩
  · exact ⟨_, _, _, _, _, _, _, rfl⟩
  · rintro j dd env S5 hj hd2 ⟨v1, v2, v3, v4, v5, v6, v7, rfl⟩
    have hj : j < 12 := Nat.lt_of_lt_of_le hj (most12 _)
    obtain rfl : dd = .int (0 + (j : Int)) := hd2
    rw [show (0 : Int) + (j : Int) = ((j : Nat) : Int) by omega]
    have hjl : j ≤ 63 := by omega
    walk_at "v"
    intro q cc ss hq h1 h2 h3
    have hpq : VW.PoolS (VW.sup S5 q (.lst [.int cc, .int ss])) q := ⟨cc, ss, VW.sup_same, h1, h2, h3⟩
    generalize VW.sup S5 q (.lst [.int cc, .int ss]) = S6 at hpq ⊢
    walk_at "v"
    have mem7 : ∀ (i : Nat) (d : VW.D), i < 7 → [VW.D.int 0, .int 1, .int 2, .int 3, .int 4, .int 5, .int 6][i]? = some d → d = .int (i : Int) := fun i d hi hd => by
      rcases (by omega : i = 0 ∨ i = 1 ∨ i = 2 ∨ i = 3 ∨ i = 4 ∨ i = 5 ∨ i = 6) with rfl | rfl | rfl | rfl | rfl | rfl | rfl <;> (cases hd; rfl)
    refine VW.lcD_drawnR (q := q) [.int 0, .int 1, .int 2, .int 3, .int 4, .int 5, .int 6] (fun i acc => ∃ ps : List (Int × Int), acc = ps.map pairD ∧ ps.length ≤ i ∧ i ≤ 7 ∧ (ps.map (·.1)).Nodup ∧ ∀ p ∈ ps, (0 ≤ p.1 ∧ p.1 < (i : Int)) ∧ sm4 p.2) rfl (fun i d hlt hit => ?_) hpq (fun _ _ _ _ _ => True.intro) ⟨[], rfl, Nat.le_refl _, by omega, List.nodup_nil, fun t ht => by cases ht⟩ (fun i acc ⟨ts, e, hl, hi, _⟩ => ?_) ?_ ?_
    · have hlt : i < 7 := hlt
      have hit : d = .int (0 + (i : Int)) := hit
      rw [hit]
      rcases (by omega : i = 0 ∨ i = 1 ∨ i = 2 ∨ i = 3 ∨ i = 4 ∨ i = 5 ∨ i = 6) with rfl | rfl | rfl | rfl | rfl | rfl | rfl <;> rfl
    · rw [e, List.length_map, sizeLine_eq]; omega
    · intro i d acc S7 Zy Zn hd ⟨ps, e, hl, hi4, hnd, hps⟩ hq7 hS7 hy hn
      subst e
      have hi : i < 7 := (List.getElem?_eq_some_iff.mp hd).1
      obtain rfl := mem7 i d hi hd
      walk_at "v"
      intro r1 S8 r10 r11 d8
      have hq8 := d8.pool
      walk_at "v"
      refine ite2 (fun _ => ?_) (fun _ => ?_)
      · walk_at "v"
        intro r2 S9 r20 r21 d9
        walk_at "v"
        refine hy _ _ (d8.trans d9) ⟨ps ++ [((i : Int), r2)], by rw [List.map_append]; rfl, by rw [List.length_append]; exact Nat.succ_le_succ hl, by omega, ?_, fun p hp => ?_⟩
        · rw [List.map_append, List.nodup_append]
          refine ⟨hnd, by simp, fun a ha b hb => ?_⟩
          obtain ⟨p, hp, rfl⟩ := List.mem_map.mp ha
          have hb : b = (i : Int) := by simpa using hb
          have := (hps p hp).1
          omega
        · rcases List.mem_append.mp hp with h | h
          · have := hps p h
            exact ⟨⟨this.1.1, by omega⟩, this.2⟩
          · rw [List.mem_singleton.mp h]
            exact ⟨⟨by omega, by omega⟩, r20, by omega⟩
      · refine hn _ d8 ⟨ps, rfl, by omega, by omega, hnd, fun p hp => ?_⟩
        have := hps p hp
        exact ⟨⟨this.1.1, by omega⟩, this.2⟩
    · rintro acc S8 ⟨ps, rfl, hl, _, hnd, hps⟩ d8
      have hl : ps.length ≤ 7 := hl
      have gp : GP ps := ⟨⟨by omega, hnd⟩, fun p hp => by have := hps p hp; exact ⟨⟨this.1.1, by have := this.1.2; simp only [List.length_cons, List.length_nil] at this; omega⟩, this.2⟩⟩
      clear hl hnd hps mem7
      have hq8 := d8.pool
      walk_at "v"
      intro r1 S9 r10 r11 d9
      have hq9 := d9.pool
      obtain ⟨n1, rfl⟩ : ∃ n : Nat, r1 = (n : Int) := ⟨r1.toNat, by omega⟩
      have e1 : VW.D.int ((1 : Int) + (n1 : Int)) = .int ((1 + n1 : Nat) : Int) := congrArg VW.D.int (by omega)
      walk_at "v"
      intro rs0 S10 hs0 hl0 d10
      have hq10 := d10.pool
      have hl0' : rs0.length = n1 + 1 := by rw [hl0]; exact Nat.add_comm 1 n1
      clear hl0
      have hl06 : rs0.length ≤ 6 := by omega
      have hl00 : 0 < rs0.length := by omega
      have px : VW.PrX S10 (.lst (ps.map pairD)) (ps.map pairD) := .inl (.inl rfl)
      obtain ⟨g0, st0⟩ := ans_good hs0 hl06 hl00 gp
      walk_at "v"
      generalize ansL (play rs0 ps).1 0 rs0 = rs at g0 st0 ⊢
      clear hs0 hl0' hl06 hl00
      have gd := g0.gd (by decide) gp
      have hbn : ∀ r ∈ rs, ∀ b, r.b = some b → 0 ≤ b := fun r hr b e => ((g0.all r hr).b b e).1
      have hmo : ∀ r ∈ rs, ∀ o ∈ lawMoms r, o < 1000000 := fun r hr => (g0.all r hr).mom (by decide)
      have han : ∀ r ∈ rs, r.an.g := fun r hr => (g0.all r hr).an.g (by decide)
      walk_at "v"
      rw [st0]
      walk_at "v"
      intro p hp
      have tw : TwX (VW.sup S10 p (.tpN (ps.map pairD))) (.ref p) ps := .inr ⟨p, rfl, VW.sup_same⟩
      have hq11 : VW.PoolS (VW.sup S10 p (.tpN (ps.map pairD))) q := hq10.new hp
      generalize VW.sup S10 p (.tpN (ps.map pairD)) = S11 at tw hq11 ⊢
      clear px
      walk_at "v"
      have twl : ∀ T, TwX T (.lst (ps.map pairD)) ps := fun T => .inl rfl
      refine VW.ForD.mk ⟨fun i env S14 => Wrap (∃ v5 v6 v7, env = [some (.seq (ns.map VW.D.int)), some (.int (j : Int)), some (.ref q), some (.lst (ps.map pairD)), some (.lst (rs.map Row.d)), v5, v6, v7] ∧ VW.PoolS S14 q), ?_, fun _ _ _ _ _ => True.intro, ?_, ?_⟩
      · exact ⟨_, _, _, rfl, hq11⟩
      · rintro i dd env S14 hi hd3 ⟨v5, v6, v7, rfl, hq14⟩
        walk_at "v"
        intro rs1 S15 g1 d15
        have hq15 := d15.pool
        have t15 := twl S15
        walk_at "v"
        intro rs2 S16 g2 d16
        have hq16 := d16.pool
        have t16 := twl S16
        walk_at "v"
        exact ⟨_, _, _, rfl, hq16⟩
      · rintro env S14 ⟨v5, v6, v7, rfl, hq14⟩
        walk_at "v"
        exact ⟨_, _, _, _, _, _, _, rfl⟩
  · rintro env S5 ⟨v1, v2, v3, v4, v5, v6, v7, rfl⟩
    walk_at "v"
    have eu1 : ∀ T, VW.okP (VW.pyS T (.lst ([((2 : Int), (5 : Int)), (3, 1)].map pairD))) = true := fun T => an2_ok T (.rows [(2, 5), (3, 1)])
    have eu2 : ∀ T, VW.eqP (VW.pyS T (.lst ([((2 : Int), (5 : Int)), (3, 1)].map pairD))) (VW.pyS T (.lst ([((2 : Int), (5 : Int)), (3, 1)].map pairD))) = true := fun T => by
      have := same_eq (.rows [(2, 5), (3, 1)]) (.rows [(2, 5), (3, 1)])
      rw [decide_eq_true rfl, Bool.and_eq_true] at this
      show VW.eqP (VW.pyS T (An2.rows [(2, 5), (3, 1)]).d) (VW.pyS T (An2.rows [(2, 5), (3, 1)]).d) = true
      rw [an2_py]
      exact this.2
    refine ⟨(Or.inl (Or.inl rfl) : VW.PrX _ _ (([] : List (Int × Int)).map pairD)), show VW.D.lst [] = VW.D.lst (([] : List Row).map Row.d) from rfl, ⟨by decide, List.nodup_nil⟩, ⟨by decide, fun r hr => by cases hr⟩, by decide, ?_⟩
    rw [show standB [] [] = true from by decide]
    walk_at "v"
    refine ⟨(Or.inl (Or.inl (show VW.D.lst [.tup [.int 3, .int 1], .tup [.int 2, .int 5]] = VW.D.lst ([((3 : Int), (1 : Int)), (2, 5)].map pairD) from rfl)) : VW.PrX _ _ ([((3 : Int), (1 : Int)), (2, 5)].map pairD)), show VW.D.lst [] = VW.D.lst (([] : List Row).map Row.d) from rfl, ⟨by decide, by decide⟩, ⟨by decide, fun r hr => by cases hr⟩, by decide, by decide, ?_⟩
    rw [show rowsW (play [] [((3 : Int), (1 : Int)), (2, 5)]).2 0 none = [(2, 5), (3, 1)] from by decide]
    have o1 := eu1 S5
    have o2 : VW.okP (VW.pyS S5 (.lst [.tup [VW.toD (V.int 2), VW.toD (V.int 5)], .tup [VW.toD (V.int 3), VW.toD (V.int 1)]])) = true := eu1 S5
    walk_at "v"
    exact congrArg VW.D.bl (eu2 S5)

end
theorem all_mk {l : PySem.W.OpenLaw} {w : World} {K : PySem.W.Frag} {h : Heap} {mg : Str → Option Value} {fa : Addr} (X : K.In h) (G : h.Ns mainGlobals mg) (hfa : mg "law" = some (.ref fa))
    {a_rows_within a_done a_is_within a_abut a_is_timely a_events_of a_moment_of a_answers_by_moments a_is_same a_stand_alike a_held_behind a_pool a_take a_within a_law_abut a_one_done a_moments a_placed a_played a_alike a_drawn_ask a_cut_pieces a_history a_answered a_bent a_pieces_bent a_right a_law : Addr} {od0 an0 od1 an1 od2 an2 od3 an3 od4 an4 od5 an5 od6 an6 od7 an7 od8 an8 od9 an9 od10 an10 od11 an11 od12 an12 od13 an13 od14 an14 od15 an15 od16 an16 od17 an17 od18 an18 od19 an19 od20 an20 od21 an21 od22 an22 od23 an23 od24 an24 od25 an25 od26 an26 od27 an27 : Option Addr} {sl0 sl1 sl2 sl3 sl4 sl5 sl6 sl7 sl8 sl9 sl10 sl11 sl12 sl13 sl14 sl15 sl16 sl17 sl18 sl19 sl20 sl21 sl22 sl23 sl24 sl25 sl26 sl27 : Array (Option Value)} {oc0 kV0 dc0 pm0 cd0 ct0 oc1 kV1 dc1 pm1 cd1 ct1 oc2 kV2 dc2 pm2 cd2 ct2 oc3 kV3 dc3 pm3 cd3 ct3 oc4 kV4 dc4 pm4 cd4 ct4 oc5 kV5 dc5 pm5 cd5 ct5 oc6 kV6 dc6 pm6 cd6 ct6 oc7 kV7 dc7 pm7 cd7 ct7 oc8 kV8 dc8 pm8 cd8 ct8 oc9 kV9 dc9 pm9 cd9 ct9 oc10 kV10 dc10 pm10 cd10 ct10 oc11 kV11 dc11 pm11 cd11 ct11 oc12 kV12 dc12 pm12 cd12 ct12 oc13 kV13 dc13 pm13 cd13 ct13 oc14 kV14 dc14 pm14 cd14 ct14 oc15 kV15 dc15 pm15 cd15 ct15 oc16 kV16 dc16 pm16 cd16 ct16 oc17 kV17 dc17 pm17 cd17 ct17 oc18 kV18 dc18 pm18 cd18 ct18 oc19 kV19 dc19 pm19 cd19 ct19 oc20 kV20 dc20 pm20 cd20 ct20 oc21 kV21 dc21 pm21 cd21 ct21 oc22 kV22 dc22 pm22 cd22 ct22 oc23 kV23 dc23 pm23 cd23 ct23 oc24 kV24 dc24 pm24 cd24 ct24 oc25 kV25 dc25 pm25 cd25 ct25 oc26 kV26 dc26 pm26 cd26 ct26 oc27 kV27 dc27 pm27 cd27 ct27 : Value}
    (a0 : PySem.W.nsIn K mainGlobals "rows_within" = some (some (.ref a_rows_within)))
    (l0 : K.lookup a_rows_within = some ⟨oc0, od0, .func (PySem.W.fnOf "rows_within" "rows_within" (defArgs s_rows_within) (defBody s_rows_within) (defScope s_rows_within) .none kV0 dc0 pm0 an0 cd0 ct0), sl0⟩)
    (c0 : PySem.W.codeIn K cd0 "rows_within" = true)
    (k0 : PySem.W.keepIn K (.ref a_rows_within) = true)
    (a1 : PySem.W.nsIn K mainGlobals "done" = some (some (.ref a_done)))
    (l1 : K.lookup a_done = some ⟨oc1, od1, .func (PySem.W.fnOf "done" "done" (defArgs s_done) (defBody s_done) (defScope s_done) .none kV1 dc1 pm1 an1 cd1 ct1), sl1⟩)
    (c1 : PySem.W.codeIn K cd1 "done" = true)
    (k1 : PySem.W.keepIn K (.ref a_done) = true)
    (a2 : PySem.W.nsIn K mainGlobals "is_within" = some (some (.ref a_is_within)))
    (l2 : K.lookup a_is_within = some ⟨oc2, od2, .func (PySem.W.fnOf "is_within" "is_within" (defArgs s_is_within) (defBody s_is_within) (defScope s_is_within) .none kV2 dc2 pm2 an2 cd2 ct2), sl2⟩)
    (c2 : PySem.W.codeIn K cd2 "is_within" = true)
    (k2 : PySem.W.keepIn K (.ref a_is_within) = true)
    (a3 : PySem.W.nsIn K mainGlobals "abut" = some (some (.ref a_abut)))
    (l3 : K.lookup a_abut = some ⟨oc3, od3, .func (PySem.W.fnOf "abut" "abut" (defArgs s_abut) (defBody s_abut) (defScope s_abut) .none kV3 dc3 pm3 an3 cd3 ct3), sl3⟩)
    (c3 : PySem.W.codeIn K cd3 "abut" = true)
    (k3 : PySem.W.keepIn K (.ref a_abut) = true)
    (a4 : PySem.W.nsIn K mainGlobals "is_timely" = some (some (.ref a_is_timely)))
    (l4 : K.lookup a_is_timely = some ⟨oc4, od4, .func (PySem.W.fnOf "is_timely" "is_timely" (defArgs s_is_timely) (defBody s_is_timely) (defScope s_is_timely) .none kV4 dc4 pm4 an4 cd4 ct4), sl4⟩)
    (c4 : PySem.W.codeIn K cd4 "is_timely" = true)
    (k4 : PySem.W.keepIn K (.ref a_is_timely) = true)
    (a5 : PySem.W.nsIn K mainGlobals "events_of" = some (some (.ref a_events_of)))
    (l5 : K.lookup a_events_of = some ⟨oc5, od5, .func (PySem.W.fnOf "events_of" "events_of" (defArgs s_events_of) (defBody s_events_of) (defScope s_events_of) .none kV5 dc5 pm5 an5 cd5 ct5), sl5⟩)
    (c5 : PySem.W.codeIn K cd5 "events_of" = true)
    (k5 : PySem.W.keepIn K (.ref a_events_of) = true)
    (a6 : PySem.W.nsIn K mainGlobals "moment_of" = some (some (.ref a_moment_of)))
    (l6 : K.lookup a_moment_of = some ⟨oc6, od6, .func (PySem.W.fnOf "moment_of" "moment_of" (defArgs s_moment_of) (defBody s_moment_of) (defScope s_moment_of) .none kV6 dc6 pm6 an6 cd6 ct6), sl6⟩)
    (c6 : PySem.W.codeIn K cd6 "moment_of" = true)
    (k6 : PySem.W.keepIn K (.ref a_moment_of) = true)
    (a7 : PySem.W.nsIn K mainGlobals "answers_by_moments" = some (some (.ref a_answers_by_moments)))
    (l7 : K.lookup a_answers_by_moments = some ⟨oc7, od7, .func (PySem.W.fnOf "answers_by_moments" "answers_by_moments" (defArgs s_answers_by_moments) (defBody s_answers_by_moments) (defScope s_answers_by_moments) .none kV7 dc7 pm7 an7 cd7 ct7), sl7⟩)
    (c7 : PySem.W.codeIn K cd7 "answers_by_moments" = true)
    (k7 : PySem.W.keepIn K (.ref a_answers_by_moments) = true)
    (a8 : PySem.W.nsIn K mainGlobals "is_same" = some (some (.ref a_is_same)))
    (l8 : K.lookup a_is_same = some ⟨oc8, od8, .func (PySem.W.fnOf "is_same" "is_same" (defArgs s_is_same) (defBody s_is_same) (defScope s_is_same) .none kV8 dc8 pm8 an8 cd8 ct8), sl8⟩)
    (c8 : PySem.W.codeIn K cd8 "is_same" = true)
    (k8 : PySem.W.keepIn K (.ref a_is_same) = true)
    (a9 : PySem.W.nsIn K mainGlobals "stand_alike" = some (some (.ref a_stand_alike)))
    (l9 : K.lookup a_stand_alike = some ⟨oc9, od9, .func (PySem.W.fnOf "stand_alike" "stand_alike" (defArgs s_stand_alike) (defBody s_stand_alike) (defScope s_stand_alike) .none kV9 dc9 pm9 an9 cd9 ct9), sl9⟩)
    (c9 : PySem.W.codeIn K cd9 "stand_alike" = true)
    (k9 : PySem.W.keepIn K (.ref a_stand_alike) = true)
    (a10 : PySem.W.nsIn K mainGlobals "held_behind" = some (some (.ref a_held_behind)))
    (l10 : K.lookup a_held_behind = some ⟨oc10, od10, .func (PySem.W.fnOf "held_behind" "held_behind" (defArgs s_held_behind) (defBody s_held_behind) (defScope s_held_behind) .none kV10 dc10 pm10 an10 cd10 ct10), sl10⟩)
    (c10 : PySem.W.codeIn K cd10 "held_behind" = true)
    (k10 : PySem.W.keepIn K (.ref a_held_behind) = true)
    (a11 : PySem.W.nsIn K mainGlobals "_law_pool" = some (some (.ref a_pool)))
    (l11 : K.lookup a_pool = some ⟨oc11, od11, .func (PySem.W.fnOf "_law_pool" "_law_pool" (defArgs s_pool) (defBody s_pool) (defScope s_pool) .none kV11 dc11 pm11 an11 cd11 ct11), sl11⟩)
    (c11 : PySem.W.codeIn K cd11 "_law_pool" = true)
    (k11 : PySem.W.keepIn K (.ref a_pool) = true)
    (a12 : PySem.W.nsIn K mainGlobals "_law_take" = some (some (.ref a_take)))
    (l12 : K.lookup a_take = some ⟨oc12, od12, .func (PySem.W.fnOf "_law_take" "_law_take" (defArgs s_take) (defBody s_take) (defScope s_take) .none kV12 dc12 pm12 an12 cd12 ct12), sl12⟩)
    (c12 : PySem.W.codeIn K cd12 "_law_take" = true)
    (k12 : PySem.W.keepIn K (.ref a_take) = true)
    (a13 : PySem.W.nsIn K mainGlobals "_law_within" = some (some (.ref a_within)))
    (l13 : K.lookup a_within = some ⟨oc13, od13, .func (PySem.W.fnOf "_law_within" "_law_within" (defArgs s_within) (defBody s_within) (defScope s_within) .none kV13 dc13 pm13 an13 cd13 ct13), sl13⟩)
    (c13 : PySem.W.codeIn K cd13 "_law_within" = true)
    (k13 : PySem.W.keepIn K (.ref a_within) = true)
    (a14 : PySem.W.nsIn K mainGlobals "_law_abut" = some (some (.ref a_law_abut)))
    (l14 : K.lookup a_law_abut = some ⟨oc14, od14, .func (PySem.W.fnOf "_law_abut" "_law_abut" (defArgs s_law_abut) (defBody s_law_abut) (defScope s_law_abut) .none kV14 dc14 pm14 an14 cd14 ct14), sl14⟩)
    (c14 : PySem.W.codeIn K cd14 "_law_abut" = true)
    (k14 : PySem.W.keepIn K (.ref a_law_abut) = true)
    (a15 : PySem.W.nsIn K mainGlobals "_law_one_done" = some (some (.ref a_one_done)))
    (l15 : K.lookup a_one_done = some ⟨oc15, od15, .func (PySem.W.fnOf "_law_one_done" "_law_one_done" (defArgs s_one_done) (defBody s_one_done) (defScope s_one_done) .none kV15 dc15 pm15 an15 cd15 ct15), sl15⟩)
    (c15 : PySem.W.codeIn K cd15 "_law_one_done" = true)
    (k15 : PySem.W.keepIn K (.ref a_one_done) = true)
    (a16 : PySem.W.nsIn K mainGlobals "_law_moments" = some (some (.ref a_moments)))
    (l16 : K.lookup a_moments = some ⟨oc16, od16, .func (PySem.W.fnOf "_law_moments" "_law_moments" (defArgs s_moments) (defBody s_moments) (defScope s_moments) .none kV16 dc16 pm16 an16 cd16 ct16), sl16⟩)
    (c16 : PySem.W.codeIn K cd16 "_law_moments" = true)
    (k16 : PySem.W.keepIn K (.ref a_moments) = true)
    (a17 : PySem.W.nsIn K mainGlobals "_law_placed" = some (some (.ref a_placed)))
    (l17 : K.lookup a_placed = some ⟨oc17, od17, .func (PySem.W.fnOf "_law_placed" "_law_placed" (defArgs s_placed) (defBody s_placed) (defScope s_placed) .none kV17 dc17 pm17 an17 cd17 ct17), sl17⟩)
    (c17 : PySem.W.codeIn K cd17 "_law_placed" = true)
    (k17 : PySem.W.keepIn K (.ref a_placed) = true)
    (a18 : PySem.W.nsIn K mainGlobals "_law_played" = some (some (.ref a_played)))
    (l18 : K.lookup a_played = some ⟨oc18, od18, .func (PySem.W.fnOf "_law_played" "_law_played" (defArgs s_played) (defBody s_played) (defScope s_played) .none kV18 dc18 pm18 an18 cd18 ct18), sl18⟩)
    (c18 : PySem.W.codeIn K cd18 "_law_played" = true)
    (k18 : PySem.W.keepIn K (.ref a_played) = true)
    (a19 : PySem.W.nsIn K mainGlobals "_law_alike" = some (some (.ref a_alike)))
    (l19 : K.lookup a_alike = some ⟨oc19, od19, .func (PySem.W.fnOf "_law_alike" "_law_alike" (defArgs s_alike) (defBody s_alike) (defScope s_alike) .none kV19 dc19 pm19 an19 cd19 ct19), sl19⟩)
    (c19 : PySem.W.codeIn K cd19 "_law_alike" = true)
    (k19 : PySem.W.keepIn K (.ref a_alike) = true)
    (a20 : PySem.W.nsIn K mainGlobals "_law_drawn_ask" = some (some (.ref a_drawn_ask)))
    (l20 : K.lookup a_drawn_ask = some ⟨oc20, od20, .func (PySem.W.fnOf "_law_drawn_ask" "_law_drawn_ask" (defArgs s_drawn_ask) (defBody s_drawn_ask) (defScope s_drawn_ask) .none kV20 dc20 pm20 an20 cd20 ct20), sl20⟩)
    (c20 : PySem.W.codeIn K cd20 "_law_drawn_ask" = true)
    (k20 : PySem.W.keepIn K (.ref a_drawn_ask) = true)
    (a21 : PySem.W.nsIn K mainGlobals "_law_cut_pieces" = some (some (.ref a_cut_pieces)))
    (l21 : K.lookup a_cut_pieces = some ⟨oc21, od21, .func (PySem.W.fnOf "_law_cut_pieces" "_law_cut_pieces" (defArgs s_cut_pieces) (defBody s_cut_pieces) (defScope s_cut_pieces) .none kV21 dc21 pm21 an21 cd21 ct21), sl21⟩)
    (c21 : PySem.W.codeIn K cd21 "_law_cut_pieces" = true)
    (k21 : PySem.W.keepIn K (.ref a_cut_pieces) = true)
    (a22 : PySem.W.nsIn K mainGlobals "_law_history" = some (some (.ref a_history)))
    (l22 : K.lookup a_history = some ⟨oc22, od22, .func (PySem.W.fnOf "_law_history" "_law_history" (defArgs s_history) (defBody s_history) (defScope s_history) .none kV22 dc22 pm22 an22 cd22 ct22), sl22⟩)
    (c22 : PySem.W.codeIn K cd22 "_law_history" = true)
    (k22 : PySem.W.keepIn K (.ref a_history) = true)
    (a23 : PySem.W.nsIn K mainGlobals "_law_answered" = some (some (.ref a_answered)))
    (l23 : K.lookup a_answered = some ⟨oc23, od23, .func (PySem.W.fnOf "_law_answered" "_law_answered" (defArgs s_answered) (defBody s_answered) (defScope s_answered) .none kV23 dc23 pm23 an23 cd23 ct23), sl23⟩)
    (c23 : PySem.W.codeIn K cd23 "_law_answered" = true)
    (k23 : PySem.W.keepIn K (.ref a_answered) = true)
    (a24 : PySem.W.nsIn K mainGlobals "_law_bent" = some (some (.ref a_bent)))
    (l24 : K.lookup a_bent = some ⟨oc24, od24, .func (PySem.W.fnOf "_law_bent" "_law_bent" (defArgs s_bent) (defBody s_bent) (defScope s_bent) .none kV24 dc24 pm24 an24 cd24 ct24), sl24⟩)
    (c24 : PySem.W.codeIn K cd24 "_law_bent" = true)
    (k24 : PySem.W.keepIn K (.ref a_bent) = true)
    (a25 : PySem.W.nsIn K mainGlobals "_law_pieces_bent" = some (some (.ref a_pieces_bent)))
    (l25 : K.lookup a_pieces_bent = some ⟨oc25, od25, .func (PySem.W.fnOf "_law_pieces_bent" "_law_pieces_bent" (defArgs s_pieces_bent) (defBody s_pieces_bent) (defScope s_pieces_bent) .none kV25 dc25 pm25 an25 cd25 ct25), sl25⟩)
    (c25 : PySem.W.codeIn K cd25 "_law_pieces_bent" = true)
    (k25 : PySem.W.keepIn K (.ref a_pieces_bent) = true)
    (a26 : PySem.W.nsIn K mainGlobals "_law_right" = some (some (.ref a_right)))
    (l26 : K.lookup a_right = some ⟨oc26, od26, .func (PySem.W.fnOf "_law_right" "_law_right" (defArgs s_right) (defBody s_right) (defScope s_right) .none kV26 dc26 pm26 an26 cd26 ct26), sl26⟩)
    (c26 : PySem.W.codeIn K cd26 "_law_right" = true)
    (k26 : PySem.W.keepIn K (.ref a_right) = true)
    (a27 : PySem.W.nsIn K mainGlobals "law" = some (some (.ref a_law)))
    (l27 : K.lookup a_law = some ⟨oc27, od27, .func (PySem.W.fnOf "law" "law" (defArgs s_law) (defBody s_law) (defScope s_law) .none kV27 dc27 pm27 an27 cd27 ct27), sl27⟩)
    (c27 : PySem.W.codeIn K cd27 "law" = true)
    (k27 : PySem.W.keepIn K (.ref a_law) = true)
    (z_len : PySem.W.nsIn K mainGlobals "len" = some none)
    (z_all : PySem.W.nsIn K mainGlobals "all" = some none)
    (z_dict : PySem.W.nsIn K mainGlobals "dict" = some none)
    (z_list : PySem.W.nsIn K mainGlobals "list" = some none)
    (z_range : PySem.W.nsIn K mainGlobals "range" = some none)
    (z_max : PySem.W.nsIn K mainGlobals "max" = some none)
    (z_min : PySem.W.nsIn K mainGlobals "min" = some none)
    (z_isinstance : PySem.W.nsIn K mainGlobals "isinstance" = some none)
    (z_repr : PySem.W.nsIn K mainGlobals "repr" = some none)
    (z_sorted : PySem.W.nsIn K mainGlobals "sorted" = some none)
    (z_set : PySem.W.nsIn K mainGlobals "set" = some none)
    (z_enumerate : PySem.W.nsIn K mainGlobals "enumerate" = some none)
    (z_zip : PySem.W.nsIn K mainGlobals "zip" = some none)
    (z_int : PySem.W.nsIn K mainGlobals "int" = some none)
    (z_bool : PySem.W.nsIn K mainGlobals "bool" = some none)
    (z_tuple : PySem.W.nsIn K mainGlobals "tuple" = some none)
    (z_str : PySem.W.nsIn K mainGlobals "str" = some none) :
    ∃ fd : FuncData, (∀ (s : Shared) (v : Value), BindsTo s fd ⟨[v], []⟩ [("_law_script", v)]) ∧ ∀ base : Heap, K.In base → base.Ns mainGlobals mg → GD.FnOkG l.prog w K mg base 7 fa fd ["_law_script"] (spLaw K) := by
  have e := hfa.symm.trans (PySem.W.mg_of X G a27)
  cases e
  have F0 := fun_mk (st := s_rows_within) l0 c0 k0
  have F1 := fun_mk (st := s_done) l1 c1 k1
  have F2 := fun_mk (st := s_is_within) l2 c2 k2
  have F3 := fun_mk (st := s_abut) l3 c3 k3
  have F4 := fun_mk (st := s_is_timely) l4 c4 k4
  have F5 := fun_mk (st := s_events_of) l5 c5 k5
  have F6 := fun_mk (st := s_moment_of) l6 c6 k6
  have F7 := fun_mk (st := s_answers_by_moments) l7 c7 k7
  have F8 := fun_mk (st := s_is_same) l8 c8 k8
  have F9 := fun_mk (st := s_stand_alike) l9 c9 k9
  have F10 := fun_mk (st := s_held_behind) l10 c10 k10
  have F11 := fun_mk (st := s_pool) l11 c11 k11
  have F12 := fun_mk (st := s_take) l12 c12 k12
  have F13 := fun_mk (st := s_within) l13 c13 k13
  have F14 := fun_mk (st := s_law_abut) l14 c14 k14
  have F15 := fun_mk (st := s_one_done) l15 c15 k15
  have F16 := fun_mk (st := s_moments) l16 c16 k16
  have F17 := fun_mk (st := s_placed) l17 c17 k17
  have F18 := fun_mk (st := s_played) l18 c18 k18
  have F19 := fun_mk (st := s_alike) l19 c19 k19
  have F20 := fun_mk (st := s_drawn_ask) l20 c20 k20
  have F21 := fun_mk (st := s_cut_pieces) l21 c21 k21
  have F22 := fun_mk (st := s_history) l22 c22 k22
  have F23 := fun_mk (st := s_answered) l23 c23 k23
  have F24 := fun_mk (st := s_bent) l24 c24 k24
  have F25 := fun_mk (st := s_pieces_bent) l25 c25 k25
  have F26 := fun_mk (st := s_right) l26 c26 k26
  have F27 := fun_mk (st := s_law) l27 c27 k27
  have b0 := F0.binds (ps := ["kept", "low", "high"]) fun _ _ _ _ _ _ us hl => match us, hl with | [_, _, _], _ => rfl
  have b1 := F1.binds (ps := ["kept", "ask"]) fun _ _ _ _ _ _ us hl => match us, hl with | [_, _], _ => rfl
  have b2 := F2.binds (ps := ["begin", "moment", "end"]) fun _ _ _ _ _ _ us hl => match us, hl with | [_, _, _], _ => rfl
  have b3 := F3.binds (ps := ["ask", "pieces"]) fun _ _ _ _ _ _ us hl => match us, hl with | [_, _], _ => rfl
  have b4 := F4.binds (ps := ["row"]) fun _ _ _ _ _ _ us hl => match us, hl with | [_], _ => rfl
  have b5 := F5.binds (ps := ["asks"]) fun _ _ _ _ _ _ us hl => match us, hl with | [_], _ => rfl
  have b6 := F6.binds (ps := ["event"]) fun _ _ _ _ _ _ us hl => match us, hl with | [_], _ => rfl
  have b7 := F7.binds (ps := ["pairs", "asks"]) fun _ _ _ _ _ _ us hl => match us, hl with | [_, _], _ => rfl
  have b8 := F8.binds (ps := ["one", "other"]) fun _ _ _ _ _ _ us hl => match us, hl with | [_, _], _ => rfl
  have b9 := F9.binds (ps := ["pairs", "asks"]) fun _ _ _ _ _ _ us hl => match us, hl with | [_, _], _ => rfl
  have b10 := F10.binds (ps := ["pairs", "asks"]) fun _ _ _ _ _ _ us hl => match us, hl with | [_, _], _ => rfl
  have b11 := F11.binds (ps := ["_law_script", "_law_k"]) fun _ _ _ _ _ _ us hl => match us, hl with | [_, _], _ => rfl
  have b12 := F12.binds (ps := ["_law_pool_here", "_law_many"]) fun _ _ _ _ _ _ us hl => match us, hl with | [_, _], _ => rfl
  have b13 := F13.binds (ps := ["_law_rows", "_law_first", "_law_end"]) fun _ _ _ _ _ _ us hl => match us, hl with | [_, _, _], _ => rfl
  have b14 := F14.binds (ps := ["_law_bounds", "_law_pieces"]) fun _ _ _ _ _ _ us hl => match us, hl with | [_, _], _ => rfl
  have b15 := F15.binds (ps := ["_law_kept", "_law_ask"]) fun _ _ _ _ _ _ us hl => match us, hl with | [_, _], _ => rfl
  have b16 := F16.binds (ps := ["_law_row"]) fun _ _ _ _ _ _ us hl => match us, hl with | [_], _ => rfl
  have b17 := F17.binds (ps := ["_law_row"]) fun _ _ _ _ _ _ us hl => match us, hl with | [_], _ => rfl
  have b18 := F18.binds (ps := ["_law_twos", "_law_rows"]) fun _ _ _ _ _ _ us hl => match us, hl with | [_, _], _ => rfl
  have b19 := F19.binds (ps := ["_law_twos", "_law_rows"]) fun _ _ _ _ _ _ us hl => match us, hl with | [_, _], _ => rfl
  have b20 := F20.binds (ps := ["_law_pool_here", "_law_has_goings"]) fun _ _ _ _ _ _ us hl => match us, hl with | [_, _], _ => rfl
  have b21 := F21.binds (ps := ["_law_pool_here", "_law_ask", "_law_times"]) fun _ _ _ _ _ _ us hl => match us, hl with | [_, _, _], _ => rfl
  have b22 := F22.binds (ps := ["_law_pool_here", "_law_many", "_law_has_goings"]) fun _ _ _ _ _ _ us hl => match us, hl with | [_, _, _], _ => rfl
  have b23 := F23.binds (ps := ["_law_twos", "_law_rows"]) fun _ _ _ _ _ _ us hl => match us, hl with | [_, _], _ => rfl
  have b24 := F24.binds (ps := ["_law_pool_here", "_law_rows"]) fun _ _ _ _ _ _ us hl => match us, hl with | [_, _], _ => rfl
  have b25 := F25.binds (ps := ["_law_pool_here", "_law_pieces"]) fun _ _ _ _ _ _ us hl => match us, hl with | [_, _], _ => rfl
  have b26 := F26.binds (ps := ["_law_twos", "_law_rows"]) fun _ _ _ _ _ _ us hl => match us, hl with | [_, _], _ => rfl
  have b27 := F27.binds (ps := ["_law_script"]) fun _ _ _ _ _ _ us hl => match us, hl with | [_], _ => rfl
  let A : Adr := { a_rows_within := a_rows_within, a_done := a_done, a_is_within := a_is_within, a_abut := a_abut, a_is_timely := a_is_timely, a_events_of := a_events_of, a_moment_of := a_moment_of, a_answers_by_moments := a_answers_by_moments, a_is_same := a_is_same, a_stand_alike := a_stand_alike, a_held_behind := a_held_behind, a_pool := a_pool, a_take := a_take, a_within := a_within, a_law_abut := a_law_abut, a_one_done := a_one_done, a_moments := a_moments, a_placed := a_placed, a_played := a_played, a_alike := a_alike, a_drawn_ask := a_drawn_ask, a_cut_pieces := a_cut_pieces, a_history := a_history, a_answered := a_answered, a_bent := a_bent, a_pieces_bent := a_pieces_bent, a_right := a_right, a_law := fa, d_rows_within := PySem.W.fnOf "rows_within" "rows_within" (defArgs s_rows_within) (defBody s_rows_within) (defScope s_rows_within) .none kV0 dc0 pm0 an0 cd0 ct0, d_done := PySem.W.fnOf "done" "done" (defArgs s_done) (defBody s_done) (defScope s_done) .none kV1 dc1 pm1 an1 cd1 ct1, d_is_within := PySem.W.fnOf "is_within" "is_within" (defArgs s_is_within) (defBody s_is_within) (defScope s_is_within) .none kV2 dc2 pm2 an2 cd2 ct2, d_abut := PySem.W.fnOf "abut" "abut" (defArgs s_abut) (defBody s_abut) (defScope s_abut) .none kV3 dc3 pm3 an3 cd3 ct3, d_is_timely := PySem.W.fnOf "is_timely" "is_timely" (defArgs s_is_timely) (defBody s_is_timely) (defScope s_is_timely) .none kV4 dc4 pm4 an4 cd4 ct4, d_events_of := PySem.W.fnOf "events_of" "events_of" (defArgs s_events_of) (defBody s_events_of) (defScope s_events_of) .none kV5 dc5 pm5 an5 cd5 ct5, d_moment_of := PySem.W.fnOf "moment_of" "moment_of" (defArgs s_moment_of) (defBody s_moment_of) (defScope s_moment_of) .none kV6 dc6 pm6 an6 cd6 ct6, d_answers_by_moments := PySem.W.fnOf "answers_by_moments" "answers_by_moments" (defArgs s_answers_by_moments) (defBody s_answers_by_moments) (defScope s_answers_by_moments) .none kV7 dc7 pm7 an7 cd7 ct7, d_is_same := PySem.W.fnOf "is_same" "is_same" (defArgs s_is_same) (defBody s_is_same) (defScope s_is_same) .none kV8 dc8 pm8 an8 cd8 ct8, d_stand_alike := PySem.W.fnOf "stand_alike" "stand_alike" (defArgs s_stand_alike) (defBody s_stand_alike) (defScope s_stand_alike) .none kV9 dc9 pm9 an9 cd9 ct9, d_held_behind := PySem.W.fnOf "held_behind" "held_behind" (defArgs s_held_behind) (defBody s_held_behind) (defScope s_held_behind) .none kV10 dc10 pm10 an10 cd10 ct10, d_pool := PySem.W.fnOf "_law_pool" "_law_pool" (defArgs s_pool) (defBody s_pool) (defScope s_pool) .none kV11 dc11 pm11 an11 cd11 ct11, d_take := PySem.W.fnOf "_law_take" "_law_take" (defArgs s_take) (defBody s_take) (defScope s_take) .none kV12 dc12 pm12 an12 cd12 ct12, d_within := PySem.W.fnOf "_law_within" "_law_within" (defArgs s_within) (defBody s_within) (defScope s_within) .none kV13 dc13 pm13 an13 cd13 ct13, d_law_abut := PySem.W.fnOf "_law_abut" "_law_abut" (defArgs s_law_abut) (defBody s_law_abut) (defScope s_law_abut) .none kV14 dc14 pm14 an14 cd14 ct14, d_one_done := PySem.W.fnOf "_law_one_done" "_law_one_done" (defArgs s_one_done) (defBody s_one_done) (defScope s_one_done) .none kV15 dc15 pm15 an15 cd15 ct15, d_moments := PySem.W.fnOf "_law_moments" "_law_moments" (defArgs s_moments) (defBody s_moments) (defScope s_moments) .none kV16 dc16 pm16 an16 cd16 ct16, d_placed := PySem.W.fnOf "_law_placed" "_law_placed" (defArgs s_placed) (defBody s_placed) (defScope s_placed) .none kV17 dc17 pm17 an17 cd17 ct17, d_played := PySem.W.fnOf "_law_played" "_law_played" (defArgs s_played) (defBody s_played) (defScope s_played) .none kV18 dc18 pm18 an18 cd18 ct18, d_alike := PySem.W.fnOf "_law_alike" "_law_alike" (defArgs s_alike) (defBody s_alike) (defScope s_alike) .none kV19 dc19 pm19 an19 cd19 ct19, d_drawn_ask := PySem.W.fnOf "_law_drawn_ask" "_law_drawn_ask" (defArgs s_drawn_ask) (defBody s_drawn_ask) (defScope s_drawn_ask) .none kV20 dc20 pm20 an20 cd20 ct20, d_cut_pieces := PySem.W.fnOf "_law_cut_pieces" "_law_cut_pieces" (defArgs s_cut_pieces) (defBody s_cut_pieces) (defScope s_cut_pieces) .none kV21 dc21 pm21 an21 cd21 ct21, d_history := PySem.W.fnOf "_law_history" "_law_history" (defArgs s_history) (defBody s_history) (defScope s_history) .none kV22 dc22 pm22 an22 cd22 ct22, d_answered := PySem.W.fnOf "_law_answered" "_law_answered" (defArgs s_answered) (defBody s_answered) (defScope s_answered) .none kV23 dc23 pm23 an23 cd23 ct23, d_bent := PySem.W.fnOf "_law_bent" "_law_bent" (defArgs s_bent) (defBody s_bent) (defScope s_bent) .none kV24 dc24 pm24 an24 cd24 ct24, d_pieces_bent := PySem.W.fnOf "_law_pieces_bent" "_law_pieces_bent" (defArgs s_pieces_bent) (defBody s_pieces_bent) (defScope s_pieces_bent) .none kV25 dc25 pm25 an25 cd25 ct25, d_right := PySem.W.fnOf "_law_right" "_law_right" (defArgs s_right) (defBody s_right) (defScope s_right) .none kV26 dc26 pm26 an26 cd26 ct26, d_law := PySem.W.fnOf "law" "law" (defArgs s_law) (defBody s_law) (defScope s_law) .none kV27 dc27 pm27 an27 cd27 ct27 }
  have T : Txt w K mg A := { F_rows_within := F0, b_rows_within := b0, m_rows_within := PySem.W.mg_of X G a0, F_done := F1, b_done := b1, m_done := PySem.W.mg_of X G a1, F_is_within := F2, b_is_within := b2, m_is_within := PySem.W.mg_of X G a2, F_abut := F3, b_abut := b3, m_abut := PySem.W.mg_of X G a3, F_is_timely := F4, b_is_timely := b4, m_is_timely := PySem.W.mg_of X G a4, F_events_of := F5, b_events_of := b5, m_events_of := PySem.W.mg_of X G a5, F_moment_of := F6, b_moment_of := b6, m_moment_of := PySem.W.mg_of X G a6, F_answers_by_moments := F7, b_answers_by_moments := b7, m_answers_by_moments := PySem.W.mg_of X G a7, F_is_same := F8, b_is_same := b8, m_is_same := PySem.W.mg_of X G a8, F_stand_alike := F9, b_stand_alike := b9, m_stand_alike := PySem.W.mg_of X G a9, F_held_behind := F10, b_held_behind := b10, m_held_behind := PySem.W.mg_of X G a10, F_pool := F11, b_pool := b11, m_pool := PySem.W.mg_of X G a11, F_take := F12, b_take := b12, m_take := PySem.W.mg_of X G a12, F_within := F13, b_within := b13, m_within := PySem.W.mg_of X G a13, F_law_abut := F14, b_law_abut := b14, m_law_abut := PySem.W.mg_of X G a14, F_one_done := F15, b_one_done := b15, m_one_done := PySem.W.mg_of X G a15, F_moments := F16, b_moments := b16, m_moments := PySem.W.mg_of X G a16, F_placed := F17, b_placed := b17, m_placed := PySem.W.mg_of X G a17, F_played := F18, b_played := b18, m_played := PySem.W.mg_of X G a18, F_alike := F19, b_alike := b19, m_alike := PySem.W.mg_of X G a19, F_drawn_ask := F20, b_drawn_ask := b20, m_drawn_ask := PySem.W.mg_of X G a20, F_cut_pieces := F21, b_cut_pieces := b21, m_cut_pieces := PySem.W.mg_of X G a21, F_history := F22, b_history := b22, m_history := PySem.W.mg_of X G a22, F_answered := F23, b_answered := b23, m_answered := PySem.W.mg_of X G a23, F_bent := F24, b_bent := b24, m_bent := PySem.W.mg_of X G a24, F_pieces_bent := F25, b_pieces_bent := b25, m_pieces_bent := PySem.W.mg_of X G a25, F_right := F26, b_right := b26, m_right := PySem.W.mg_of X G a26, F_law := F27, b_law := b27, m_law := PySem.W.mg_of X G a27, n_len := PySem.W.mg_none_of X G z_len, n_all := PySem.W.mg_none_of X G z_all, n_dict := PySem.W.mg_none_of X G z_dict, n_list := PySem.W.mg_none_of X G z_list, n_range := PySem.W.mg_none_of X G z_range, n_max := PySem.W.mg_none_of X G z_max, n_min := PySem.W.mg_none_of X G z_min, n_isinstance := PySem.W.mg_none_of X G z_isinstance, n_repr := PySem.W.mg_none_of X G z_repr, n_sorted := PySem.W.mg_none_of X G z_sorted, n_set := PySem.W.mg_none_of X G z_set, n_enumerate := PySem.W.mg_none_of X G z_enumerate, n_zip := PySem.W.mg_none_of X G z_zip, n_int := PySem.W.mg_none_of X G z_int, n_bool := PySem.W.mg_none_of X G z_bool, n_tuple := PySem.W.mg_none_of X G z_tuple, n_str := PySem.W.mg_none_of X G z_str }
  exact ⟨A.d_law, fun s v => .of_eq rfl, fun base _ _ => ok_law T⟩
theorem walk {l : PySem.W.OpenLaw} {q : Program} {loose : List Str} {XP : (Str → Option Value) → Heap → Prop} {YP : World → Heap → Prop} {d : DefRec} {K : Params → PySem.W.Frag} (hn : l.most = some 63) (hdf : d.params.defaults = [])
    (hY : ∀ (w : World) (h : Heap), YP w h → (K w.params).In h)
    (F : ∀ (w : World) (mg : Str → Option Value) (fa : Addr) (h : Heap), (K w.params).In h → h.Ns mainGlobals mg → mg d.name = some (.ref fa) →
      ∃ fd : FuncData, (∀ (s : Shared) (u : Value), BindsTo s fd ⟨[u], []⟩ [("_law_script", u)]) ∧ ∀ base : Heap, (K w.params).In base → base.Ns mainGlobals mg → GD.FnOkG l.prog w (K w.params) mg base 7 fa fd ["_law_script"] (spLaw (K w.params))) :
    PySem.W.WalkO q loose XP YP l.row.toRowW d [] (fun f vs => PySem.call f vs) :=
  GD.walk_ofG (n := 63) (k := 7) (x := "_law_script") (sp := fun w => spLaw (K w.params)) hn (by decide) hdf ⟨rfl, by decide, by decide⟩ hY F (fun _ _ a ns hl _ hS => ⟨a, ns, rfl, hS, hl, fun _ => rfl⟩)
end LawK67
open PySem PySem.W PyProof.Rows in
set_option maxRecDepth 100000 in
set_option maxHeartbeats 0 in
theorem PySem.Challenge.cw_deltaboughs_k67_asks_that_stand_alike_holds : PySem.Challenge.rw_deltaboughs_k67_asks_that_stand_alike.Holds := by
  w_on; o_law; k_head; (case hw => w_witness2)
  k_fill
  refine LawK67.walk (l := PySem.Challenge.rw_deltaboughs_k67_asks_that_stand_alike) rfl rfl (fun w h Y => PySem.W.kIn_of Y) ?F
  case F =>
    intro w mg fa h KX G hmg
    refine' LawK67.all_mk KX G hmg ?a0 ?l0 ?c0 ?k0 ?a1 ?l1 ?c1 ?k1 ?a2 ?l2 ?c2 ?k2 ?a3 ?l3 ?c3 ?k3 ?a4 ?l4 ?c4 ?k4 ?a5 ?l5 ?c5 ?k5 ?a6 ?l6 ?c6 ?k6 ?a7 ?l7 ?c7 ?k7 ?a8 ?l8 ?c8 ?k8 ?a9 ?l9 ?c9 ?k9 ?a10 ?l10 ?c10 ?k10 ?a11 ?l11 ?c11 ?k11 ?a12 ?l12 ?c12 ?k12 ?a13 ?l13 ?c13 ?k13 ?a14 ?l14 ?c14 ?k14 ?a15 ?l15 ?c15 ?k15 ?a16 ?l16 ?c16 ?k16 ?a17 ?l17 ?c17 ?k17 ?a18 ?l18 ?c18 ?k18 ?a19 ?l19 ?c19 ?k19 ?a20 ?l20 ?c20 ?k20 ?a21 ?l21 ?c21 ?k21 ?a22 ?l22 ?c22 ?k22 ?a23 ?l23 ?c23 ?k23 ?a24 ?l24 ?c24 ?k24 ?a25 ?l25 ?c25 ?k25 ?a26 ?l26 ?c26 ?k26 ?a27 ?l27 ?c27 ?k27 ?z_len ?z_all ?z_dict ?z_list ?z_range ?z_max ?z_min ?z_isinstance ?z_repr ?z_sorted ?z_set ?z_enumerate ?z_zip ?z_int ?z_bool ?z_tuple ?z_str
    (case a0 => k_is)
    (case l0 => k_is)
    (case c0 => k_is)
    (case k0 => k_is)
    (case a1 => k_is)
    (case l1 => k_is)
    (case c1 => k_is)
    (case k1 => k_is)
    (case a2 => k_is)
    (case l2 => k_is)
    (case c2 => k_is)
    (case k2 => k_is)
    (case a3 => k_is)
    (case l3 => k_is)
    (case c3 => k_is)
    (case k3 => k_is)
    (case a4 => k_is)
    (case l4 => k_is)
    (case c4 => k_is)
    (case k4 => k_is)
    (case a5 => k_is)
    (case l5 => k_is)
    (case c5 => k_is)
    (case k5 => k_is)
    (case a6 => k_is)
    (case l6 => k_is)
    (case c6 => k_is)
    (case k6 => k_is)
    (case a7 => k_is)
    (case l7 => k_is)
    (case c7 => k_is)
    (case k7 => k_is)
    (case a8 => k_is)
    (case l8 => k_is)
    (case c8 => k_is)
    (case k8 => k_is)
    (case a9 => k_is)
    (case l9 => k_is)
    (case c9 => k_is)
    (case k9 => k_is)
    (case a10 => k_is)
    (case l10 => k_is)
    (case c10 => k_is)
    (case k10 => k_is)
    (case a11 => k_is)
    (case l11 => k_is)
    (case c11 => k_is)
    (case k11 => k_is)
    (case a12 => k_is)
    (case l12 => k_is)
    (case c12 => k_is)
    (case k12 => k_is)
    (case a13 => k_is)
    (case l13 => k_is)
    (case c13 => k_is)
    (case k13 => k_is)
    (case a14 => k_is)
    (case l14 => k_is)
    (case c14 => k_is)
    (case k14 => k_is)
    (case a15 => k_is)
    (case l15 => k_is)
    (case c15 => k_is)
    (case k15 => k_is)
    (case a16 => k_is)
    (case l16 => k_is)
    (case c16 => k_is)
    (case k16 => k_is)
    (case a17 => k_is)
    (case l17 => k_is)
    (case c17 => k_is)
    (case k17 => k_is)
    (case a18 => k_is)
    (case l18 => k_is)
    (case c18 => k_is)
    (case k18 => k_is)
    (case a19 => k_is)
    (case l19 => k_is)
    (case c19 => k_is)
    (case k19 => k_is)
    (case a20 => k_is)
    (case l20 => k_is)
    (case c20 => k_is)
    (case k20 => k_is)
    (case a21 => k_is)
    (case l21 => k_is)
    (case c21 => k_is)
    (case k21 => k_is)
    (case a22 => k_is)
    (case l22 => k_is)
    (case c22 => k_is)
    (case k22 => k_is)
    (case a23 => k_is)
    (case l23 => k_is)
    (case c23 => k_is)
    (case k23 => k_is)
    (case a24 => k_is)
    (case l24 => k_is)
    (case c24 => k_is)
    (case k24 => k_is)
    (case a25 => k_is)
    (case l25 => k_is)
    (case c25 => k_is)
    (case k25 => k_is)
    (case a26 => k_is)
    (case l26 => k_is)
    (case c26 => k_is)
    (case k26 => k_is)
    (case a27 => k_is)
    (case l27 => k_is)
    (case c27 => k_is)
    (case k27 => k_is)
    (case z_len => k_is)
    (case z_all => k_is)
    (case z_dict => k_is)
    (case z_list => k_is)
    (case z_range => k_is)
    (case z_max => k_is)
    (case z_min => k_is)
    (case z_isinstance => k_is)
    (case z_repr => k_is)
    (case z_sorted => k_is)
    (case z_set => k_is)
    (case z_enumerate => k_is)
    (case z_zip => k_is)
    (case z_int => k_is)
    (case z_bool => k_is)
    (case z_tuple => k_is)
    (case z_str => k_is)
