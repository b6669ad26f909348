import PyProof.Rows.All
import Wide.All
import OpenK.AllK
import Wide.FinOn
import PyProof.RulesRaise
import PyProof.FactsTree
import PyProof.ExcClass
import PyProof.InstStoreFacts
import PyProof.ExcBaseAll.LookupError
import HandS.Exc
import HandS.ExcInit
import HandS.Words
import HandS.HeadWalk
import HandS.ExcOwn
import HandS.ExcValue
import HandS.ExcIs
import HandS.ExcField
import KE.KIsAll
import KE.KExcIs
import HandS.ForMost
import HandS.IsInst
import HandS.TupAny
import HandS.TupMul
import HandS.Style
import HandS.Conv
import HandS.Nested
import PyProof.Rows.IntBool
import PyProof.TwoTypesSub
import KE.KUnpackStar
import KE.KRevSl
import HandS.ReplaceLit
import HandS.Dict
import PyProof.Draws
import PyProof.EnumMake
import PyProof.TupleIter
import KE.GoesMore
import HandS.More
import KE.GoesZip
import KE.GoesEnum
import KE.KDictZip
import PyProof.WalksMore
import PyProof.ListNew
import HandS.Ends
import HandS.EndTab
import KE.KNestM
import HandS.Head0
import HandS.Head1
import HandS.Head2
import HandS.HeadHook1
import HandS.HeadHook2
import HandS.HeadHook3
import HandS.HeadHook4
import HandS.Codes
import PyProof.StrLawsRepr
import PyProof.FitsInt
import PyProof.Rows.StrCase
import PySem.Challenge.RW_kindsbyworth_k06_refusals_made
set_option Elab.async false
set_option linter.all false
set_option maxRecDepth 100000
set_option maxHeartbeats 0
/-! MX1: own exception classes over ValueError or KeyError. -/
namespace MX
open PySem PySem.W PySem.Calls PyProof.Rows
structure InitF (B initId : String) : Prop where
  slot : Slot B "__init__" initId
  entry : entryFor table initId = some Builtin.«BaseException.__init__»
  split : splitId initId = some (B, "__init__")
  kind : builtinKind initId = some .slot
  row : Manifest.signature? initId = some ⟨.positional, "*", B, .self, [⟨"args", .varPos, false⟩]⟩
  star : (B != "*") = true
theorem init_VE : InitF "ValueError" "ValueError.__init__" :=
  ⟨F.excBase_ValueError.init, F.excBase_ValueError.initEntry, F.excBase_ValueError.initSplit, F.excBase_ValueError.initKind, F.excBase_ValueError.initRow, F.excBase_ValueError.noStar⟩
theorem init_KE : InitF "KeyError" "KeyError.__init__" where
  slot := .of (owner := "KeyError") (n := "__init__") (by rw [typeLookup_type, builtinLookup_eq_fast]; kernel_rfl) (by decide +kernel) (by decide +kernel) (by decide +kernel)
    (by first | exact .inl (by decide +kernel) | exact .inr (by decide +kernel)) (by rw [isSubtype_type]; kernel_rfl)
  entry := entryFor_alias (id' := "BaseException.__init__") (by rw [fastTable_eq_tree]; kernel_rfl) (by first | rfl | decide +kernel) (by decide +kernel) (by rw [fastTable_eq_tree]; kernel_rfl)
  split := by kernel_rfl
  kind := by kernel_rfl
  row := by kernel_rfl
  star := by decide +kernel
abbrev tlVE : List Value := [.type "ValueError", .type "Exception", .type "BaseException", .type "object"]
abbrev tlKE : List Value := [.type "KeyError", .type "LookupError", .type "Exception", .type "BaseException", .type "object"]
theorem pass_VE (self : Value) : refuseLoop self "__setattr__" tlVE = pure () := F.store_ValueError.passes self
theorem pass_KE (self : Value) : refuseLoop self "__setattr__" tlKE = pure () := by kernel_rfl
end MX

/-! MX2: such a class called; its base's __init__. -/
namespace MX
open PySem PySem.W PySem.Calls PyProof.Rows Builtin Builtin.ObjectAttr
/-- own classes, then tl -/
def refsT (tl : List Value) : List Value → Bool
  | .ref _ :: r => refsT tl r
  | l => l == tl
structure Kd (tl : List Value) (newId initId B nB nI : String) (bmN : List Value) : Prop where
  new : ExcBaseFacts nB newId nI bmN
  ini : InitF B initId
  pass : ∀ self, refuseLoop self "__setattr__" tl = pure ()
  hB : tl.contains (.type B) = true
  hN : tl.contains (.type nB) = true
  noA : tl.contains (.type "AttributeError") = false
  noN : tl.contains (.type "NameError") = false
  obj : tl.contains (.type "object") = true
  ne : tl ≠ []
theorem kd_VE : Kd tlVE "ValueError.__new__" "ValueError.__init__" "ValueError" "ValueError" "ValueError.__init__" tlVE :=
  ⟨F.excBase_ValueError, init_VE, pass_VE, by decide +kernel, by decide +kernel, by decide +kernel, by decide +kernel, by decide +kernel, nofun⟩
theorem kd_KE : Kd tlKE "LookupError.__new__" "KeyError.__init__" "KeyError" "LookupError" "LookupError.__init__" [.type "LookupError", .type "Exception", .type "BaseException", .type "object"] :=
  ⟨F.excBase_LookupError, init_KE, pass_KE, by decide +kernel, by decide +kernel, by decide +kernel, by decide +kernel, by decide +kernel, nofun⟩
theorem refsT_two {tl : List Value} (l : List Value) (e : refsT tl l = true) : (∃ c r, l = .ref c :: r ∧ refsT tl r = true) ∨ l = tl := by
  cases l with
  | nil => exact .inr (beq_iff_eq.mp e)
  | cons a r =>
    cases a with
    | ref c => exact .inl ⟨c, r, rfl, e⟩
    | _ => exact .inr (beq_iff_eq.mp e)
theorem refsT_pass {tl : List Value} (h : ∀ self, refuseLoop self "__setattr__" tl = pure ()) (self : Value) : ∀ l : List Value, refsT tl l = true → refuseLoop self "__setattr__" l = pure () := by
  intro l
  induction l with
  | nil =>
    intro e
    rcases refsT_two [] e with ⟨c, r, q, _⟩ | q
    · cases q
    · rw [q]; exact h self
  | cons v l ih =>
    intro e
    rcases refsT_two (v :: l) e with ⟨c, r, q, e2⟩ | q
    · cases q
      rw [refuseLoop_ref]
      exact ih e2
    · rw [q]; exact h self
theorem refsT_has {tl : List Value} (Y : String) : ∀ l : List Value, refsT tl l = true → l.contains (.type Y) = tl.contains (.type Y) := by
  intro l
  induction l with
  | nil =>
    intro e
    rcases refsT_two [] e with ⟨c, r, q, _⟩ | q
    · cases q
    · rw [q]
  | cons v l ih =>
    intro e
    rcases refsT_two (v :: l) e with ⟨c, r, q, e2⟩ | q
    · cases q
      rw [List.contains_cons, ih e2]
      rfl
    · rw [q]
theorem refsT_some {tl : List Value} (n : tl ≠ []) {l : List Value} (e : refsT tl l = true) : l.isEmpty = false := by
  cases l with
  | nil =>
    rcases refsT_two [] e with ⟨c, r, q, _⟩ | q
    · cases q
    · exact absurd q.symm n
  | cons _ _ => rfl
abbrev exN (C t : Addr) : Obj := { cls := .ref C, data := .fields #[.ref t, .none, .none, .none, .bool false, .none] }
section
variable {M : Model} {A : Around} {E : Value → Shared → Prop} {hh : Heap} {gg : Array GenState} {dr : Drawn} {tk : Nat} {o5 : OsState}
variable {nm q : Str} {C N : Addr} {bs bm bmN tl : List Value} {hdct : Bool} {sn : List Str} {sub : List Value} {ab : Bool} {col : Option Bool} {dd : Option Addr} {k0 k1 k2 k3 k5 : Option Value} {newId initId B nB nI : String}
theorem new_check (K : Kd tl newId initId B nB nI bmN) (hT : refsT tl bm = true) {us : List Value} {Q : Unit → Shared → Prop}
    (hC : hh.get? C = some (excClassObj nm q C N bs bm hdct sn sub ab col dd k0 k1 k2 k3 k5 newId)) (fin : Q () ⟨hh, gg, dr, tk, o5⟩) : wpAny M A (checkBuiltinCall newId ⟨.ref C :: us, []⟩) Q E ⟨hh, gg, dr, tk, o5⟩ := by
  have inB : (Value.ref C :: bm).contains (.type nB) = true := by rw [List.contains_cons, refsT_has nB bm hT, K.hN, Bool.or_true]
  have noStar := K.new.noStar
  simp only [checkBuiltinCall, K.new.newKind, K.new.newSplit, K.new.newRow]
  repeat (first | refine wpAny_loadPart_at hC ?_ | (refine wpAny_isSubtype_exc hC ?_; rw [inB]) | refine wpAny_staticBase_exc hC ?_ | refine wpAny_madeBy_exc hC ?_ | simp only [bne_self_eq_false, Bool.false_eq_true, if_false] | wp_step)
  exact fin
theorem init_check (K : Kd tl newId initId B nB nI bmN) (hT : refsT tl bm = true) {e : Addr} {oe : Obj} {us : List Value} {Q : Unit → Shared → Prop}
    (hC : hh.get? C = some (excClassObj nm q C N bs bm hdct sn sub ab col dd k0 k1 k2 k3 k5 newId)) (he : hh.get? e = some oe) (ce : oe.cls = .ref C) (fin : Q () ⟨hh, gg, dr, tk, o5⟩) :
    wpAny M A (checkBuiltinCall initId ⟨.ref e :: us, []⟩) Q E ⟨hh, gg, dr, tk, o5⟩ := by
  have inB : (Value.ref C :: bm).contains (.type B) = true := by rw [List.contains_cons, refsT_has B bm hT, K.hB, Bool.or_true]
  have noStar := K.ini.star
  simp only [checkBuiltinCall, K.ini.kind, K.ini.split, K.ini.row]
  repeat (first | (with_reducible refine wpAny_loadPart_at he ?_; rw [ce]) | with_reducible refine wpAny_loadPart_at hC ?_ | (with_reducible refine wpAny_isSubtype_exc hC ?_; rw [inB]) | wp_step)
  refine wpAny_onRaise ?_
  have ok : ∀ (x y : String) (n : Nat), Bind.check ⟨.positional, "*", B, .self, [⟨"args", .varPos, false⟩]⟩ x y n (List.map (fun p => p.fst) ({ pos := Value.ref e :: us } : Args).kw) = pure () := fun x y n => check_star_args _ _ _ _ _ _
  rw [ok]
  exact wpAny_pure fin
end
section
variable {prog : Program} {w : World} {A : Around} {E : Value → Shared → Prop} {R : Result → Shared → Prop} {hh : Heap} {gg : Array GenState} {dr : Drawn} {tk : Nat} {o5 : OsState}
variable {nm q : Str} {C N : Addr} {bs bm bmN tl : List Value} {hdct : Bool} {sn : List Str} {sub : List Value} {ab : Bool} {col : Option Bool} {dd : Option Addr} {k0 k1 k2 k3 k5 : Option Value} {newId initId B nB nI : String}
theorem new_runs (K : Kd tl newId initId B nB nI bmN) (hT : refsT tl bm = true) {us : List Value} (hC : hh.get? C = some (excClassObj nm q C N bs bm hdct sn sub ab col dd k0 k1 k2 k3 k5 newId))
    (fin : R (.ok (.ret (.ref (hh.objs.size + 1)))) ⟨(hh.push { cls := .type "tuple", data := .seq us.toArray }).push (exN C hh.objs.size), gg, dr, tk, o5⟩) (hl : us.length ≤ sizeLine) :
    codeAny (model prog w) A (.builtin newId ⟨.ref C :: us, []⟩) R ⟨hh, gg, dr, tk, o5⟩ := by
  have hends := K.new.ends
  have inB : (Value.ref C :: bm).contains (.type nB) = true := by rw [List.contains_cons, refsT_has nB bm hT, K.hN, Bool.or_true]
  have noA : (Value.ref C :: bm).contains (.type "AttributeError") = false := by rw [List.contains_cons, refsT_has "AttributeError" bm hT, K.noA]; rfl
  have noN : (Value.ref C :: bm).contains (.type "NameError") = false := by rw [List.contains_cons, refsT_has "NameError" bm hT, K.noN]; rfl
  refine codeAny_builtinAt K.new.entry ?_
  unfold Builtin.«BaseException.__new__»
  refine PySem.wpAt_bind ?_
  show PySem.wpAt _ _ _ (stack >>= _) _ _ _
  refine PySem.wpAt_bind (PySem.wpAt_stack fun p1 p2 => PySem.wpAt_of_wpAny ?_)
  wp_walk
  refine PySem.wpAt_of_wpAny ?_
  rw [K.new.owner]
  repeat (first | with_reducible refine wpAny_madeHere_exc K.new.canon hC ?_ | with_reducible refine wpAny_loadPart_at hC ?_ | (with_reducible refine wpAny_isSubtype_exc hC ?_; first | rw [inB] | rw [noA] | rw [noN]) | wp_step)
  show R _ _
  rw [Heap.size_push]
  exact fin
theorem type_runs (K : Kd tl newId initId B nB nI bmN) (hT : refsT tl bm = true) {us : List Value} {fI : Addr} {Q : Fin → Shared → Prop}
    (hC : hh.get? C = some (excClassObj nm q C N bs bm hdct sn sub ab col dd k0 k1 k2 k3 k5 newId))
    (li : W.Looks (model prog w) hh (typeLookup (.ref C) "__init__") (some (.ref fI))) (lb : ∀ self, W.Looks (model prog w) hh (bindSpecial (.ref fI) self) (.ref fI, [self])) (hl : us.length ≤ sizeLine)
    (run : codeAny (model prog w) A (.call (.ref fI) ⟨.ref (hh.objs.size + 1) :: us, []⟩)
      (fun r s2 => match r with | .ok (.ret v) => v = .none ∧ Q (.done (.ret (.ref (hh.objs.size + 1)))) s2 | .ok _ => False | .error e => E e s2)
      ⟨(hh.push (W.kdv_tup us)).push (exN C hh.objs.size), gg, dr, tk, o5⟩) :
    wpAny (model prog w) A (Builtin.«type.__call__» ⟨.ref C :: us, []⟩) Q E ⟨hh, gg, dr, tk, o5⟩ := by
  repeat (first | with_reducible refine wpAny_loadPart_at hC ?_ | with_reducible refine wpAny_madeBy_exc hC ?_ | wp_step)
  refine codeAny_call_builtin_code (Code.quiet_builtin _ K.new.quiet) (new_check K hT hC ?_)
  refine new_runs K hT hC ?_ hl
  show wpAny _ _ _ _ _ _
  have kp : ∀ b o, hh.get? b = some o → ((hh.push (W.kdv_tup us)).push (exN C hh.objs.size)).get? b = some o := fun b o e => Heap.get?_push_of_some _ (Heap.get?_push_of_some _ e)
  have hC2 := kp _ _ hC
  have hx : ((hh.push (W.kdv_tup us)).push (exN C hh.objs.size)).get? (hh.objs.size + 1) = some (exN C hh.objs.size) := by heap_get
  have inC : (Value.ref C :: bm).contains (.ref C) = true := by simp
  have l1 := li.keeps kp
  have l2 := (lb (.ref (hh.objs.size + 1))).keeps kp
  unfold isInstance
  repeat (first | with_reducible refine wpAny_loadPart_at hx ?_ | (with_reducible refine wpAny_isSubtype_exc hC2 ?_; rw [inC]) | wp_step)
  show wpAny _ _ (typeLookup (.ref C) _) _ _ _
  refine l1.at ?_
  refine wpAny_holding (wpAny_bind (l2.at ?_))
  refine wpAny_bind (wpAny_call (codeAny_mono run fun r s2 z => ?_))
  rcases r with e | (v | _ | _ | _) <;> first | exact z | exact z.elim | skip
  obtain ⟨rfl, z⟩ := z
  first
    | exact wpAny_pure (wpAny_pure z)
    | (wp_walk; exact z)
theorem cls_call (K : Kd tl newId initId B nB nI bmN) (hT : refsT tl bm = true) {us : List Value} {fI : Addr}
    (hC : hh.get? C = some (excClassObj nm q C N bs bm hdct sn sub ab col dd k0 k1 k2 k3 k5 newId))
    (li : W.Looks (model prog w) hh (typeLookup (.ref C) "__init__") (some (.ref fI))) (lb : ∀ self, W.Looks (model prog w) hh (bindSpecial (.ref fI) self) (.ref fI, [self])) (hl : us.length ≤ sizeLine)
    (run : codeAny (model prog w) (A.under (.builtin "type.__call__" ⟨.ref C :: us, []⟩)) (.call (.ref fI) ⟨.ref (hh.objs.size + 1) :: us, []⟩) (W.InitBack (hh.objs.size + 1) R)
      ⟨(hh.push (W.kdv_tup us)).push (exN C hh.objs.size), gg, dr, tk, o5⟩) :
    codeAny (model prog w) A (.call (.ref C) ⟨us, []⟩) R ⟨hh, gg, dr, tk, o5⟩ := by
  have e1 := tc_lookup
  have e2 := tc_bind (.ref C)
  have isT : (⟨hh, gg, dr, tk, o5⟩ : Shared).TypeIs (.ref C) "type" := ⟨_, hC, rfl⟩
  refine codeAny_of_tree ?_
  show wpAny _ _ (callAny (.ref C) _) _ _ _
  repeat (any_goals (first | assumption | with_reducible refine wpAny_loadPart_at hC ?_ | wp_step))
  refine ⟨rfl, ?_⟩
  refine codeAny_call_builtin_at (Code.quiet_builtin _ (by decide +kernel)) entry_typeCall (wpAny_check_type_call_sub hC (type_runs K hT hC li lb hl ?_))
  refine codeAny_mono run fun r s2 z => ?_
  rcases r with e | (v | _ | _ | _) <;> exact z
/-- the base's __init__(e, ..) -/
theorem init_runs (K : Kd tl newId initId B nB nI bmN) (hT : refsT tl bm = true) {e t0 : Addr} {us : List Value}
    (hC : hh.get? C = some (excClassObj nm q C N bs bm hdct sn sub ab col dd k0 k1 k2 k3 k5 newId)) (he : hh.get? e = some (exN C t0)) (hl : us.length ≤ sizeLine)
    (fin : ∀ h2 t1, (∀ b o, b ≠ e → hh.get? b = some o → h2.get? b = some o) → h2.get? e = some (exN C t1) → R (.ok (.ret .none)) ⟨h2, gg, dr, tk, o5⟩) :
    codeAny (model prog w) A (.call (.builtin initId) ⟨.ref e :: us, []⟩) R ⟨hh, gg, dr, tk, o5⟩ := by
  refine codeAny_call_builtin K.ini.slot.plain K.ini.entry (init_check K hT hC he rfl ?_)
  wp_walk
  refine fin _ hh.objs.size (fun b o nb ho => ?_) ?_
  · rw [Heap.get?_update_other _ _ (Ne.symm nb)]
    exact Heap.get?_push_of_some _ ho
  · rw [Heap.get?_update_self _ (Heap.get?_push_of_some _ he) rfl]
    rfl
end
end MX

/-! MX3: fields of an exception that is being made. -/
namespace MX
open PySem PySem.W PySem.Calls PyProof.Rows Builtin Builtin.ObjectAttr
section
variable {prog : Program} {w : World} {A : Around} {E : Value → Shared → Prop} {R : Result → Shared → Prop} {hp : Heap} {gg : Array GenState} {dr : Drawn} {tk : Nat} {o5 : OsState}
variable {tl : List Value}
/-- the first field: a dict is made -/
theorem set_first {Kf : W.Frag} {name : Str} {tn : Tok} {v : Value} {x C : Addr} {fv : Array Value} {cd : ClassData} (hps : ∀ self, refuseLoop self "__setattr__" tl = pure ()) (hob : tl.contains (.type "object") = true) (hne : tl ≠ [])
    (X : Kf.In hp) (hx : hp.get? x = some { cls := .ref C, data := .fields fv }) (hcd : W.clsIn Kf C = some cd) (hm : refsT tl cd.mro = true) (hh : cd.hasDict = true) (ha : W.findIn Kf (.ref C) name = some none)
    (fin : ∀ h2 tk2 dx, (∀ b o, b ≠ x → hp.get? b = some o → h2.get? b = some o) → hp.objs.size ≤ dx → dx ≠ x → h2.get? x = some { cls := .ref C, dict := some dx, data := .fields fv } →
      h2.Ns1 dx (fun y => if y = name then some v else none) → R (.ok (.ret .none)) ⟨h2, gg, dr, tk2, o5⟩) :
    codeAny (model prog w) A (.call (.builtin "object.__setattr__") ⟨[.ref x, .str name tn, v], []⟩) R ⟨hp, gg, dr, tk, o5⟩ := by
  have J : W.InstAt hp x { cls := .ref C, data := .fields fv } C none := ⟨hx, rfl, rfl, trivial⟩
  have SF := F.store_object
  have nemp := refsT_some hne hm
  have isObj : cd.mro.contains (.type "object") = true := (refsT_has "object" _ hm).trans hob
  have xs : x ≠ hp.objs.size := Nat.ne_of_lt (Heap.lt_size hx)
  have sub : W.Looks (model prog w) hp (isInstance (.ref x) (.type "object")) true := J.type.andThen (W.looks_mroIn X (by unfold W.mroIn; rw [hcd, Option.bind_some, if_neg (by rw [nemp]; decide), isObj]))
  refine codeAny_call_builtin SF.slot.plain SF.entry (@W.check_slot (model prog w) _ _ ⟨hp, gg, dr, tk, o5⟩ "object.__setattr__" "object" "__setattr__" (.ref x) [.str name tn, v] [] _ SF.kind SF.split sub (SF.args (.ref x) (.str name tn) v) ?_)
  have lmro : W.Looks (model prog w) hp (mroOf (.ref C)) cd.mro := (W.looks_clsIn X hcd).andThen .now
  have ltak : W.Looks (model prog w) hp (storeTaker? none) none := .now
  have lcls : W.Looks (model prog w) hp (classData C) cd := W.looks_clsIn X hcd
  rw [W.osa_eq, refuse_eq]
  refine wpAny_bind (wpAny_bind (J.type.at (wpAny_bind (lmro.at ?_))))
  rw [refsT_pass hps _ _ hm]
  refine wpAny_pure (wpAny_bind (J.type.at (wpAny_bind ((W.looks_findIn X ha).at (wpAny_bind (ltak.at ?_))))))
  show wpAny _ _ (storeInOwnDict (.ref x) (.ref C) (.str name tn) name v false) _ _ _
  obtain ⟨n1, n2, n3, n4, n5, hdd, n7, n8, n9, n10, n11⟩ := cd
  dsimp only at hh
  subst hh
  unfold storeInOwnDict ownDictForStores
  repeat (first | with_reducible refine HandSPX.store_in_new ?_ ?_ | with_reducible refine wpAny_loadPart_at hx ?_ | with_reducible refine lcls.at ?_ | wp_step)
  · exact ⟨_, #[], _, (Heap.get?_update_ne _ _ _ _ xs.symm).trans (Heap.get?_push_at rfl rfl), rfl, fun e he => absurd he (by simp), fun _ => rfl⟩
  · intro h2 tk2 hn2 hs
    have hx1 : (hp.push { cls := .type "dict", data := .dict #[] }).get? x = some { cls := .ref C, data := .fields fv } := Heap.get?_push_of_some _ hx
    refine fin h2 tk2 hp.objs.size (fun b o nb ho => ?_) (Nat.le_refl _) xs.symm ?_ hn2
    · exact (hs.2 b (Nat.ne_of_lt (Heap.lt_size ho))).trans ((Heap.get?_update_ne _ _ _ _ nb).trans (Heap.get?_push_of_some _ ho))
    · exact (hs.2 x xs).trans (Heap.get?_update_self _ hx1 rfl)
/-- a further one -/
theorem set_more {Kf : W.Frag} {name : Str} {tn : Tok} {v : Value} {x C dx : Addr} {fv : Array Value} {cd : ClassData} {m0 : Str → Option Value} {nl : List Str} (hps : ∀ self, refuseLoop self "__setattr__" tl = pure ()) (hob : tl.contains (.type "object") = true) (hne : tl ≠ [])
    (X : Kf.In hp) (hx : hp.get? x = some { cls := .ref C, dict := some dx, data := .fields fv }) (hns : hp.Ns1 dx m0) (hw : Within m0 nl) (hz : nl.length ≤ 1000) (hcd : W.clsIn Kf C = some cd) (hm : refsT tl cd.mro = true) (hh : cd.hasDict = true)
    (ha : W.findIn Kf (.ref C) name = some none)
    (fin : ∀ h2 tk2, (∀ b o, b ≠ dx → hp.get? b = some o → h2.get? b = some o) → h2.Ns1 dx (fun y => if y = name then some v else m0 y) → R (.ok (.ret .none)) ⟨h2, gg, dr, tk2, o5⟩) :
    codeAny (model prog w) A (.call (.builtin "object.__setattr__") ⟨[.ref x, .str name tn, v], []⟩) R ⟨hp, gg, dr, tk, o5⟩ := by
  obtain ⟨oD, q1, q2, hoD, q3, q4⟩ := hns.count hw
  have J : W.InstAt hp x { cls := .ref C, dict := some dx, data := .fields fv } C (some oD) := ⟨hx, rfl, rfl, hoD⟩
  have SF := F.store_object
  have nemp := refsT_some hne hm
  have isObj : cd.mro.contains (.type "object") = true := (refsT_has "object" _ hm).trans hob
  have sub : W.Looks (model prog w) hp (isInstance (.ref x) (.type "object")) true := J.type.andThen (W.looks_mroIn X (by unfold W.mroIn; rw [hcd, Option.bind_some, if_neg (by rw [nemp]; decide), isObj]))
  refine codeAny_call_builtin SF.slot.plain SF.entry (@W.check_slot (model prog w) _ _ ⟨hp, gg, dr, tk, o5⟩ "object.__setattr__" "object" "__setattr__" (.ref x) [.str name tn, v] [] _ SF.kind SF.split sub (SF.args (.ref x) (.str name tn) v) ?_)
  have lmro : W.Looks (model prog w) hp (mroOf (.ref C)) cd.mro := (W.looks_clsIn X hcd).andThen .now
  have ltak : W.Looks (model prog w) hp (storeTaker? none) none := .now
  have lcls : W.Looks (model prog w) hp (classData C) cd := W.looks_clsIn X hcd
  rw [W.osa_eq, refuse_eq]
  refine wpAny_bind (wpAny_bind (J.type.at (wpAny_bind (lmro.at ?_))))
  rw [refsT_pass hps _ _ hm]
  refine wpAny_pure (wpAny_bind (J.type.at (wpAny_bind ((W.looks_findIn X ha).at (wpAny_bind (ltak.at ?_))))))
  show wpAny _ _ (storeInOwnDict (.ref x) (.ref C) (.str name tn) name v false) _ _ _
  obtain ⟨n1, n2, n3, n4, n5, hdd, n7, n8, n9, n10, n11⟩ := cd
  dsimp only at hh
  subst hh
  unfold storeInOwnDict ownDictForStores
  repeat (first | with_reducible refine PySem.OEX.store_in_old hns hw hz ?_ | with_reducible refine wpAny_loadPart_at hx ?_ | with_reducible refine lcls.at ?_ | wp_step)
  intro h2 tk2 hn2 hs
  exact fin h2 tk2 (fun b o nb ho => (hs.2 b nb).trans ho) hn2
end
end MX
namespace MX
open PySem PySem.Spec PyProof.Rows L2
/-- of KeyError, or of ValueError -/
def tlO (kd : Bool) : List Value := if kd = true then tlKE else tlVE
def newO (kd : Bool) : String := if kd = true then "LookupError.__new__" else "ValueError.__new__"
def iniO (kd : Bool) : String := if kd = true then "KeyError.__init__" else "ValueError.__init__"
theorem kd_of (kd : Bool) : ∃ B nB nI bmN, Kd (tlO kd) (newO kd) (iniO kd) B nB nI bmN := by
  cases kd
  · exact ⟨_, _, _, _, kd_VE⟩
  · exact ⟨_, _, _, _, kd_KE⟩
/-- what the written part says of such a class -/
structure XcC (K : PySem.W.Frag) (kd : Bool) (C : Addr) : Prop where
  cls : ∃ nm q N bs bm sn sub ab col dd k0 k1 k2 k3 k5, K.lookup C = some (excClassObj nm q C N bs bm true sn sub ab col dd k0 k1 k2 k3 k5 (newO kd)) ∧ refsT (tlO kd) bm = true
  sa : PySem.W.findIn K (.ref C) "__setattr__" = some (some (.builtin "object.__setattr__"))
  kC : PySem.W.keepIn K (.ref C) = true
section
variable {X : Cx} {pins : List (Addr × Obj)} {σ : L2.St} {H : Hp} {s : Shared} {a C dx : Addr} {f : Str} {y : V} {u : Value} {fs : List (Str × V)} {Q : Unit → Shared → Prop} {E : Value → Shared → Prop} {A : Around} {kd : Bool}
theorem put_first (T : XcC X.K kd C) (I : Inv X pins σ H s) (e : H a = some (exo a C none)) (hno : PySem.W.findIn X.K (.ref C) f = some none) (ry : RelV y u)
    (h : ∀ dx s2, H dx = none → dx ≠ a → Inv X pins σ (upd (upd H dx (exd dx [(f, y)])) a (exo a C (some dx))) s2 → Q () s2) : wpAny (model X.prog X.w) A (setAttr (.ref a) f u) Q E s := by
  obtain ⟨B, nB, nI, bmN, kk⟩ := kd_of kd
  obtain ⟨nm, q, N, bs, bm, sn, sub, ab, col, dd, k0, k1, k2, k3, k5, hC, hbm⟩ := T.cls
  have hcl : PySem.W.clsIn X.K C = some { name := nm, bases := bs, mro := .ref C :: bm, ns := N, qualname := q, hasDict := true, slotNames := sn, subclasses := sub, abstract := ab, collection := col, hasDel := false } := by unfold PySem.W.clsIn; rw [hC] <;> rfl
  obtain ⟨t1, ho⟩ := exo_at I.hok e
  obtain ⟨hp, g, d, t, os⟩ := s
  refine PySem.W.set_plain I.kIn (ox := { cls := .ref C, dict := none, data := .fields #[.ref t1, .none, .none, .none, .bool false, .none] }) (od := none) ⟨ho, rfl, rfl, trivial⟩ T.sa ?_
  refine set_first kk.pass kk.obj kk.ne I.kIn ho hcl (show refsT (tlO kd) (.ref C :: bm) = true from hbm) rfl hno (fun h2 tk2 dx k dn dne hx hn => ?_)
  have hnd : H dx = none := I.hok.fresh dn
  have nd : ∀ {b : Addr} {o : Obj}, hp.get? b = some o → b ≠ dx := fun {b o} q => Nat.ne_of_lt (Nat.lt_of_lt_of_le (Heap.lt_size q) dn)
  have na : ∀ {b : Addr}, H b = none → b ≠ a := fun {b} n z => by
    rw [z, e] at n
    cases n
  have step : Un X.fs [] H (upd (upd H dx (exd dx [(f, y)])) a (exo a C (some dx))) hp h2 := by
    refine ⟨fun b o q n _ _ => k b o (na n) q, fun b o q n _ _ => ⟨o.slots, k b o (na n) q⟩, fun b o q n _ => ?_, fun b o q _ => ?_, fun b xs q => ?_, fun b o v q => ?_, fun b ps q => ⟨#[], ?_⟩⟩
    · rw [upd_ne (na n), upd_ne (nd q)]; exact n
    · by_cases hb : b = a
      · exact ⟨_, by rw [hb]; exact hx⟩
      · exact ⟨o, k b o hb q⟩
    · rw [upd_ne (at_ne e q exo_tup), upd_ne (ne_of_none q hnd)]; exact q
    · rw [upd_ne (at_ne e q exo_frz), upd_ne (ne_of_none q hnd)]; exact q
    · rw [upd_ne (at_ne e q exo_tbl), upd_ne (ne_of_none q hnd), q]; simp
  refine h dx _ hnd dne (I.un (t' := tk2) step fun b o q => ?_)
  by_cases hb : b = a
  · subst hb
    rw [upd_same] at q
    cases q
    exact exo_ok hx
  · rw [upd_ne hb] at q
    by_cases hd : b = dx
    · subst hd
      rw [upd_same] at q
      cases q
      exact exd_ok hn (relO_put (fs := []) ry fun g => True.intro)
    · rw [upd_ne hd] at q
      refine (I.hok b o q).stay (fun c v hc z => k c v ?_ z) (fun c hc => ?_) (fun c xs hc => ?_)
      · rcases hc with hc | hc
        · rw [hc]; exact hb
        · exact at_ne e hc exo_own
      · rw [upd_ne (at_ne e hc exo_own), upd_ne (ne_of_none hc hnd)]; exact hc
      · rw [upd_ne (at_ne e hc exo_tup), upd_ne (ne_of_none hc hnd)]; exact hc
theorem put_more (T : XcC X.K kd C) (I : Inv X pins σ H s) (e : H a = some (exo a C (some dx))) (ed : H dx = some (exd dx fs)) (hl : fs.length ≤ 900) (hno : PySem.W.findIn X.K (.ref C) f = some none) (ry : RelV y u)
    (h : ∀ s2, Inv X pins σ (upd H dx (exd dx ((f, y) :: fs))) s2 → Q () s2) : wpAny (model X.prog X.w) A (setAttr (.ref a) f u) Q E s := by
  obtain ⟨B, nB, nI, bmN, kk⟩ := kd_of kd
  obtain ⟨nm, q, N, bs, bm, sn, sub, ab, col, dd, k0, k1, k2, k3, k5, hC, hbm⟩ := T.cls
  have hcl : PySem.W.clsIn X.K C = some { name := nm, bases := bs, mro := .ref C :: bm, ns := N, qualname := q, hasDict := true, slotNames := sn, subclasses := sub, abstract := ab, collection := col, hasDel := false } := by unfold PySem.W.clsIn; rw [hC] <;> rfl
  obtain ⟨t1, ho⟩ := exo_at I.hok e
  obtain ⟨mA, hns, rel⟩ := exd_at I.hok ed
  have hw := within_of rel
  obtain ⟨hp, g, d, t, os⟩ := s
  obtain ⟨oD, _, _, hoD, _, _⟩ := hns.count hw
  refine PySem.W.set_plain I.kIn (ox := { cls := .ref C, dict := some dx, data := .fields #[.ref t1, .none, .none, .none, .bool false, .none] }) (od := some oD) ⟨ho, rfl, rfl, hoD⟩ T.sa ?_
  refine set_more kk.pass kk.obj kk.ne I.kIn ho hns hw (by rw [List.length_map]; omega) hcl (show refsT (tlO kd) (.ref C :: bm) = true from hbm) rfl hno (fun h2 tk2 k hn => ?_)
  have there : ∃ o, h2.get? dx = some o := by
    obtain ⟨o, _, _, e2, _⟩ := hn
    exact ⟨o, e2⟩
  exact h _ (I.write (t' := tk2) (x := dx) (e := dx) (o := exd dx ((f, y) :: fs)) (by rw [ed]; exact True.intro) (.inl rfl) k there (exd_ok hn (relO_put ry rel)))
/-- the base's __init__ -/
theorem init_inv {us : List Value} {Q : Value → Shared → Prop} (T : XcC X.K kd C) (I : Inv X pins σ H s) (e : H a = some (exo a C none)) (hl : us.length ≤ sizeLine) (h : ∀ s2, Inv X pins σ H s2 → Q .none s2) :
    wpAny (model X.prog X.w) A (call (.builtin (iniO kd)) (.ref a :: us)) Q E s := by
  obtain ⟨B, nB, nI, bmN, kk⟩ := kd_of kd
  obtain ⟨nm, q, N, bs, bm, sn, sub, ab, col, dd, k0, k1, k2, k3, k5, hC, hbm⟩ := T.cls
  obtain ⟨t1, ho⟩ := exo_at I.hok e
  obtain ⟨hp, g, d, t, os⟩ := s
  refine wpAny_call (init_runs kk hbm (I.kIn _ _ hC) ho hl fun h2 t2 k hx => ?_)
  have J := I.write (t' := t) (x := a) (e := a) (o := exo a C none) (by rw [e]; exact True.intro) (.inl rfl) k ⟨_, hx⟩ (exo_ok hx)
  have same : upd H a (exo a C none) = H := by
    funext b
    by_cases hb : b = a
    · rw [hb, upd_same, e]
    · rw [upd_ne hb]
  rw [same] at J
  exact h _ J
end
end MX

/-! MX4: the own __init__ of such a class, as it runs. -/
namespace MX
open PySem PySem.Spec PyProof.Rows L2
/-- the class that the body names ahead of __init__ -/
structure BaseC (K : PySem.W.Frag) (kd : Bool) (mc : Value) (B0 : Addr) : Prop where
  hg : PySem.W.specialIn K (.ref B0) "__getattribute__" = some (some (.builtin "type.__getattribute__"))
  hr : PySem.W.readsIn K B0 mc = true
  hf : PySem.W.findCls K (.ref B0) mc "__init__" = some (.val (.builtin (iniO kd)))
def tXi (K : PySem.W.Frag) (kd : Bool) (ta : TA) : TE := fun σ H Q => ta σ H fun vs H1 => ∃ (a C : Addr) (ws : List V), vs = .ref a :: ws ∧ ws.length ≤ 1000 ∧ XcC K kd C ∧ H1 a = some (exo a C none) ∧ Q .non H1
def tXs (K : PySem.W.Frag) (kd : Bool) (f : Str) (to te : TE) : TS := fun D σ H => te σ H fun y H1 => to σ H1 fun x H2 => ∃ a C : Addr, x = .ref a ∧ XcC K kd C ∧ PySem.W.findIn K (.ref C) f = some none ∧
  ((H2 a = some (exo a C none) ∧ ∀ dx, H2 dx = none → dx ≠ a → D.nx σ (upd (upd H2 dx (exd dx [(f, y)])) a (exo a C (some dx)))) ∨
    ∃ (dx : Addr) (fs : List (Str × V)), H2 a = some (exo a C (some dx)) ∧ H2 dx = some (exd dx fs) ∧ fs.length ≤ 900 ∧ D.nx σ (upd H2 dx (exd dx ((f, y) :: fs))))
section
variable {X : Cx} {kd : Bool} {mc : Value} {B0 : Addr} {bn : Str} {e : Expr} {es : List Expr} {ta : TA} {p1 p2 pos : Pos}
theorem pe_xinit {pl : Sem Bool} (T : BaseC X.K kd mc B0) (hg : Gl X bn) (hm : X.mg bn = some (.ref B0)) (hdb : (bn == ("__debug__" : Str)) = false) (ha : PA X (e :: es) ta)
    (hc : eval (.Call (.Attribute (.Name bn p1) "__init__" p2) (e :: es) [] pos) X.env = (do
      let ov ← eval (.Name bn p1) X.env
      standAt p2.atName
      let (f, first) ← holding [ov] (getMethod ov "__init__" pl)
      callWith pos f first (backTo pos (starEach (e :: es) X.env)) (backToKw pos (keywordEach [] X.env))))
    (he : starEach (e :: es) X.env = (false, eval e X.env) :: starEach es X.env) (hpl : (backTo pos (starEach es X.env)).any (·.1) = false) :
    PE X (.Call (.Attribute (.Name bn p1) "__init__" p2) (e :: es) [] pos) (tXi X.K kd ta) := by
  refine ⟨fun pins s σ H Q I h => ?_⟩
  refine PySem.W.methodCall_KW (ld_glob I hg hm ?_ hdb) hc
  refine PySem.W.method_cls I.kIn T.hg (PySem.W.cls_value I.kIn T.hr T.hf (by cases kd <;> rfl) ?_)
  show wpAny _ _ (callWith pos (Value.builtin (iniO kd)) [] (backTo pos (starEach (e :: es) X.env)) []) _ _ _
  refine PyProof.Rows.callWith_method1 (thn (ha.run pos pins _ σ H _ (I.tok _) h) fun us s1 ⟨vs, H1, I1, r1, a, C, ws, ev, hl, xc, ea, q⟩ => ?_) he hpl
  subst ev
  cases r1 with
  | @cons _ u0 _ ur ra rw' =>
    obtain rfl : u0 = Value.ref a := ra
    have hlen : ur.length ≤ sizeLine := by
      rw [← Paired.length rw', sizeLine_eq]
      omega
    exact init_inv xc I1 ea hlen fun s2 J => ⟨.non, H1, J, rfl, q⟩
theorem ps_xset {f : Str} {o e : Expr} {to te : TE} {p p' : Pos} (ho : PE X o to) (he : PE X e te) (hs : swapsWith e (some (.Attribute o f p')) p.line X.env = pure false) : PS X (.Assign [.Attribute o f p'] e p) (tXs X.K kd f to te) := by
  refine ⟨fun pins s σ H D I h => ?_⟩
  refine plainObj_wpAny_Assign_Attribute (thn (he.run pins s σ H _ I h) fun v s1 ⟨y, H1, I1, r1, q1⟩ => thn (ho.run pins s1 σ H1 _ I1 q1) fun u s2 ⟨x, H2, I2, r2, a, C, ex, T, hno, q⟩ => ?_) hs
  subst ex
  obtain rfl : u = Value.ref a := r2
  rcases q with ⟨ea, q⟩ | ⟨dx, fs, ea, ed, hl, q⟩
  · exact put_first T I2 ea hno r1 fun dx s3 n ne J => ⟨σ, _, J, q dx n ne⟩
  · exact put_more T I2 ea ed hl hno r1 fun s3 J => ⟨σ, _, J, q⟩
end
/-! ### the body -/
/-- self.f = f, one after another -/
def setsB : List Str → List Stmt → Bool
  | [], [] => true
  | f :: fs, .Assign [.Attribute (.Name s _) f' _] (.Name g _) _ :: r => s == "self" && f' == f && g == f && setsB fs r
  | _, _ => false
def initB (bn : Str) (fs : List Str) : List Stmt → Bool
  | .Expr (.Call (.Attribute (.Name b _) i ap) [.Name s _, .Constant (.str _) _ _] [] cp) _ :: r => b == bn && i == "__init__" && s == "self" && ap.endLine == cp.line && setsB fs r
  | _ => false
/-- the end of the fields' stores -/
def FinH (H : Hp) (a C dx : Addr) (fs : List (Str × V)) (H2 : Hp) : Prop := H2 a = some (exo a C (some dx)) ∧ H2 dx = some (exd dx fs) ∧ ∀ b, b ≠ a → b ≠ dx → H2 b = H b
def initSp (K : PySem.W.Frag) (kd : Bool) (fs : List Str) : Sp := fun vs H Q _ => ∃ (a C : Addr) (ys : List V), vs = .ref a :: ys ∧ ys.length = fs.length ∧ XcC K kd C ∧ H a = some (exo a C none) ∧ (∀ f ∈ fs, PySem.W.findIn K (.ref C) f = some none) ∧
  ∀ dx H2, H dx = none → dx ≠ a → FinH H a C dx (fs.zip ys).reverse H2 → Q .non H2
def nmB (sc : Scope) (x : Str) : Bool := sc.names.lookup x == some .local && !(x == ("__debug__" : Str)) && !(x == ("__classdict__" : Str))
section
variable {X : Cx} {kd : Bool}
/-- the further stores -/
theorem sets_ok (hs : X.env.scope = sc) (hself : X.N[0]? = some ("self" : Str)) (vself : nmB sc "self" = true) : ∀ (fs : List Str) (body : List Stmt) (j : Nat), setsB fs body = true → (∀ i x, fs[i]? = some x → X.N[j + i]? = some x ∧ nmB sc x = true) →
    ∃ t, PSs X body t ∧ ∀ (σ : L2.St) (H : Hp) (a C dx : Addr) (ys : List V) (got : List (Str × V)) (D : Ends), σ[0]? = some (some (.ref a)) → (∀ i y, ys[i]? = some y → σ[j + i]? = some (some y)) → ys.length = fs.length → XcC X.K kd C → (∀ f ∈ fs, PySem.W.findIn X.K (.ref C) f = some none) →
      got.length + fs.length ≤ 900 → H a = some (exo a C (some dx)) → H dx = some (exd dx got) → dx ≠ a → (∀ H2, FinH H a C dx ((fs.zip ys).reverse ++ got) H2 → D.nx σ H2) → t D σ H
  | [], [], j, _, _ => ⟨_, pss_nil, fun σ H a C dx ys got D h1 h2 h3 xc h4 h5 h6 h7 h8 h => h H ⟨h6, by simpa using h7, fun _ _ _ => rfl⟩⟩
  | f :: fs, st :: r, j, hb, hN => by
    unfold setsB at hb
    split at hb
    · rename_i e1 e2
      cases e1
    · rename_i f1 fs1 s1 p1 f2 p2 g p3 p4 r1 e1 e2
      cases e1
      cases e2
      simp only [Bool.and_eq_true, beq_iff_eq] at hb
      obtain ⟨⟨⟨rfl, rfl⟩, rfl⟩, hr⟩ := hb
      obtain ⟨t, ht, hq⟩ := sets_ok hs hself vself fs r (j + 1) hr fun i x e => by
        have := hN (i + 1) x (by simpa using e)
        rw [show j + 1 + i = j + (i + 1) by omega]
        exact this
      obtain ⟨nf, vf⟩ := hN 0 _ rfl
      have vis : ∀ {x}, nmB sc x = true → Vis X.env.scope x ∧ (x == ("__debug__" : Str)) = false ∧ (x == ("__classdict__" : Str)) = false := fun {x} h => by
        unfold nmB at h
        simp only [Bool.and_eq_true, beq_iff_eq, Bool.not_eq_true'] at h
        exact ⟨.inl (by rw [hs]; exact h.1.1), h.1.2, h.2⟩
      obtain ⟨v1, v2, v3⟩ := vis vself
      obtain ⟨w1, w2, w3⟩ := vis vf
      have go := pe_var (X := X) (pos := p1) hself v1 v2 v3
      have ge := pe_var (X := X) (pos := p3) (i := j) (by simpa using nf) w1 w2 w3
      refine ⟨_, pss_cons (ps_xset (kd := kd) go ge rfl) ht, fun σ H a C dx ys got D h1 h2 h3 xc h4 h5 h6 h7 h8 h => ?_⟩
      cases ys with
      | nil => cases h3
      | cons y ys =>
        refine ⟨y, by simpa using h2 0 y rfl, .ref a, h1, a, C, rfl, xc, h4 g (List.mem_cons_self ..), .inr ⟨dx, got, h6, h7, by simp at h5; omega, ?_⟩⟩
        refine hq σ _ a C dx ys ((g, y) :: got) D h1 (fun i z e => ?_) (by simpa using h3) xc (fun f hf => h4 f (List.mem_cons_of_mem _ hf)) (by simp at h5 ⊢; omega) (by rw [upd_ne (Ne.symm h8)]; exact h6) upd_same h8 fun H2 hH => h H2 ?_
        · have := h2 (i + 1) z (by simpa using e)
          rw [show j + 1 + i = j + (i + 1) by omega]
          exact this
        · obtain ⟨f1, f2', f3⟩ := hH
          refine ⟨f1, ?_, fun b n1 n2 => by rw [f3 b n1 n2, upd_ne n2]⟩
          rw [f2']
          simp
    · cases hb
  | [], _ :: _, j, hb, _ => by simp [setsB] at hb
  | _ :: _, [], j, hb, _ => by simp [setsB] at hb
theorem body_ok {sc : Scope} {bn : Str} {mc : Value} {B0 : Addr} (hs : X.env.scope = sc) (hself : X.N[0]? = some ("self" : Str)) (vself : nmB sc "self" = true) (T : BaseC X.K kd mc B0) (hg : Gl X bn) (hm : X.mg bn = some (.ref B0)) (hdb : (bn == ("__debug__" : Str)) = false) :
    ∀ (fs : List Str) (body : List Stmt), initB bn fs body = true → fs ≠ [] → fs.length ≤ 100 → (∀ i x, fs[i]? = some x → X.N[1 + i]? = some x ∧ nmB sc x = true) →
    ∃ t, PSs X body t ∧ ∀ (σ : L2.St) (H : Hp) (a C : Addr) (ys : List V) (D : Ends), σ[0]? = some (some (.ref a)) → (∀ i y, ys[i]? = some y → σ[1 + i]? = some (some y)) → ys.length = fs.length → XcC X.K kd C → (∀ f ∈ fs, PySem.W.findIn X.K (.ref C) f = some none) →
      H a = some (exo a C none) → (∀ dx H2, H dx = none → dx ≠ a → FinH H a C dx (fs.zip ys).reverse H2 → D.nx σ H2) → t D σ H := by
  intro fs body hb hne hlen hN
  cases fs with
  | nil => exact absurd rfl hne
  | cons f fs =>
  unfold initB at hb
  split at hb
  · rename_i b p1 i p2 s1 p3 m j p4 p5 p6 r
    simp only [Bool.and_eq_true, beq_iff_eq] at hb
    obtain ⟨⟨⟨⟨e1, e2⟩, e3⟩, hline⟩, hr⟩ := hb
    subst e1 e2 e3
    cases r with
    | nil => cases hr
    | cons st r =>
    have hr' := hr
    unfold setsB at hr
    split at hr
    · rename_i e1 e2
      cases e1
    · rename_i f1 fs1 s1 q1 f2 q2 g q3 q4 r1 e1 e2
      cases e1
      cases e2
      simp only [Bool.and_eq_true, beq_iff_eq] at hr
      obtain ⟨⟨⟨e4, e5⟩, e6⟩, hr⟩ := hr
      subst e4 e6 e5
      obtain ⟨t, ht, hq⟩ := sets_ok (kd := kd) hs hself vself fs r (1 + 1) hr fun i x e => by
        have := hN (i + 1) x (by simpa using e)
        rw [show 1 + 1 + i = 1 + (i + 1) by omega]
        exact this
      obtain ⟨nf, vf⟩ := hN 0 _ rfl
      have vis : ∀ {x}, nmB sc x = true → Vis X.env.scope x ∧ (x == ("__debug__" : Str)) = false ∧ (x == ("__classdict__" : Str)) = false := fun {x} h => by
        unfold nmB at h
        simp only [Bool.and_eq_true, beq_iff_eq, Bool.not_eq_true'] at h
        exact ⟨.inl (by rw [hs]; exact h.1.1), h.1.2, h.2⟩
      obtain ⟨v1, v2, v3⟩ := vis vself
      obtain ⟨w1, w2, w3⟩ := vis vf
      have g0 := pe_var (X := X) (pos := p3) hself v1 v2 v3
      have go := pe_var (X := X) (pos := q1) hself v1 v2 v3
      have ge := pe_var (X := X) (pos := q3) (i := 1) (by simpa using nf) w1 w2 w3
      have ga : PA X [.Name "self" p3, .Constant (.str m) j p4] _ := pa_cons g0 (pa_cons pe_str pa_nil)
      have hc : eval (.Call (.Attribute (.Name b p1) "__init__" p2) [.Name "self" p3, .Constant (.str m) j p4] [] p5) X.env = (do
          let ov ← eval (.Name b p1) X.env
          standAt p2.atName
          let (f, first) ← holding [ov] (getMethod ov "__init__" (plainOf (.Name b p1) X.env))
          callWith p5 f first (backTo p5 (starEach [.Name "self" p3, .Constant (.str m) j p4] X.env)) (backToKw p5 (keywordEach [] X.env))) := by
        show (eval (.Name b p1) X.env >>= fun ov => standAt p2.atName >>= fun _ => methodCall (.Name b p1) "__init__" p2 p5 X.env ov 2 (backTo p5 (starEach [.Name "self" p3, .Constant (.str m) j p4] X.env)) (backToKw p5 (keywordEach [] X.env))) = _
        congr 1
        funext ov
        congr 1
        funext _
        exact mcall_line rfl (beq_iff_eq.mpr hline)
      have gi := pe_xinit (p1 := p1) (p2 := p2) (pos := p5) T hg hm hdb ga hc rfl rfl
      refine ⟨_, pss_cons (ps_expr (pos := p6) gi rfl) (pss_cons (ps_xset (kd := kd) go ge rfl) ht), fun σ H a C ys D h1 h2 h3 xc h4 h6 h => ?_⟩
      cases ys with
      | nil => cases h3
      | cons y ys =>
        refine ⟨.ref a, h1, a, C, [.str m], rfl, by simp, xc, h6, y, by simpa using h2 0 y rfl, .ref a, h1, a, C, rfl, xc, h4 _ (List.mem_cons_self ..), .inl ⟨h6, fun dx hn hd => ?_⟩⟩
        refine hq σ _ a C dx ys [(_, y)] D h1 (fun i z e => ?_) (by simpa using h3) xc (fun f hf => h4 f (List.mem_cons_of_mem _ hf)) (by simp at hlen ⊢; omega) upd_same (by rw [upd_ne hd]; exact upd_same) hd fun H2 hH => h dx H2 hn hd ?_
        · have := h2 (i + 1) z (by simpa using e)
          rw [show 1 + 1 + i = 1 + (i + 1) by omega]
          exact this
        · obtain ⟨f1, f2', f3⟩ := hH
          refine ⟨f1, ?_, fun b n1 n2 => by rw [f3 b n1 n2, upd_ne n1, upd_ne n2]⟩
          rw [f2']
          simp
    · cases hr
  · cases hb
end
/-- the own __init__ -/
theorem init_fn {P : Program} {w : World} {K : PySem.W.Frag} {mg : Str → Option Value} {base : Heap} {qual bn : Str} {st : Stmt} {f : Addr} {fd : FuncData} {fs : List Str} {kd : Bool} {mc : Value} {B0 : Addr} (F : Fun K "__init__" qual st f fd) (S : FnScope ("self" :: fs) ("self" :: fs) (defScope st))
    (hb : initB bn fs (defBody st) = true) (hne : fs ≠ []) (hlen : fs.length ≤ 100) (hN : ∀ x ∈ ("self" : Str) :: fs, nmB (defScope st) x = true) (T : BaseC K kd mc B0) (hg : (defScope st).names.lookup bn = some .globalImplicit) (hm : mg bn = some (.ref B0)) (hdb : (bn == ("__debug__" : Str)) = false) :
    FnOk P w K mg base CX0 1 f fd ("self" :: fs) (initSp K kd fs) := by
  refine F.ok S (fun vs H Q E h => ?_) fun cdv A outer s H vs Q E hr h => ?_
  · obtain ⟨a, C, ys, rfl, hl, _⟩ := h
    simp [hl]
  · obtain ⟨a, C, ys, rfl, hl, xc, ea, hno, q⟩ := h
    obtain ⟨t, ht, hq⟩ := body_ok (X := (cxOf CX0 P w K mg base ("self" :: fs) qual (defScope st) f cdv A outer s H E).nox) (kd := kd) (sc := defScope st) rfl rfl (hN _ (List.mem_cons_self ..)) T hg hm hdb fs (defBody st) hb hne hlen fun i x e => ⟨by
        show (("self" : Str) :: fs)[1 + i]? = some x
        rw [Nat.add_comm, List.getElem?_cons_succ]
        exact e, hN x (List.mem_cons_of_mem _ (List.mem_of_getElem? e))⟩
    refine ⟨t, ht, hq _ H a C ys _ ?_ (fun i y e => ?_) hl xc hno ea fun dx H2 hn hd hH => q dx H2 hn hd hH⟩
    · rfl
    · unfold L2.start
      rw [Nat.add_comm, List.getElem?_append_left (by have := (List.getElem?_eq_some_iff.mp e).1; simp; omega), List.getElem?_map, List.getElem?_cons_succ, e]
      rfl
end MX

/-! MX5: such an exception made, as a thing that stays. -/
namespace MX
open PySem PySem.Spec PyProof.Rows L2
theorem frz_own {o : Obj} {u : HO} {x : Addr} : HO.frz o u ≠ .own x := nofun
section
variable {X : Cx} {kd : Bool} {C fI : Addr} {fd : FuncData} {fs : List Str} {pins : List (Addr × Obj)} {σ : L2.St} {H : Hp} {s : Shared} {us : List Value} {ys : List V} {Q : Value → Shared → Prop} {E : Value → Shared → Prop}
theorem make_run (T : XcC X.K kd C) (iC : PySem.W.findIn X.K (.ref C) "__init__" = some (some (.ref fI))) (tI : PySem.W.typeIn X.K (.ref fI) = some (.type "function"))
    (F1 : FnOk X.prog X.w X.K X.mg X.base CX0 1 fI fd ("self" :: fs) (initSp X.K kd fs)) (hr : Room 2 X.A) (hb : Binds X.K fd ("self" :: fs) []) (hno : ∀ f ∈ fs, PySem.W.findIn X.K (.ref C) f = some none)
    (I : Inv X pins σ H s) (r : Vals ys us) (hl : ys.length = fs.length) (hz : fs.length ≤ 100)
    (h : ∀ (a dx : Addr) (oe : Obj) (s2 : Shared), H a = none → H dx = none → dx ≠ a → oe.cls = .ref C → oe.dict = some dx → (∃ ws, oe.data = .fields ws) → Inv X pins σ (upd (upd H dx (.xd (fs.zip ys).reverse)) a (.frz oe (.own a))) s2 → Q (.ref a) s2) :
    wpAny (model X.prog X.w) X.A (call (.ref C) us) Q E s := by
  obtain ⟨B, nB, nI, bmN, kk⟩ := kd_of kd
  obtain ⟨nm, q, N, bs, bm, sn, sub, ab, col, dd, k0, k1, k2, k3, k5, hC, hbm⟩ := T.cls
  obtain ⟨hp, g, dr, tk, os⟩ := s
  have hsz : hp.objs.size ≤ hp.objs.size + 1 := Nat.le_succ _
  have hn : H (hp.objs.size + 1) = none := I.hok.fresh hsz
  have kp : ∀ b o, hp.get? b = some o → ((hp.push (PySem.W.kdv_tup us)).push (exN C hp.objs.size)).get? b = some o := fun b o e => Heap.get?_push_of_some _ (Heap.get?_push_of_some _ e)
  have hx : ((hp.push (PySem.W.kdv_tup us)).push (exN C hp.objs.size)).get? (hp.objs.size + 1) = some (exN C hp.objs.size) := by heap_get
  have I2 : Inv X pins σ (upd H (hp.objs.size + 1) (exo (hp.objs.size + 1) C none)) ⟨(hp.push (PySem.W.kdv_tup us)).push (exN C hp.objs.size), g, dr, tk, os⟩ :=
    I.laid (t' := tk) (a := hp.objs.size + 1) (o := exo (hp.objs.size + 1) C none) (h' := (hp.push (PySem.W.kdv_tup us)).push (exN C hp.objs.size)) kp hsz (exo_ok hx)
  have hlu : us.length = fs.length := by rw [← r.length]; exact hl
  have r2 : Vals (V.ref (hp.objs.size + 1) :: ys) (Value.ref (hp.objs.size + 1) :: us) := .cons rfl r
  have hus : us.length ≤ sizeLine := by rw [sizeLine_eq]; omega
  have sp : initSp X.K kd fs (V.ref (hp.objs.size + 1) :: ys) (upd H (hp.objs.size + 1) (exo (hp.objs.size + 1) C none))
      (fun v H2 => v = .non ∧ ∃ dx, H dx = none ∧ dx ≠ hp.objs.size + 1 ∧ FinH (upd H (hp.objs.size + 1) (exo (hp.objs.size + 1) C none)) (hp.objs.size + 1) C dx (fs.zip ys).reverse H2) (fun _ _ _ => False) :=
    ⟨_, C, ys, rfl, hl, T, upd_same, hno, fun dx H2 hd hda hH => ⟨rfl, dx, by rw [upd_ne hda] at hd; exact hd, hda, hH⟩⟩
  have hbt := hb _ (Value.ref (hp.objs.size + 1) :: us) I2.kIn (by simp [hlu])
  rw [List.append_nil] at hbt
  refine wpAny_call (cls_call kk hbm (I.kIn _ _ hC) (PySem.W.looks_findIn I.kIn iC) (fun self => PySem.W.bind_fn I.kIn self tI) hus
    (codeAny_mono (F1.run _ X.stack _ _ ⟨Value.ref (hp.objs.size + 1) :: us, []⟩ (Value.ref (hp.objs.size + 1) :: us) _ _ (fun _ _ _ => False) (hr.make C us []) (I2.env0.make C us []) hbt r2 sp) fun r s2 hq => ?_))
  cases r with
  | error er => exact hq.elim
  | ok fl =>
    cases fl with
    | next => exact hq.elim
    | brk => exact hq.elim
    | cont => exact hq.elim
    | ret u =>
      obtain ⟨v, H2, os2, bare2, un2, hok2, rv, ev, dx, hd1, hda, ea, ed, oth⟩ := hq
      subst ev
      obtain ⟨h2, g2, d2, t2, os'⟩ := s2
      obtain ⟨t0, hoe⟩ := exo_at hok2 ea
      obtain ⟨mA, hns, rel⟩ := exd_at hok2 ed
      obtain ⟨oe, eoe⟩ : ∃ oe : Obj, oe = { cls := .ref C, dict := some dx, data := .fields #[.ref t0, .none, .none, .none, .bool false, .none] } := ⟨_, rfl⟩
      rw [← eoe] at hoe
      have nha : ∀ {b : Addr} {o : Obj}, hp.get? b = some o → b ≠ hp.objs.size + 1 := fun {b o} z => Nat.ne_of_lt (Nat.lt_of_lt_of_le (Heap.lt_size z) hsz)
      have up : ∀ {b : Addr}, b ≠ hp.objs.size + 1 → H b = none → upd H (hp.objs.size + 1) (exo (hp.objs.size + 1) C none) b = none := fun {b} nb n => by rw [upd_ne nb]; exact n
      have nd : ∀ {b : Addr} {o : Obj}, hp.get? b = some o → H b = none → b ≠ dx := fun {b o} z n e => by
        have y := un2.free b o (kp b o z) (up (nha z) n) (by simp)
        rw [e, ed] at y
        cases y
      have same : ∀ {b : Addr} {o : HO}, H b = some o → upd (upd H dx (.xd (fs.zip ys).reverse)) (hp.objs.size + 1) (.frz oe (.own (hp.objs.size + 1))) b = some o := fun {b o} z => by
        rw [upd_ne (ne_of_none z hn), upd_ne (ne_of_none z hd1)]; exact z
      have U : Un (frs X.stack) [] H (upd (upd H dx (.xd (fs.zip ys).reverse)) (hp.objs.size + 1) (.frz oe (.own (hp.objs.size + 1)))) hp h2 := by
        refine ⟨fun b o z n hf hx => un2.keep b o (kp b o z) (up (nha z) n) hf hx, fun b o z n hf hx => un2.slot b o (kp b o z) (up (nha z) n) hf hx, fun b o z n hx => ?_, fun b o z hx => un2.there b o (kp b o z) hx, fun b xs z => same z, fun b o v z => same z, fun b ps z => ⟨#[], by rw [same z]; simp⟩⟩
        rw [upd_ne (nha z), upd_ne (nd z n)]
        exact n
      have keep2 : ∀ {c : Addr} {o : HO}, (∀ d, o ≠ exo (hp.objs.size + 1) C d) → (∀ l, o ≠ exd dx l) → H2 c = some o → upd (upd H dx (.xd (fs.zip ys).reverse)) (hp.objs.size + 1) (.frz oe (.own (hp.objs.size + 1))) c = some o := fun {c o} n1 n2 z => by
        have c1 : c ≠ hp.objs.size + 1 := fun e => by
          rw [e, ea] at z
          exact n1 _ (Option.some.inj z).symm
        have c2 : c ≠ dx := fun e => by
          rw [e, ed] at z
          exact n2 _ (Option.some.inj z).symm
        rw [upd_ne c1, upd_ne c2]
        have := oth c c1 c2
        rw [upd_ne c1] at this
        rw [← this]
        exact z
      have hok3 : HOk X.prog X.w (upd (upd H dx (.xd (fs.zip ys).reverse)) (hp.objs.size + 1) (.frz oe (.own (hp.objs.size + 1)))) h2 := fun b o z => by
        by_cases hba : b = hp.objs.size + 1
        · subst hba
          rw [upd_same] at z
          cases z
          exact ⟨hoe, ⟨_, hoe⟩⟩
        · rw [upd_ne hba] at z
          by_cases hbd : b = dx
          · subst hbd
            rw [upd_same] at z
            cases z
            exact ⟨mA, hns, rel⟩
          · rw [upd_ne hbd] at z
            have e2 : H2 b = some o := by
              rw [oth b hba hbd, upd_ne hba]
              exact z
            exact (hok2 b o e2).stay (fun c v hc y => y) (fun c hc => keep2 (fun d e => exo_own e.symm) (fun l e => exd_own e.symm) hc) (fun c xs hc => keep2 (fun d e => exo_tup e.symm) (fun l e => exd_tup e.symm) hc)
      have J := I.call' (s' := ⟨h2, g2, d2, t2, os'⟩) (ch := []) os2 U hok3 bare2 (fun b z => absurd z (by simp))
      exact ⟨rv, h _ dx oe _ hn hd1 hda (by rw [eoe]) (by rw [eoe]) ⟨_, by rw [eoe]⟩ J⟩
end
end MX

/-! MX6: a class without own __init__; isinstance and fields of exceptions that stay. -/
namespace MX
open PySem PySem.Spec PyProof.Rows L2
section
variable {X : Cx} {C : Addr} {pins : List (Addr × Obj)} {σ : L2.St} {H : Hp} {s : Shared} {us : List Value} {Q : Value → Shared → Prop} {E : Value → Shared → Prop} {bmB : List Value} {B newId initId : String}
theorem make_bare (F : ExcBaseFacts B newId initId bmB) (q : PySem.W.excIn X.K C bmB newId = true) (I : Inv X pins σ H s) (hl : us.length ≤ sizeLine)
    (h : ∀ (a : Addr) (oe : Obj) (s2 : Shared), H a = none → oe.cls = .ref C → oe.dict = none → (∃ ws, oe.data = .fields ws) → Inv X pins σ (upd H a (.frz oe (.own a))) s2 → Q (.ref a) s2) :
    wpAny (model X.prog X.w) X.A (call (.ref C) us) Q E s := by
  obtain ⟨bm, N, nm, qn, bs, hdct, sn, sub, ab, col, dd, k0, k1, k2, k3, k5, mN, hC, hN, hni, T⟩ := exc_obj I.kIn q
  refine wpAny_call_exc_subT F T hC hN hni (fun h2 e hm => ?_) hl
  obtain ⟨t, he, _, _⟩ := hm.there
  have na : H e = none := I.hok.gone hm.new
  have J := I.laidN (t' := s.toks) (a := e) (o := .frz _ (.own e)) hm.keeps hm.new na ⟨he, ⟨_, he⟩⟩
  exact h e _ _ na rfl rfl ⟨_, rfl⟩ J
/-- an exception that stays, its fields -/
structure ExAt (H : Hp) (a C : Addr) (fs : List (Str × V)) : Prop where
  ex : ∃ oe : Obj, H a = some (.frz oe (.own a)) ∧ oe.cls = .ref C ∧ (∃ ws, oe.data = .fields ws) ∧ ((oe.dict = none ∧ fs = []) ∨ ∃ dx, oe.dict = some dx ∧ H dx = some (.xd fs))
theorem ExAt.inst {a : Addr} {fs : List (Str × V)} (e : ExAt H a C fs) (I : Inv X pins σ H s) : ∃ oe od, PySem.W.InstAt s.heap a oe C od ∧ ((od = none ∧ fs = []) ∨ ∃ (o : Obj) (mA : Str → Option Value), od = some o ∧ (∀ x, PySem.W.lookIn x o = some (mA x)) ∧ ∀ f, RelO (fs.lookup f) (mA f)) := by
  obtain ⟨oe, e1, e2, ⟨ws, e4⟩, e5⟩ := e.ex
  have hget : s.heap.get? a = some oe := by
    have z : ObjOk X.prog X.w H s.heap a (.frz oe (.own a)) := I.hok a _ e1
    exact z.1
  have hn : PySem.W.notCls oe = true := by unfold PySem.W.notCls; rw [e4] <;> rfl
  rcases e5 with ⟨ed, ef⟩ | ⟨dx, ed, ex⟩
  · exact ⟨oe, none, ⟨hget, e2, hn, by rw [ed]; trivial⟩, .inl ⟨rfl, ef⟩⟩
  · have z : ObjOk X.prog X.w H s.heap dx (.xd fs) := I.hok dx _ ex
    obtain ⟨mA, hns, hr⟩ := z
    obtain ⟨o, ho, hlk⟩ := lookIn_ns hns
    exact ⟨oe, some o, ⟨hget, e2, hn, by rw [ed]; exact ho⟩, .inr ⟨o, mA, rfl, hlk, hr⟩⟩
/-- isinstance(e, c) -/
theorem isE_run {cv : Value} {b : Bool} {a : Addr} {fs : List (Str × V)} (T : ExcC X.K C) (I : Inv X pins σ H s) (e : ExAt H a C fs) (k : PySem.W.kitOne X.K (.ref C) cv = some b) (h : ∀ tk, Q (.bool b) { s with toks := tk }) :
    wpAny (model X.prog X.w) X.A (call (.builtin "isinstance") [.ref a, cv]) Q E s := by
  obtain ⟨oe, od, J, _⟩ := e.inst I
  have hcl : (PySem.W.clsIn X.K C).isSome = true := by
    obtain ⟨cd, hc, _⟩ := PySem.W.any_some T.hd
    rw [hc]; rfl
  exact PySem.W.kia_one (PySem.W.kitx_exc hcl T.hg T.hk T.hs T.ha T.hn T.ht T.hm) I.kIn J k (fun z => nomatch z) h
/-- e.f -/
theorem fieldE_run {expr : Bool} {f : Str} {v : V} {a : Addr} {fs : List (Str × V)} (T : XfC X.K C) (hno : PySem.W.findIn X.K (.ref C) f = some none) (I : Inv X pins σ H s) (e : ExAt H a C fs) (l : fs.lookup f = some v) (h : ∀ u s2, RelV v u → Inv X pins σ H s2 → s.toks ≤ s2.toks → Q u s2) :
    wpAny (model X.prog X.w) X.A (getAttr (.ref a) f expr) Q E s := by
  obtain ⟨oe, od, J, hd⟩ := e.inst I
  rcases hd with ⟨_, rfl⟩ | ⟨o, mA, rfl, hlk, hr⟩
  · cases l
  · obtain ⟨u, hu, ru⟩ := RelO.some_of (v := v) (o := mA f) (by rw [← l]; exact hr f)
    exact HandSPX.exc_get I.kIn J T.ga T.gg T.exC (PySem.W.findObj_own T.hdC hno rfl (by rw [hlk, hu])) (handed_of ru) (h u _ ru (I.tok _) (Nat.le_succ _))
end
end MX

/-! MP1: values of a small functional Python (D), its store, how they lie in the layer's heap; the readings by functions. -/
namespace MP
open PySem L2

/-! ### values, store, results -/
inductive D where
  | non
  | bl (b : Bool)
  | int (i : Int)
  | str (x : Str)
  | tup (xs : List D)
  | lst (xs : List D)
  | frz (xs : List D)
  | dic (kvs : List (Key × D))
  | ref (n : Nat)
  /-- a function with what it captured (in slots and arguments alone) -/
  | clo (k : Nat) (caps : List D)
  /-- a def of the running frame's own (in slots alone) -/
  | own (k : Nat)
  deriving Inhabited

inductive O where
  | lst (xs : List D)
  | dic (kvs : List (Key × D))
  /-- a dict while it is walked -/
  | fdic (kvs : List (Key × D))
  /-- an exception of the c-th class, its fields -/
  | exc (c : Nat) (fs : List (Str × D))
  deriving Inhabited

abbrev Sto := List O
abbrev Env := List (Option D)

inductive R (α : Type) where
  | ok (a : α) (S : Sto)
  | bad

abbrev M (α : Type) := Sto → R α
def M.pure {α : Type} (a : α) : M α := fun S => .ok a S
def M.bind {α β : Type} (m : M α) (f : α → M β) : M β := fun S => match m S with
  | .ok a S' => f a S'
  | .bad => .bad
instance : Monad M where
  pure := M.pure
  bind := M.bind
def M.fail {α : Type} : M α := fun _ => .bad
def M.of {α : Type} : Option α → M α
  | some a => M.pure a
  | none => M.fail
def M.get : M Sto := fun S => .ok S S
def M.put (S : Sto) : M Unit := fun _ => .ok () S

@[simp] theorem bind_run {α β : Type} (m : M α) (f : α → M β) (S : Sto) : (m >>= f) S = match m S with | .ok a S' => f a S' | .bad => .bad := rfl
@[simp] theorem pure_run {α : Type} (a : α) (S : Sto) : (pure a : M α) S = .ok a S := rfl
@[simp] theorem mpure_run {α : Type} (a : α) (S : Sto) : (M.pure a : M α) S = .ok a S := rfl
@[simp] theorem fail_run {α : Type} (S : Sto) : (M.fail : M α) S = .bad := rfl
@[simp] theorem of_some {α : Type} (a : α) (S : Sto) : (M.of (some a)) S = .ok a S := rfl
@[simp] theorem of_none {α : Type} (S : Sto) : (M.of (none : Option α)) S = .bad := rfl
@[simp] theorem get_run (S : Sto) : M.get S = .ok S S := rfl
@[simp] theorem put_run (S T : Sto) : M.put T S = .ok () T := rfl

/-! ### how a value lies in the heap. η: where the store's objects stand -/
def KTup (K : PySem.W.Frag) (a : Addr) (vs : List V) : Prop :=
  ∃ (o : Obj) (its : Array Value) (n : Nat), K.lookup a = some o ∧ o.cls = .type "tuple" ∧ o.data = .seq its n ∧ its.size ≤ sizeLine ∧ Vals vs its.toList
def KLst (K : PySem.W.Frag) (a : Addr) (vs : List V) : Prop :=
  ∃ (o : Obj) (its : Array Value) (n : Nat), K.lookup a = some o ∧ o.cls = .type "list" ∧ o.dict = none ∧ o.data = .seq its n ∧ its.size ≤ sizeLine ∧ Vals vs its.toList
def TupAt (K : PySem.W.Frag) (η : List Addr) (H : Hp) (a : Addr) (vs : List V) : Prop := (H a = some (.tup vs) ∧ a ∉ η) ∨ KTup K a vs
def LstAt (η : List Addr) (H : Hp) (a : Addr) (vs : List V) : Prop := H a = some (.lst vs) ∧ a ∉ η
/-- a list that is read alone (the script) -/
def FrzAt (K : PySem.W.Frag) (η : List Addr) (H : Hp) (a : Addr) (vs : List V) : Prop := (Rd H a (.lst vs) ∧ a ∉ η) ∨ KLst K a vs
def DicAt (η : List Addr) (H : Hp) (a : Addr) (kvs : List (Key × V)) : Prop := H a = some (.dK kvs) ∧ a ∉ η
theorem TupAt.sq {K : PySem.W.Frag} {η : List Addr} {H : Hp} {a : Addr} {vs : List V} (h : TupAt K η H a vs) : SqT K H a vs := by
  rcases h with h | h
  · exact .inl (.inl h.1)
  · exact .inr h
theorem LstAt.sq {K : PySem.W.Frag} {η : List Addr} {H : Hp} {a : Addr} {vs : List V} (h : LstAt η H a vs) : SqL K H a vs := .inl (.inl h.1)
theorem FrzAt.sq {K : PySem.W.Frag} {η : List Addr} {H : Hp} {a : Addr} {vs : List V} (h : FrzAt K η H a vs) : SqL K H a vs := by
  rcases h with h | h
  · exact .inl h.1
  · exact .inr h

mutual
inductive Rep (K : PySem.W.Frag) (η : List Addr) (H : Hp) : D → V → Prop
  | non : Rep K η H .non .non
  | bl (b : Bool) : Rep K η H (.bl b) (.bl b)
  | int (i : Int) : Rep K η H (.int i) (.int i)
  | str (x : Str) : Rep K η H (.str x) (.str x)
  | tup {a : Addr} {vs : List V} {ds : List D} : TupAt K η H a vs → Reps K η H ds vs → Rep K η H (.tup ds) (.ref a)
  | lst {a : Addr} {vs : List V} {ds : List D} : LstAt η H a vs → Reps K η H ds vs → Rep K η H (.lst ds) (.ref a)
  | frz {a : Addr} {vs : List V} {ds : List D} : FrzAt K η H a vs → Reps K η H ds vs → Rep K η H (.frz ds) (.ref a)
  | dic {a : Addr} {kvs : List (Key × V)} {kds : List (Key × D)} : DicAt η H a kvs → Repk K η H kds kvs → Rep K η H (.dic kds) (.ref a)
  | ref {n : Nat} {a : Addr} : η[n]? = some a → Rep K η H (.ref n) (.ref a)
inductive Reps (K : PySem.W.Frag) (η : List Addr) (H : Hp) : List D → List V → Prop
  | nil : Reps K η H [] []
  | cons {d : D} {v : V} {ds : List D} {vs : List V} : Rep K η H d v → Reps K η H ds vs → Reps K η H (d :: ds) (v :: vs)
inductive Repk (K : PySem.W.Frag) (η : List Addr) (H : Hp) : List (Key × D) → List (Key × V) → Prop
  | nil : Repk K η H [] []
  | cons {k : Key} {d : D} {v : V} {ds : List (Key × D)} {vs : List (Key × V)} : Rep K η H d v → Repk K η H ds vs → Repk K η H ((k, d) :: ds) ((k, v) :: vs)
end

theorem nt_lst {vs : List V} (ps : Array Value) : HO.lst vs ≠ .tbl ps := nofun
theorem nt_tup {vs : List V} (ps : Array Value) : HO.tup vs ≠ .tbl ps := nofun
theorem nt_dK {vs : List (Key × V)} (ps : Array Value) : HO.dK vs ≠ .tbl ps := nofun
theorem nt_frz {o : Obj} {u : HO} (ps : Array Value) : HO.frz o u ≠ .tbl ps := nofun
structure Grow (η : List Addr) (H : Hp) (η' : List Addr) (H' : Hp) : Prop where
  pre : ∃ μ, η' = η ++ μ ∧ ∀ a ∈ μ, a ∉ η ∧ H a = none
  keep : ∀ a o, a ∉ η → (∀ ps, o ≠ .tbl ps) → H a = some o → H' a = some o
  tb : ∀ a, H a ≠ none → H' a ≠ none
  frz : ∀ a o u, H a = some (.frz o u) → H' a = some (.frz o u)

theorem Grow.refl (η : List Addr) (H : Hp) : Grow η H η H := ⟨⟨[], by simp, fun _ h => nomatch h⟩, fun _ _ _ _ h => h, fun _ h => h, fun _ _ _ h => h⟩
theorem Grow.notin {η η' : List Addr} {H H' : Hp} (g : Grow η H η' H') {a : Addr} {o : HO} (h : H a = some o) (n : a ∉ η) : a ∉ η' := by
  obtain ⟨μ, e, hμ⟩ := g.pre
  subst e
  intro hm
  rcases List.mem_append.mp hm with hm | hm
  · exact n hm
  · have := (hμ a hm).2
    rw [h] at this
    cases this
theorem Grow.trans {η η1 η2 : List Addr} {H H1 H2 : Hp} (g : Grow η H η1 H1) (g' : Grow η1 H1 η2 H2) : Grow η H η2 H2 := by
  obtain ⟨μ, e, hμ⟩ := g.pre
  obtain ⟨ν, e', hν⟩ := g'.pre
  refine ⟨⟨μ ++ ν, by rw [e', e, List.append_assoc], fun a ha => ?_⟩, fun a o n t h => g'.keep a o (g.notin h n) t (g.keep a o n t h), fun a h => g'.tb a (g.tb a h), fun a o u h => g'.frz a o u (g.frz a o u h)⟩
  rcases List.mem_append.mp ha with ha | ha
  · exact hμ a ha
  · obtain ⟨n1, z⟩ := hν a ha
    have n0 : a ∉ η := fun q => n1 (by rw [e]; exact List.mem_append_left _ q)
    refine ⟨n0, ?_⟩
    cases q : H a with
    | none => rfl
    | some o => exact absurd z (g.tb a (by rw [q]; simp))
theorem Grow.rd {η η' : List Addr} {H H' : Hp} (g : Grow η H η' H') {a : Addr} {u : HO} (r : Rd H a u) (n : a ∉ η) (t : ∀ ps, u ≠ .tbl ps) : Rd H' a u ∧ a ∉ η' := by
  rcases r with r | ⟨o, r⟩
  · exact ⟨.inl (g.keep _ _ n t r), g.notin r n⟩
  · exact ⟨.inr ⟨o, g.keep _ _ n nt_frz r⟩, g.notin r n⟩

mutual
theorem Rep.grow {K : PySem.W.Frag} {η η' : List Addr} {H H' : Hp} (g : Grow η H η' H') : ∀ {d : D} {v : V}, Rep K η H d v → Rep K η' H' d v
  | _, _, .non => .non
  | _, _, .bl b => .bl b
  | _, _, .int i => .int i
  | _, _, .str x => .str x
  | _, _, .tup h hs => by
    refine .tup ?_ (Reps.grow g hs)
    rcases h with h | h
    · exact .inl ⟨g.keep _ _ h.2 nt_tup h.1, g.notin h.1 h.2⟩
    · exact .inr h
  | _, _, .lst h hs => .lst ⟨g.keep _ _ h.2 nt_lst h.1, g.notin h.1 h.2⟩ (Reps.grow g hs)
  | _, _, .frz h hs => by
    refine .frz ?_ (Reps.grow g hs)
    rcases h with h | h
    · exact .inl (g.rd h.1 h.2 nt_lst)
    · exact .inr h
  | _, _, .dic h hs => .dic ⟨g.keep _ _ h.2 nt_dK h.1, g.notin h.1 h.2⟩ (Repk.grow g hs)
  | _, _, .ref h => by
    obtain ⟨μ, e, _⟩ := g.pre
    refine .ref ?_
    rw [e, List.getElem?_append_left (List.getElem?_eq_some_iff.mp h).1]
    exact h
theorem Reps.grow {K : PySem.W.Frag} {η η' : List Addr} {H H' : Hp} (g : Grow η H η' H') : ∀ {ds : List D} {vs : List V}, Reps K η H ds vs → Reps K η' H' ds vs
  | _, _, .nil => .nil
  | _, _, .cons h hs => .cons (Rep.grow g h) (Reps.grow g hs)
theorem Repk.grow {K : PySem.W.Frag} {η η' : List Addr} {H H' : Hp} (g : Grow η H η' H') : ∀ {ds : List (Key × D)} {vs : List (Key × V)}, Repk K η H ds vs → Repk K η' H' ds vs
  | _, _, .nil => .nil
  | _, _, .cons h hs => .cons (Rep.grow g h) (Repk.grow g hs)
end

section
variable {K : PySem.W.Frag} {η : List Addr} {H : Hp}
theorem Reps.length : ∀ {ds : List D} {vs : List V}, Reps K η H ds vs → ds.length = vs.length
  | _, _, .nil => rfl
  | _, _, .cons _ t => by simp [Reps.length t]
theorem Reps.get : ∀ {ds : List D} {vs : List V} {i : Nat} {d : D}, Reps K η H ds vs → ds[i]? = some d → ∃ v, vs[i]? = some v ∧ Rep K η H d v
  | _, _, _, _, .nil, e => by simp at e
  | _, _, 0, _, .cons r _, e => by simp at e; subst e; exact ⟨_, rfl, r⟩
  | _, _, i + 1, d, .cons _ t, e => by
    obtain ⟨v, h1, h2⟩ := Reps.get (i := i) (d := d) t (by simpa using e)
    exact ⟨v, by simpa using h1, h2⟩
theorem Reps.getV : ∀ {ds : List D} {vs : List V} {i : Nat} {v : V}, Reps K η H ds vs → vs[i]? = some v → ∃ d, ds[i]? = some d ∧ Rep K η H d v
  | _, _, _, _, .nil, e => by simp at e
  | _, _, 0, _, .cons r _, e => by simp at e; subst e; exact ⟨_, rfl, r⟩
  | _, _, i + 1, d, .cons _ t, e => by
    obtain ⟨v, h1, h2⟩ := Reps.getV (i := i) (v := d) t (by simpa using e)
    exact ⟨v, by simpa using h1, h2⟩
theorem Reps.append : ∀ {ds es : List D} {vs ws : List V}, Reps K η H ds vs → Reps K η H es ws → Reps K η H (ds ++ es) (vs ++ ws)
  | _, _, _, _, .nil, s => s
  | _, _, _, _, .cons r t, s => .cons r (Reps.append t s)
theorem Reps.take : ∀ {ds : List D} {vs : List V} (n : Nat), Reps K η H ds vs → Reps K η H (ds.take n) (vs.take n)
  | _, _, 0, _ => by simp; exact .nil
  | _, _, _ + 1, .nil => by simp; exact .nil
  | _, _, n + 1, .cons r t => .cons r (Reps.take n t)
theorem Reps.drop : ∀ {ds : List D} {vs : List V} (n : Nat), Reps K η H ds vs → Reps K η H (ds.drop n) (vs.drop n)
  | _, _, 0, r => r
  | _, _, _ + 1, .nil => .nil
  | _, _, n + 1, .cons _ t => Reps.drop n t
theorem Reps.set {d : D} {v : V} (r : Rep K η H d v) : ∀ {ds : List D} {vs : List V} (i : Nat), Reps K η H ds vs → Reps K η H (ds.set i d) (vs.set i v)
  | _, _, _, .nil => .nil
  | _, _, 0, .cons _ t => .cons r t
  | _, _, i + 1, .cons q t => .cons q (Reps.set r i t)
theorem Reps.eraseIdx : ∀ {ds : List D} {vs : List V} (i : Nat), Reps K η H ds vs → Reps K η H (ds.eraseIdx i) (vs.eraseIdx i)
  | _, _, _, .nil => .nil
  | _, _, 0, .cons _ t => t
  | _, _, i + 1, .cons q t => .cons q (Reps.eraseIdx i t)
theorem Reps.dropLast : ∀ {ds : List D} {vs : List V}, Reps K η H ds vs → Reps K η H ds.dropLast vs.dropLast
  | _, _, .nil => .nil
  | _, _, .cons q .nil => .nil
  | _, _, .cons q (.cons q' t) => .cons q (Reps.dropLast (.cons q' t))
theorem Reps.reverse {ds : List D} {vs : List V} (h : Reps K η H ds vs) : Reps K η H ds.reverse vs.reverse := by
  induction ds generalizing vs with
  | nil => cases h; exact .nil
  | cons d ds ih =>
    cases h with
    | cons r t =>
      rw [List.reverse_cons, List.reverse_cons]
      exact (ih t).append (.cons r .nil)
theorem Reps.replicate {ds : List D} {vs : List V} (h : Reps K η H ds vs) : ∀ n : Nat, Reps K η H (List.replicate n ds).flatten (List.replicate n vs).flatten
  | 0 => .nil
  | n + 1 => by
    rw [List.replicate_succ, List.replicate_succ, List.flatten_cons, List.flatten_cons]
    exact h.append (Reps.replicate h n)
theorem Reps.ints : ∀ (ns : List Int), Reps K η H (ns.map D.int) (ns.map V.int)
  | [] => .nil
  | n :: r => .cons (.int n) (Reps.ints r)
theorem Reps.strs : ∀ (ns : List Str), Reps K η H (ns.map D.str) (ns.map V.str)
  | [] => .nil
  | n :: r => .cons (.str n) (Reps.strs r)
end

/-! ### what stands throughout: τ -/
/-- the text of a nested function: a def's suite, or a lambda's expression -/
inductive CB where
  | st (b : List Stmt)
  | ex (e : Expr)
structure CF where
  name : Str
  qual : Str
  params : Arguments
  body : CB
  scope : Scope
  cl : List (Str × Addr)
  c : Addr
def CF.fd (F : CF) (doc pm ctv : Value) : FuncData := match F.body with
  | .st b => PySem.W.fnX F.name F.qual F.params b F.scope F.cl .none .none doc pm none (.ref F.c) ctv
  | .ex e => PySem.W.kla_fn F.name F.qual F.params e F.scope F.cl pm (.ref F.c) ctv
def FnC (f : Addr) (F : CF) : HO := .ext fun h => ∃ (od : Option Addr) (sl : Array (Option Value)) (doc pm ctv : Value), h.get? f = some (⟨.type "function", od, .func (F.fd doc pm ctv), sl⟩ : Obj)
structure Tau where
  /-- the token counter's lower bound -/
  lo : Nat
  /-- tables of code objects -/
  tabs : List NdefX.NTab
  /-- k's text: F, capturing the names fr -/
  txt : Nat → CF → List Str → Prop
  /-- the global function k stands at f -/
  gf : Nat → Addr → Prop
  /-- the slots that hold functions -/
  cp : List Nat
  /-- the running def's cells -/
  cells : List (Str × Addr)
  /-- the c-th class stands at C -/
  cls : Nat → Addr → Prop := fun _ _ => False

/-! ### the store -/
def OAt (cl : Nat → Addr → Prop) (K : PySem.W.Frag) (η : List Addr) (H : Hp) (a : Addr) : O → Prop
  | .lst ds => ∃ vs, H a = some (.lst vs) ∧ Reps K η H ds vs
  | .dic ds => ∃ vs, H a = some (.dK vs) ∧ Repk K η H ds vs
  | .fdic ds => ∃ o vs, H a = some (.frz o (.dK vs)) ∧ Repk K η H ds vs
  | .exc c fs => ∃ (C : Addr) (oe : Obj) (vs : List (Str × V)), cl c C ∧ H a = some (.frz oe (.own a)) ∧ oe.cls = .ref C ∧ (∃ ws, oe.data = .fields ws) ∧ ((oe.dict = none ∧ vs = []) ∨ ∃ dx, oe.dict = some dx ∧ dx ∉ η ∧ H dx = some (.xd vs)) ∧ fs.map (·.1) = vs.map (·.1) ∧ Reps K η H (fs.map (·.2)) (vs.map (·.2))
structure StoOk (τ : Tau) (K : PySem.W.Frag) (η : List Addr) (H : Hp) (S : Sto) : Prop where
  len : η.length = S.length
  nd : η.Nodup
  look : ∀ (n : Nat) (o : O) (a : Addr), S[n]? = some o → η[n]? = some a → OAt τ.cls K η H a o
  tabs : NdefX.TabsN τ.tabs H
def Trk (u : HO) : Prop := (∃ vs, u = .lst vs) ∨ (∃ vs, u = .dK vs) ∨ ∃ o w, u = .frz o w
theorem OAt.trk {cl : Nat → Addr → Prop} {K : PySem.W.Frag} {η : List Addr} {H : Hp} {a : Addr} {o : O} (h : OAt cl K η H a o) : ∃ u, H a = some u ∧ Trk u := by
  cases o with
  | lst ds => obtain ⟨vs, e, _⟩ := h; exact ⟨_, e, .inl ⟨vs, rfl⟩⟩
  | dic ds => obtain ⟨vs, e, _⟩ := h; exact ⟨_, e, .inr (.inl ⟨vs, rfl⟩)⟩
  | fdic ds => obtain ⟨o, vs, e, _⟩ := h; exact ⟨_, e, .inr (.inr ⟨o, _, rfl⟩)⟩
  | exc c fs => obtain ⟨C, oe, vs, _, e, _⟩ := h; exact ⟨_, e, .inr (.inr ⟨oe, _, rfl⟩)⟩
theorem StoOk.tracked {K : PySem.W.Frag} {η : List Addr} {H : Hp} {S : Sto} (s : StoOk τ K η H S) {a : Addr} (h : a ∈ η) : ∃ u, H a = some u ∧ Trk u := by
  obtain ⟨n, hn, e⟩ := List.getElem_of_mem h
  have h1 : η[n]? = some a := by rw [List.getElem?_eq_getElem hn, e]
  have hn' : n < S.length := by rw [← s.len]; exact hn
  exact (s.look n _ a (List.getElem?_eq_getElem hn') h1).trk
theorem StoOk.fresh {K : PySem.W.Frag} {η : List Addr} {H : Hp} {S : Sto} (s : StoOk τ K η H S) {p : Addr} (h : H p = none) : p ∉ η := fun hm => by
  obtain ⟨u, e, _⟩ := s.tracked hm
  rw [h] at e
  cases e

theorem tabs_upd {T : List NdefX.NTab} {H : Hp} {a : Addr} {o : HO} (t : NdefX.TabsN T H) (h1 : ∀ ps, H a ≠ some (.tbl ps)) (h2 : ∀ c q, H a ≠ some (LamX.CodeO c q)) : NdefX.TabsN T (upd H a o) := fun p hp => by
  obtain ⟨ps, e1, e2, e3⟩ := t p hp
  refine ⟨ps, by rw [upd_ne (fun z => h1 ps (by rw [← z]; exact e1))]; exact e1, e2, fun pos cv hc => ?_⟩
  obtain ⟨c, q1, q2⟩ := e3 pos cv hc
  exact ⟨c, q1, by rw [upd_ne (fun z => h2 c _ (by rw [← z]; exact q2))]; exact q2⟩
theorem tabs_new {T : List NdefX.NTab} {H : Hp} {a : Addr} {o : HO} (t : NdefX.TabsN T H) (h : H a = none) : NdefX.TabsN T (upd H a o) := tabs_upd t (fun ps e => by rw [h] at e; cases e) (fun c q e => by rw [h] at e; cases e)
theorem trk_tbl {u : HO} (t : Trk u) : (∀ ps, u ≠ .tbl ps) ∧ ∀ c q, u ≠ LamX.CodeO c q := by
  rcases t with ⟨vs, rfl⟩ | ⟨vs, rfl⟩ | ⟨o, vs, rfl⟩ <;> exact ⟨nofun, fun c q e => by unfold LamX.CodeO at e; cases e⟩
theorem tabs_trk {T : List NdefX.NTab} {H : Hp} {a : Addr} {u o : HO} (t : NdefX.TabsN T H) (h : H a = some u) (k : Trk u) : NdefX.TabsN T (upd H a o) :=
  tabs_upd t (fun ps e => (trk_tbl k).1 ps (Option.some.inj (h.symm.trans e))) fun c q e => (trk_tbl k).2 c q (Option.some.inj (h.symm.trans e))
theorem OAt.grow {cl : Nat → Addr → Prop} {K : PySem.W.Frag} {η η' : List Addr} {H H' : Hp} (g : Grow η H η' H') {a : Addr} {o : O} (h : OAt cl K η H a o) (e : H' a = H a) : OAt cl K η' H' a o := by
  cases o with
  | lst ds =>
    obtain ⟨vs, h1, h2⟩ := h
    exact ⟨vs, by rw [e]; exact h1, h2.grow g⟩
  | dic ds =>
    obtain ⟨vs, h1, h2⟩ := h
    exact ⟨vs, by rw [e]; exact h1, h2.grow g⟩
  | fdic ds =>
    obtain ⟨o, vs, h1, h2⟩ := h
    exact ⟨o, vs, by rw [e]; exact h1, h2.grow g⟩
  | exc c fs =>
    obtain ⟨C, oe, vs, h1, h2, h3, h4, h5, h6, h7⟩ := h
    exact ⟨C, oe, vs, h1, by rw [e]; exact h2, h3, h4, h5.imp id fun ⟨dx, d1, d2, d3⟩ => ⟨dx, d1, g.notin d3 d2, g.keep dx _ d2 nofun d3⟩, h6, h7.grow g⟩

/-- a new tracked thing that is no object of the store -/
theorem grow_new {K : PySem.W.Frag} {η : List Addr} {H : Hp} {S : Sto} (s : StoOk τ K η H S) {p : Addr} {u : HO} (hp : H p = none) : Grow η H η (upd H p u) :=
  ⟨⟨[], by simp, fun _ h => nomatch h⟩, fun a o _ _ h => by rw [upd_ne (ne_of_none h hp)]; exact h, fun a h => by unfold upd; split <;> first | exact h | simp, fun a o u h => by rw [upd_ne (ne_of_none h hp)]; exact h⟩
theorem StoOk.laid {K : PySem.W.Frag} {η : List Addr} {H : Hp} {S : Sto} (s : StoOk τ K η H S) {p : Addr} {u : HO} (hp : H p = none) : StoOk τ K η (upd H p u) S :=
  ⟨s.len, s.nd, fun n o a h1 h2 => (s.look n o a h1 h2).grow (grow_new s hp) (upd_ne fun e => s.fresh hp (e ▸ List.mem_of_getElem? h2)), tabs_new s.tabs hp⟩
/-- a new object of the store -/
theorem grow_push {K : PySem.W.Frag} {η : List Addr} {H : Hp} {S : Sto} (s : StoOk τ K η H S) {p : Addr} {u : HO} (hp : H p = none) : Grow η H (η ++ [p]) (upd H p u) :=
  ⟨⟨[p], rfl, fun a ha => by
    rw [List.mem_singleton] at ha
    subst ha
    exact ⟨s.fresh hp, hp⟩⟩, fun a o _ _ h => by rw [upd_ne (ne_of_none h hp)]; exact h, fun a h => by unfold upd; split <;> first | exact h | simp, fun a o u h => by rw [upd_ne (ne_of_none h hp)]; exact h⟩
theorem StoOk.pushO {K : PySem.W.Frag} {η : List Addr} {H : Hp} {S : Sto} (s : StoOk τ K η H S) {p : Addr} {u : HO} {oo : O} (hp : H p = none) (hr : OAt τ.cls K (η ++ [p]) (upd H p u) p oo) :
    StoOk τ K (η ++ [p]) (upd H p u) (S ++ [oo]) := by
  have g := grow_push (u := u) s hp
  refine ⟨by simp [s.len], ?_, fun n o a h1 h2 => ?_, tabs_new s.tabs hp⟩
  · rw [List.nodup_append]
    refine ⟨s.nd, by simp, fun a ha b hb => ?_⟩
    rw [List.mem_singleton] at hb
    subst hb
    exact fun e => s.fresh hp (e ▸ ha)
  · by_cases hn : n < S.length
    · rw [List.getElem?_append_left hn] at h1
      rw [List.getElem?_append_left (by rw [s.len]; exact hn)] at h2
      exact (s.look n o a h1 h2).grow g (upd_ne fun e => s.fresh hp (e ▸ List.mem_of_getElem? h2))
    · have hn1 : n = S.length := by
        have := (List.getElem?_eq_some_iff.mp h1).1
        simp at this
        omega
      subst hn1
      rw [List.getElem?_append_right (Nat.le_refl _)] at h1
      rw [List.getElem?_append_right (by rw [s.len]; exact Nat.le_refl _)] at h2
      simp at h1
      simp [s.len] at h2
      subst h1; subst h2
      exact hr
theorem StoOk.push {K : PySem.W.Frag} {η : List Addr} {H : Hp} {S : Sto} (s : StoOk τ K η H S) {p : Addr} {ds : List D} {vs : List V} (hp : H p = none) (hr : Reps K η H ds vs) :
    StoOk τ K (η ++ [p]) (upd H p (.lst vs)) (S ++ [.lst ds]) := s.pushO hp ⟨vs, upd_same, hr.grow (grow_push (u := .lst vs) s hp)⟩
/-- an object of the store turns -/
theorem grow_set {K : PySem.W.Frag} {η : List Addr} {H : Hp} {S : Sto} (s : StoOk τ K η H S) {a : Addr} {u : HO} (ha : a ∈ η) (hf : ∀ o w, H a ≠ some (.frz o w)) : Grow η H η (upd H a u) :=
  ⟨⟨[], by simp, fun _ h => nomatch h⟩, fun b o nb _ h => by rw [upd_ne (show b ≠ a from fun e => nb (by rw [e]; exact ha))]; exact h, fun a h => by unfold upd; split <;> first | exact h | simp, fun b o w h => by rw [upd_ne (show b ≠ a from fun e => hf o w (by rw [← e]; exact h))]; exact h⟩
theorem StoOk.setO {K : PySem.W.Frag} {η : List Addr} {H : Hp} {S : Sto} (s : StoOk τ K η H S) {n : Nat} {a : Addr} {u : HO} {oo : O} (ha : η[n]? = some a) (hf : ∀ o w, H a ≠ some (.frz o w)) (hr : OAt τ.cls K η (upd H a u) a oo) :
    StoOk τ K η (upd H a u) (S.set n oo) := by
  have hm : a ∈ η := List.mem_of_getElem? ha
  have g := grow_set (u := u) s hm hf
  refine ⟨by simp [s.len], s.nd, fun m o b h1 h2 => ?_, let ⟨u, e, k⟩ := s.tracked hm; tabs_trk s.tabs e k⟩
  by_cases hmn : m = n
  · subst hmn
    rw [ha] at h2
    cases h2
    have hl : m < S.length := by
      rw [← s.len]
      exact (List.getElem?_eq_some_iff.mp ha).1
    rw [List.getElem?_set_self hl] at h1
    cases h1
    exact hr
  · rw [List.getElem?_set_ne (Ne.symm hmn)] at h1
    refine (s.look m o b h1 h2).grow g (upd_ne fun e => hmn ?_)
    subst e
    obtain ⟨i1, e1⟩ := List.getElem?_eq_some_iff.mp h2
    obtain ⟨i2, e2⟩ := List.getElem?_eq_some_iff.mp ha
    exact (List.getElem_inj s.nd).mp (e1.trans e2.symm)
theorem StoOk.set {K : PySem.W.Frag} {η : List Addr} {H : Hp} {S : Sto} (s : StoOk τ K η H S) {n : Nat} {a : Addr} {ds : List D} {vs : List V} (ha : η[n]? = some a) (hf : ∀ o w, H a ≠ some (.frz o w)) (hr : Reps K η H ds vs) :
    StoOk τ K η (upd H a (.lst vs)) (S.set n (.lst ds)) := s.setO ha hf ⟨vs, upd_same, hr.grow (grow_set (u := .lst vs) s (List.mem_of_getElem? ha) hf)⟩

/-! ### slots -/
inductive CapsRep (K : PySem.W.Frag) (η : List Addr) (H : Hp) : List D → List (Option V) → Prop
  | nil : CapsRep K η H [] []
  | cons {d : D} {v : V} {ds : List D} {ws : List (Option V)} : Rep K η H d v → CapsRep K η H ds ws → CapsRep K η H (d :: ds) (some v :: ws)
theorem CapsRep.grow {K : PySem.W.Frag} {η η' : List Addr} {H H' : Hp} (g : Grow η H η' H') : ∀ {ds : List D} {ws : List (Option V)}, CapsRep K η H ds ws → CapsRep K η' H' ds ws
  | _, _, .nil => .nil
  | _, _, .cons h t => .cons (h.grow g) (t.grow g)
/-- the function F stands at f -/
structure FAt (η : List Addr) (H : Hp) (f : Addr) (F : CF) : Prop where
  fo : H f = some (FnC f F)
  fn : f ∉ η
  co : H F.c = some (LamX.CodeO F.c F.qual)
  cn : F.c ∉ η
theorem fnC_tbl {f : Addr} {F : CF} (ps : Array Value) : FnC f F ≠ .tbl ps := fun z => by
  unfold FnC at z
  cases z
theorem FAt.grow {η η' : List Addr} {H H' : Hp} {f : Addr} {F : CF} (h : FAt η H f F) (g : Grow η H η' H') : FAt η' H' f F :=
  ⟨g.keep _ _ h.fn fnC_tbl h.fo, g.notin h.fo h.fn, g.keep _ _ h.cn LamX.codeO_ne h.co, g.notin h.co h.cn⟩
/-- the value v is the function d (B: where its cells stand) -/
inductive CloV (τ : Tau) (K : PySem.W.Frag) (B : Heap) (η : List Addr) (H : Hp) : D → V → Prop
  | gl {k : Nat} {f : Addr} : τ.gf k f → CloV τ K B η H (.clo k []) (.ref f)
  | lo {k : Nat} {caps : List D} {f : Addr} {F : CF} {fr : List Str} {ws : List (Option V)} : τ.txt k F fr → FAt η H f F → NdefX.CellsAt F.cl fr ws B (fun _ => none) → CapsRep K η H caps ws → CloV τ K B η H (.clo k caps) (.ref f)
  | own {k : Nat} {f : Addr} {F : CF} {fr : List Str} : τ.txt k F fr → FAt η H f F → F.cl = cloFrom τ.cells F.scope.names [] → CloV τ K B η H (.own k) (.ref f)
theorem CloV.grow {τ : Tau} {K : PySem.W.Frag} {B : Heap} {η η' : List Addr} {H H' : Hp} (g : Grow η H η' H') {d : D} {v : V} (h : CloV τ K B η H d v) : CloV τ K B η' H' d v := by
  cases h with
  | gl h => exact .gl h
  | lo h1 h2 h3 h4 => exact .lo h1 (h2.grow g) h3 (h4.grow g)
  | own h1 h2 h3 => exact .own h1 (h2.grow g) h3
structure SRel (τ : Tau) (K : PySem.W.Frag) (B : Heap) (η : List Addr) (H : Hp) (σ : St) (ρ : Env) : Prop where
  len : ρ.length = σ.length
  lookC : ∀ (i : Nat) (d : D), ρ[i]? = some (some d) → ∃ v, σ[i]? = some (some v) ∧ (Rep K η H d v ∨ (i ∈ τ.cp ∧ CloV τ K B η H d v))
theorem SRel.look {τ : Tau} {K : PySem.W.Frag} {B : Heap} {η : List Addr} {H : Hp} {σ : St} {ρ : Env} (h : SRel τ K B η H σ ρ) (i : Nat) (d : D) (hi : i ∉ τ.cp) (e : ρ[i]? = some (some d)) : ∃ v, σ[i]? = some (some v) ∧ Rep K η H d v :=
  let ⟨v, h1, h2⟩ := h.lookC i d e
  ⟨v, h1, h2.elim id fun z => absurd z.1 hi⟩
theorem SRel.grow {τ : Tau} {K : PySem.W.Frag} {B : Heap} {η η' : List Addr} {H H' : Hp} {σ : St} {ρ : Env} (h : SRel τ K B η H σ ρ) (g : Grow η H η' H') : SRel τ K B η' H' σ ρ :=
  ⟨h.len, fun i d e => let ⟨v, h1, h2⟩ := h.lookC i d e; ⟨v, h1, h2.imp (·.grow g) fun z => ⟨z.1, z.2.grow g⟩⟩⟩
theorem SRel.setC {τ : Tau} {K : PySem.W.Frag} {B : Heap} {η : List Addr} {H : Hp} {σ : St} {ρ : Env} (h : SRel τ K B η H σ ρ) {d : D} {v : V} {i : Nat} (r : Rep K η H d v ∨ (i ∈ τ.cp ∧ CloV τ K B η H d v)) : SRel τ K B η H (σ.set i (some v)) (ρ.set i (some d)) := by
  refine ⟨by simp [h.len], fun j e hj => ?_⟩
  by_cases hij : i = j
  · subst hij
    have hl : i < ρ.length := by
      have := (List.getElem?_eq_some_iff.mp hj).1
      simpa using this
    rw [List.getElem?_set_self hl] at hj
    cases hj
    exact ⟨v, List.getElem?_set_self (by rw [← h.len]; exact hl), r⟩
  · rw [List.getElem?_set_ne hij] at hj
    rw [List.getElem?_set_ne hij]
    exact h.lookC j e hj
theorem SRel.set {τ : Tau} {K : PySem.W.Frag} {B : Heap} {η : List Addr} {H : Hp} {σ : St} {ρ : Env} (h : SRel τ K B η H σ ρ) {d : D} {v : V} (r : Rep K η H d v) (i : Nat) : SRel τ K B η H (σ.set i (some v)) (ρ.set i (some d)) := h.setC (.inl r)

/-! ### what a run gives -/
def Good (τ : Tau) (K : PySem.W.Frag) (η : List Addr) (H : Hp) (S' : Sto) (d : D) : VK := fun v H' => ∃ η', Grow η H η' H' ∧ StoOk τ K η' H' S' ∧ Rep K η' H' d v
abbrev Wp (β : Type) := (β → Shared → Prop) → (Value → Shared → Prop) → Shared → Prop
abbrev sem {β : Type} (X : Cx) (t : Sem β) : Wp β := fun Q E s => wpAny (model X.prog X.w) X.A t Q E s
/-- behind W (from slots σ, heap H, store at η) the result r: its value in rel to what W gives -/
def Out {α β : Type} (τ : Tau) (X : Cx) (pins : List (Addr × Obj)) (η : List Addr) (H : Hp) (rel : L2.St → List Addr → Hp → α → β → Prop) (r : R α) (W : Wp β) (s : Shared) : Prop :=
  match r with
  | .bad => True
  | .ok a S' => ∀ E : Value → Shared → Prop, W (fun u s' => τ.lo ≤ s'.toks ∧ ∃ σ' η' H', Inv X pins σ' H' s' ∧ Grow η H η' H' ∧ StoOk τ X.K η' H' S' ∧ rel σ' η' H' a u) E s
def relV (K : PySem.W.Frag) (σ : L2.St) : L2.St → List Addr → Hp → D → Value → Prop := fun σ' η H d u => σ' = σ ∧ ∃ v, RelV v u ∧ Rep K η H d v
def relL (K : PySem.W.Frag) (σ : L2.St) : L2.St → List Addr → Hp → List D → List Value → Prop := fun σ' η H ds us => σ' = σ ∧ ∃ vs, Vals vs us ∧ Reps K η H ds vs
def relB (σ : L2.St) : L2.St → List Addr → Hp → Bool → Bool → Prop := fun σ' _ _ a b => σ' = σ ∧ a = b

section
variable {X : Cx} {pins : List (Addr × Obj)} {σ : L2.St} {η : List Addr} {H : Hp} {s : Shared}
theorem out_ok {t : Sem Value} {d : D} {S' : Sto} (tk : τ.lo ≤ s.toks) (h : ∀ E, wpAny (model X.prog X.w) X.A t (EP (X.wish E) pins σ (Good τ X.K η H S' d)) E s) : Out τ X pins η H (relV X.K σ) (.ok d S') (sem X t) s := by
  intro E
  refine wpAny_mono (PySem.wpAny_toks (h E)) (fun u s' q => ?_) fun _ _ z => z.2
  obtain ⟨hk, v, H', I', r, η', g, st, rp⟩ := q
  exact ⟨Nat.le_trans tk hk, σ, η', H', I'.unwish, g, st, rfl, v, r, rp⟩
theorem out_tt {t : Sem Bool} {b : Bool} {S' : Sto} (tk : τ.lo ≤ s.toks) (h : ∀ E, wpAny (model X.prog X.w) X.A t (TP (X.wish E) pins σ (fun c H' => b = c ∧ ∃ η', Grow η H η' H' ∧ StoOk τ X.K η' H' S')) E s) : Out τ X pins η H (relB σ) (.ok b S') (sem X t) s := by
  intro E
  refine wpAny_mono (PySem.wpAny_toks (h E)) (fun u s' q => ?_) fun _ _ z => z.2
  obtain ⟨hk, H', I', e, η', g, st⟩ := q
  exact ⟨Nat.le_trans tk hk, σ, η', H', I'.unwish, g, st, rfl, e⟩
/-- one after another -/
theorem Out.seq {α β γ δ : Type} {rel : L2.St → List Addr → Hp → α → β → Prop} {rel2 : L2.St → List Addr → Hp → γ → δ → Prop} {m : M α} {f : α → M γ} {S : Sto} {t1 : Sem β} {W : Wp δ} {W2 : β → Wp δ}
    (hT : ∀ Q E, wpAny (model X.prog X.w) X.A t1 (fun u s' => W2 u Q E s') E s → W Q E s) (h1 : Out τ X pins η H rel (m S) (sem X t1) s)
    (h2 : ∀ u s1 σ1 η1 H1 a S1, m S = .ok a S1 → τ.lo ≤ s1.toks → Inv X pins σ1 H1 s1 → Grow η H η1 H1 → StoOk τ X.K η1 H1 S1 → rel σ1 η1 H1 a u → Out τ X pins η H rel2 (f a S1) (W2 u) s1) :
    Out τ X pins η H rel2 ((m >>= f) S) W s := by
  show Out τ X pins η H rel2 (match m S with | .ok a S' => f a S' | .bad => .bad) W s
  cases q : m S with
  | bad => trivial
  | ok a S1 =>
    rw [q] at h1
    show Out τ X pins η H rel2 (f a S1) W s
    cases q2 : f a S1 with
    | bad => trivial
    | ok c S2 =>
      intro E
      refine hT _ E (wpAny_mono (h1 E) (fun u s1 z => ?_) fun _ _ z => z)
      obtain ⟨tk, σ1, η1, H1, I1, g1, st1, r1⟩ := z
      have k := h2 u s1 σ1 η1 H1 a S1 q tk I1 g1 st1 r1
      rw [q2] at k
      exact k E
def MonoW {β : Type} (W : Wp β) : Prop := ∀ Q Q' E s, (∀ u s, Q u s → Q' u s) → W Q E s → W Q' E s
theorem mono_sem {β : Type} (t : Sem β) : MonoW (sem X t) := fun _ _ _ _ h w => wpAny_mono w h fun _ _ z => z
theorem mono_then {β γ : Type} (t : Sem β) {W : β → Wp γ} (h : ∀ u, MonoW (W u)) : MonoW (fun Q E s => wpAny (model X.prog X.w) X.A t (fun u s' => W u Q E s') E s) := fun Q Q' E s hQ w => wpAny_mono w (fun u s' z => h u Q Q' E s' hQ z) fun _ _ z => z
/-- the base of an Out further back -/
theorem Out.back {α β : Type} {η1 : List Addr} {H1 : Hp} {rel : L2.St → List Addr → Hp → α → β → Prop} {r : R α} {W : Wp β} (hm : MonoW W) (g : Grow η H η1 H1) (h : Out τ X pins η1 H1 rel r W s) : Out τ X pins η H rel r W s := by
  cases r with
  | bad => trivial
  | ok a S' =>
    intro E
    refine hm _ _ E s (fun u s1 z => ?_) (h E)
    obtain ⟨tk, σ1, η1, H1, I1, g1, st1, r1⟩ := z
    exact ⟨tk, σ1, η1, H1, I1, g.trans g1, st1, r1⟩
theorem Out.via {α β : Type} {rel : L2.St → List Addr → Hp → α → β → Prop} {r : R α} {W W' : Wp β} (hv : ∀ Q E, W' Q E s → W Q E s) (h : Out τ X pins η H rel r W' s) : Out τ X pins η H rel r W s := by
  cases r with
  | bad => trivial
  | ok a S' => exact fun E => hv _ E (h E)
/-- no exception is asked for -/
theorem Out.never {α β : Type} {rel : L2.St → List Addr → Hp → α → β → Prop} {r : R α} {t : Sem β} (h : ∀ a S', r = .ok a S' → wpAny (model X.prog X.w) X.A t (fun u s' => τ.lo ≤ s'.toks ∧ ∃ σ' η' H', Inv X pins σ' H' s' ∧ Grow η H η' H' ∧ StoOk τ X.K η' H' S' ∧ rel σ' η' H' a u) (fun _ _ => False) s) :
    Out τ X pins η H rel r (sem X t) s := by
  cases r with
  | bad => trivial
  | ok a S' => exact fun E => wpAny_mono (h a S' rfl) (fun _ _ z => z) fun _ _ z => z.elim
end

/-! ### judgements of expressions by functions -/
def PD (τ : Tau) (X : Cx) (e : Expr) (g : Env → M D) : Prop := ∀ (pins : List (Addr × Obj)) (s : Shared) (σ : L2.St) (H : Hp) (ρ : Env) (η : List Addr) (S : Sto),
  Inv X pins σ H s → τ.lo ≤ s.toks → SRel τ X.K X.base η H σ ρ → StoOk τ X.K η H S → Out τ X pins η H (relV X.K σ) (g ρ S) (sem X (eval e X.env)) s
def PDB (τ : Tau) (X : Cx) (e : Expr) (g : Env → M Bool) : Prop := ∀ (pins : List (Addr × Obj)) (s : Shared) (σ : L2.St) (H : Hp) (ρ : Env) (η : List Addr) (S : Sto),
  Inv X pins σ H s → τ.lo ≤ s.toks → SRel τ X.K X.base η H σ ρ → StoOk τ X.K η H S → Out τ X pins η H (relB σ) (g ρ S) (sem X (isTrue e X.env (eval e X.env))) s
def PDL (τ : Tau) (X : Cx) (es : List Expr) (g : Env → M (List D)) : Prop := ∀ (pos : Pos) (pins : List (Addr × Obj)) (s : Shared) (σ : L2.St) (H : Hp) (ρ : Env) (η : List Addr) (S : Sto),
  Inv X pins σ H s → τ.lo ≤ s.toks → SRel τ X.K X.base η H σ ρ → StoOk τ X.K η H S → Out τ X pins η H (relL X.K σ) (g ρ S) (sem X (spliced (backTo pos (starEach es X.env)))) s

/-- a PE without parts of ours -/
theorem pd_of {X : Cx} {e : Expr} {g : Env → M D} (h : ∀ (E : Value → Shared → Prop) (σ : L2.St) (H : Hp) (ρ : Env) (η : List Addr) (S : Sto) (d : D) (S' : Sto), SRel τ X.K X.base η H σ ρ → StoOk τ X.K η H S → g ρ S = .ok d S' →
    ∃ t, PE (X.wish E) e t ∧ t σ H (Good τ X.K η H S' d)) : PD τ X e g := by
  intro pins s σ H ρ η S I tk sr st
  cases q : g ρ S with
  | bad => trivial
  | ok d S' =>
    refine out_ok tk fun E => ?_
    obtain ⟨t, ht, hq⟩ := h E σ H ρ η S d S' sr st q
    exact ht.run pins s σ H _ (I.wish E) hq

/-! ### operations by values -/
def Op1 (τ : Tau) (X : Cx) (f : Value → Sem Value) (g : D → M D) : Prop := ∀ (pins : List (Addr × Obj)) (s : Shared) (σ : L2.St) (H : Hp) (η : List Addr) (S : Sto) (x : V) (v : Value) (d : D),
  Inv X pins σ H s → τ.lo ≤ s.toks → StoOk τ X.K η H S → RelV x v → Rep X.K η H d x → Out τ X pins η H (relV X.K σ) (g d S) (sem X (f v)) s
def Op2 (τ : Tau) (X : Cx) (f : Value → Value → Sem Value) (g : D → D → M D) : Prop := ∀ (pins : List (Addr × Obj)) (s : Shared) (σ : L2.St) (H : Hp) (η : List Addr) (S : Sto) (x y : V) (v u : Value) (d e : D),
  Inv X pins σ H s → τ.lo ≤ s.toks → StoOk τ X.K η H S → RelV x v → RelV y u → Rep X.K η H d x → Rep X.K η H e y → Out τ X pins η H (relV X.K σ) (g d e S) (sem X (f v u)) s
def OpL (τ : Tau) (X : Cx) (f : List Value → Sem Value) (g : List D → M D) : Prop := ∀ (pins : List (Addr × Obj)) (s : Shared) (σ : L2.St) (H : Hp) (η : List Addr) (S : Sto) (xs : List V) (us : List Value) (ds : List D),
  Inv X pins σ H s → τ.lo ≤ s.toks → StoOk τ X.K η H S → Vals xs us → Reps X.K η H ds xs → Out τ X pins η H (relV X.K σ) (g ds S) (sem X (f us)) s
end MP

/-! MP2: the operations of built-in types, by functions over D. -/
namespace MP
open PySem L2

abbrev SL : Nat := 16777216
theorem sl_le {n : Nat} (h : n ≤ SL) : n ≤ sizeLine := by rw [sizeLine_eq]; exact h
theorem sl_lt {n : Nat} (h : n < SL) : n < sizeLine := by rw [sizeLine_eq]; exact h

/-! ### the items of a list; new lists and tuples -/
def items (S : Sto) : D → Option (List D)
  | .lst ds => some ds
  | .ref n => match S[n]? with
    | some (.lst ds) => some ds
    | _ => none
  | _ => none
def itemsR (S : Sto) : D → Option (List D)
  | .frz ds => some ds
  | d => items S d
def newL (m : Bool) (ds : List D) : M D := fun S => if m then .ok (.ref S.length) (S ++ [.lst ds]) else .ok (.lst ds) S

section
variable {K : PySem.W.Frag} {η : List Addr} {H : Hp} {S : Sto}
theorem items_at {d : D} {ds : List D} {x : V} (st : StoOk τ K η H S) (r : Rep K η H d x) (h : items S d = some ds) : ∃ a vs, x = .ref a ∧ H a = some (.lst vs) ∧ Reps K η H ds vs := by
  cases r with
  | lst h1 h2 => cases h; exact ⟨_, _, rfl, h1.1, h2⟩
  | @ref n a h1 =>
    have h : (match S[n]? with | some (.lst ds) => some ds | _ => none) = some ds := h
    cases q : S[n]? with
    | none => rw [q] at h; cases h
    | some o =>
      cases o with
      | lst es =>
        rw [q] at h
        cases h
        obtain ⟨vs, h3, h4⟩ := st.look n _ a q h1
        exact ⟨a, vs, rfl, h3, h4⟩
      | dic es => rw [q] at h; cases h
      | fdic es => rw [q] at h; cases h
      | exc _ _ => rw [q] at h; cases h
  | _ => cases h
theorem itemsR_at {d : D} {ds : List D} {x : V} (st : StoOk τ K η H S) (r : Rep K η H d x) (h : itemsR S d = some ds) : ∃ a vs, x = .ref a ∧ SqL K H a vs ∧ Reps K η H ds vs := by
  cases r with
  | frz h1 h2 => cases h; exact ⟨_, _, rfl, h1.sq, h2⟩
  | non => cases h
  | bl => cases h
  | int => cases h
  | str => cases h
  | tup => cases h
  | dic => cases h
  | lst h1 h2 =>
    obtain ⟨a, vs, e, h3, h4⟩ := items_at st (.lst h1 h2) h
    exact ⟨a, vs, e, SqL.of h3, h4⟩
  | ref h1 =>
    obtain ⟨a, vs, e, h3, h4⟩ := items_at st (.ref h1) h
    exact ⟨a, vs, e, SqL.of h3, h4⟩
theorem good_here {d : D} {v : V} (st : StoOk τ K η H S) (r : Rep K η H d v) : Good τ K η H S d v H := ⟨η, .refl _ _, st, r⟩
theorem good_newL {m : Bool} {ds : List D} {vs : List V} {p : Addr} {d : D} {S' : Sto} (st : StoOk τ K η H S) (hr : Reps K η H ds vs) (hp : H p = none) (h : newL m ds S = .ok d S') : Good τ K η H S' d (.ref p) (upd H p (.lst vs)) := by
  unfold newL at h
  cases m with
  | true =>
    rw [if_pos rfl] at h
    cases h
    refine ⟨η ++ [p], grow_push st hp, st.push hp hr, .ref ?_⟩
    rw [← st.len, List.getElem?_append_right (Nat.le_refl _)]
    simp
  | false =>
    rw [if_neg Bool.false_ne_true] at h
    cases h
    exact ⟨η, grow_new st hp, st.laid hp, .lst ⟨upd_same, st.fresh hp⟩ (hr.grow (grow_new st hp))⟩
theorem good_newT {ds : List D} {vs : List V} {p : Addr} (st : StoOk τ K η H S) (hr : Reps K η H ds vs) (hp : H p = none) : Good τ K η H S (.tup ds) (.ref p) (upd H p (.tup vs)) :=
  ⟨η, grow_new st hp, st.laid hp, .tup (.inl ⟨upd_same, st.fresh hp⟩) (hr.grow (grow_new st hp))⟩
theorem good_set {n : Nat} {a : Addr} {ds : List D} {vs : List V} {d : D} {v : V} (st : StoOk τ K η H S) (ha : η[n]? = some a) (hf : ∀ o w, H a ≠ some (.frz o w)) (hr : Reps K η H ds vs) (r : Rep K η H d v) : Good τ K η H (S.set n (.lst ds)) d v (upd H a (.lst vs)) :=
  ⟨η, grow_set st (List.mem_of_getElem? ha) hf, st.set ha hf hr, r.grow (grow_set st (List.mem_of_getElem? ha) hf)⟩
theorem nofrz {a : Addr} {u : HO} (h : H a = some u) (hu : ∀ o w, u ≠ .frz o w) : ∀ o w, H a ≠ some (.frz o w) := fun o w e => by
  rw [h] at e
  exact hu o w (Option.some.inj e)
theorem nofrzL {a : Addr} {vs : List V} (h : H a = some (.lst vs)) : ∀ o w, H a ≠ some (.frz o w) := nofrz h fun _ _ e => by cases e
theorem nofrzD {a : Addr} {vs : List (Key × V)} (h : H a = some (.dK vs)) : ∀ o w, H a ≠ some (.frz o w) := nofrz h fun _ _ e => by cases e
end

/-! ### + -/
def b2 (b : Bool) : Int := if b = true then 1 else 0
def addD (m : Bool) (d e : D) : M D := match d, e with
  | .int i, .int j => pure (.int (i + j))
  | .bl a, .int j => pure (.int (b2 a + j))
  | .int i, .bl b => pure (.int (i + b2 b))
  | .str x, .str y => if x.length + y.length ≤ SL then pure (.str (x ++ y)) else M.fail
  | .tup xs, .tup ys => if xs.length + ys.length ≤ SL then pure (.tup (xs ++ ys)) else M.fail
  | d, e => fun S => match items S d, items S e with
    | some xs, some ys => if xs.length + ys.length ≤ SL then newL m (xs ++ ys) S else .bad
    | _, _ => .bad
section
variable {X : Cx}
theorem add_lists {m : Bool} {pins : List (Addr × Obj)} {s : Shared} {σ : L2.St} {H : Hp} {η : List Addr} {S : Sto} {x y : V} {v u : Value} {d e : D} (I : Inv X pins σ H s) (tk : τ.lo ≤ s.toks) (st : StoOk τ X.K η H S) (rx : RelV x v) (ry : RelV y u)
    (rd : Rep X.K η H d x) (re : Rep X.K η H e y) : Out τ X pins η H (relV X.K σ) (match items S d, items S e with
      | some xs, some ys => if xs.length + ys.length ≤ SL then newL m (xs ++ ys) S else .bad
      | _, _ => .bad) (sem X (binaryOp .Add v u)) s := by
  cases q1 : items S d with
  | none => trivial
  | some xs =>
    cases q2 : items S e with
    | none => trivial
    | some ys =>
      by_cases hz : xs.length + ys.length ≤ SL
      · dsimp only
        rw [if_pos hz]
        obtain ⟨a, vs, rfl, h1, h2⟩ := items_at st rd q1
        obtain ⟨b, ws, rfl, h3, h4⟩ := items_at st re q2
        cases q3 : newL m (xs ++ ys) S with
        | bad => trivial
        | ok d' S' =>
          exact out_ok tk fun E => op_cat (X := X.wish E) pins s σ H _ _ v u _ (I.wish E) rx ry ⟨a, b, vs, ws, rfl, rfl, h1, h3, sl_le (by rw [← h2.length, ← h4.length]; exact hz), fun p hp => good_newL st (h2.append h4) hp q3⟩
      · dsimp only
        rw [if_neg hz]
        trivial
theorem op_addD (m : Bool) : Op2 τ X (binaryOp .Add) (addD m) := by
  intro pins s σ H η S x y v u d e I tk st rx ry rd re
  have key := add_lists (m := m) I tk st rx ry rd re
  cases rd with
  | int i =>
    cases re with
    | int j => exact out_ok tk fun E => op_add (X := X.wish E) pins s σ H _ _ v u _ (I.wish E) rx ry ⟨i, j, rfl, rfl, good_here st (.int _)⟩
    | bl b =>
      obtain ⟨t, rfl⟩ := rx
      cases ry
      exact out_ok tk fun E => PySem.add_int_bool ⟨.int (i + b2 b), H, (I.wish E).tok _, ⟨_, rfl⟩, good_here st (.int _)⟩
    | _ => exact key
  | bl a =>
    cases re with
    | int j =>
      obtain ⟨t, rfl⟩ := ry
      cases rx
      exact out_ok tk fun E => PySem.IntBool.add_bool_int ⟨.int (b2 a + j), H, (I.wish E).tok _, ⟨_, rfl⟩, good_here st (.int _)⟩
    | _ => exact key
  | str a =>
    cases re with
    | str b =>
      show Out τ X pins η H (relV X.K σ) ((if a.length + b.length ≤ SL then pure (D.str (a ++ b)) else M.fail : M D) S) _ s
      by_cases hz : a.length + b.length ≤ SL
      · rw [if_pos hz]
        exact out_ok tk fun E => op_add_str (X := X.wish E) pins s σ H _ _ v u _ (I.wish E) rx ry ⟨a, b, rfl, rfl, sl_le hz, good_here st (.str _)⟩
      · rw [if_neg hz]
        trivial
    | _ => exact key
  | @tup a vs ds h1 h2 =>
    cases re with
    | @tup b ws es h3 h4 =>
      show Out τ X pins η H (relV X.K σ) ((if ds.length + es.length ≤ SL then pure (D.tup (ds ++ es)) else M.fail : M D) S) _ s
      by_cases hz : ds.length + es.length ≤ SL
      · rw [if_pos hz]
        refine out_ok tk fun E => op_catA (X := X.wish E) pins s σ H _ _ v u _ (I.wish E) rx ry ⟨a, b, vs, ws, rfl, rfl, h1.sq, h3.sq, sl_le (by rw [← h2.length, ← h4.length]; exact hz), fun e => ?_, fun _ e => ?_, fun _ _ p hp => good_newT st (h2.append h4) hp⟩
        · subst e
          cases h2
          exact good_here st (.tup h3 h4)
        · subst e
          cases h4
          rw [List.append_nil]
          exact good_here st (.tup h1 h2)
      · rw [if_neg hz]
        trivial
    | _ => exact key
  | _ => cases re <;> exact key
end

/-! ### - * // % ** -/
theorem rep_size (c : Array Nat) : ∀ (n : Nat) (acc : Array Nat), (List.foldl (fun x1 x2 => x1 ++ x2) acc (List.replicate n c)).size = acc.size + n * c.size
  | 0, acc => by simp
  | n + 1, acc => by
    rw [List.replicate_succ, List.foldl_cons, rep_size c n, Array.size_append, Nat.succ_mul]
    omega
def subD : D → D → M D
  | .int i, .int j => pure (.int (i - j))
  | .bl a, .int j => pure (.int (b2 a - j))
  | .int i, .bl b => pure (.int (i - b2 b))
  | _, _ => M.fail
def mulD : D → D → M D
  | .int i, .int j => if (-(2 ^ 64) < i ∧ i < 2 ^ 64) ∨ (-(2 ^ 64) < j ∧ j < 2 ^ 64) then pure (.int (i * j)) else M.fail
  | .str x, .int k => if 2 ≤ k ∧ k ≤ 1000 ∧ 1 ≤ x.length ∧ x.length ≤ 1000 then pure (.str ⟨(List.replicate k.toNat x.cps).foldl (· ++ ·) #[]⟩) else M.fail
  | .tup xs, .int k => if xs ≠ [] ∧ 2 ≤ k ∧ k ≤ 1000 ∧ xs.length ≤ 1000 then pure (.tup (List.replicate k.toNat xs).flatten) else M.fail
  | _, _ => M.fail
def fdivD : D → D → M D
  | .int i, .int j => if 0 < j ∧ j < 1073741824 then pure (.int (i / j)) else M.fail
  | _, _ => M.fail
def modD : D → D → M D
  | .int i, .int j => if 0 < j then pure (.int (i % j)) else M.fail
  | _, _ => M.fail
def powD : D → D → M D
  | .int i, .int j => if 0 ≤ j ∧ j ≤ 1000000 ∧ i.natAbs < 2 ^ 64 then pure (.int (i ^ j.toNat)) else M.fail
  | _, _ => M.fail
section
variable {X : Cx}
theorem op_subD : Op2 τ X (binaryOp .Sub) subD := by
  intro pins s σ H η S x y v u d e I tk st rx ry rd re
  cases rd with
  | int i =>
    cases re with
    | int j => exact out_ok tk fun E => op_sub (X := X.wish E) pins s σ H _ _ v u _ (I.wish E) rx ry ⟨i, j, rfl, rfl, good_here st (.int _)⟩
    | bl b =>
      obtain ⟨t, rfl⟩ := rx
      cases ry
      exact out_ok tk fun E => PySem.IntBool.sub_int_bool ⟨.int (i - b2 b), H, (I.wish E).tok _, ⟨_, rfl⟩, good_here st (.int _)⟩
    | _ => trivial
  | bl a =>
    cases re with
    | int j =>
      obtain ⟨t, rfl⟩ := ry
      cases rx
      exact out_ok tk fun E => PySem.IntBool.sub_bool_int ⟨.int (b2 a - j), H, (I.wish E).tok _, ⟨_, rfl⟩, good_here st (.int _)⟩
    | _ => trivial
  | _ => cases re <;> trivial
theorem op_fdivD : Op2 τ X (binaryOp .FloorDiv) fdivD := by
  intro pins s σ H η S x y v u d e I tk st rx ry rd re
  cases rd with
  | int i =>
    cases re with
    | int j =>
      show Out τ X pins η H (relV X.K σ) ((if 0 < j ∧ j < 1073741824 then pure (.int (i / j)) else M.fail : M D) S) _ s
      by_cases hz : 0 < j ∧ j < 1073741824
      · rw [if_pos hz]
        exact out_ok tk fun E => op_fdiv (X := X.wish E) pins s σ H _ _ v u _ (I.wish E) rx ry ⟨i, j, rfl, rfl, hz, good_here st (.int _)⟩
      · rw [if_neg hz]; trivial
    | _ => trivial
  | _ => cases re <;> trivial
theorem op_modD : Op2 τ X (binaryOp .Mod) modD := by
  intro pins s σ H η S x y v u d e I tk st rx ry rd re
  cases rd with
  | int i =>
    cases re with
    | int j =>
      show Out τ X pins η H (relV X.K σ) ((if 0 < j then pure (.int (i % j)) else M.fail : M D) S) _ s
      by_cases hz : 0 < j
      · rw [if_pos hz]
        exact out_ok tk fun E => op_mod (X := X.wish E) pins s σ H _ _ v u _ (I.wish E) rx ry ⟨i, j, rfl, rfl, hz, good_here st (.int _)⟩
      · rw [if_neg hz]; trivial
    | _ => trivial
  | _ => cases re <;> trivial
theorem op_powD : Op2 τ X (binaryOp .Pow) powD := by
  intro pins s σ H η S x y v u d e I tk st rx ry rd re
  cases rd with
  | int i =>
    cases re with
    | int j =>
      show Out τ X pins η H (relV X.K σ) ((if 0 ≤ j ∧ j ≤ 1000000 ∧ i.natAbs < 2 ^ 64 then pure (.int (i ^ j.toNat)) else M.fail : M D) S) _ s
      by_cases hz : 0 ≤ j ∧ j ≤ 1000000 ∧ i.natAbs < 2 ^ 64
      · rw [if_pos hz]
        exact out_ok tk fun E => op_pow (X := X.wish E) pins s σ H _ _ v u _ (I.wish E) rx ry ⟨i, j, rfl, rfl, hz, good_here st (.int _)⟩
      · rw [if_neg hz]; trivial
    | _ => trivial
  | _ => cases re <;> trivial
theorem op_mulD : Op2 τ X (binaryOp .Mult) mulD := by
  intro pins s σ H η S x y v u d e I tk st rx ry rd re
  cases rd with
  | int i =>
    cases re with
    | int j =>
      show Out τ X pins η H (relV X.K σ) ((if (-(2 ^ 64) < i ∧ i < 2 ^ 64) ∨ (-(2 ^ 64) < j ∧ j < 2 ^ 64) then pure (.int (i * j)) else M.fail : M D) S) _ s
      by_cases hz : (-(2 ^ 64) < i ∧ i < 2 ^ 64) ∨ (-(2 ^ 64) < j ∧ j < 2 ^ 64)
      · rw [if_pos hz]
        exact out_ok tk fun E => op_mul (X := X.wish E) pins s σ H _ _ v u _ (I.wish E) rx ry ⟨i, j, rfl, rfl, hz, good_here st (.int _)⟩
      · rw [if_neg hz]; trivial
    | _ => trivial
  | str a =>
    cases re with
    | int k =>
      show Out τ X pins η H (relV X.K σ) ((if 2 ≤ k ∧ k ≤ 1000 ∧ 1 ≤ a.length ∧ a.length ≤ 1000 then pure (.str ⟨(List.replicate k.toNat a.cps).foldl (· ++ ·) #[]⟩) else M.fail : M D) S) _ s
      by_cases hz : 2 ≤ k ∧ k ≤ 1000 ∧ 1 ≤ a.length ∧ a.length ≤ 1000
      · rw [if_pos hz]
        obtain ⟨h1, h2, h3, h4⟩ := hz
        obtain ⟨t, rfl⟩ := rx
        obtain ⟨t', rfl⟩ := ry
        refine out_ok tk fun E => P.mul_str ?_ ?_ ?_ ?_
        · simp; omega
        · intro _ _
          have : (1000 : Int) ≤ (2 ^ 63 - 1) / k := by
            rw [Int.le_ediv_iff_mul_le (by omega)]
            omega
          omega
        · intro _ _
          show decide (a.length * k.toNat > sizeLine) = false
          rw [decide_eq_false_iff_not, sizeLine_eq]
          have : a.length * k.toNat ≤ 1000 * 1000 := Nat.mul_le_mul h4 (by omega)
          omega
        · have c1 : ¬ k < 1 := by omega
          have c2 : ¬ (k == 1 || a.length == 0) = true := by
            rw [Bool.or_eq_true, beq_iff_eq, beq_iff_eq]
            omega
          rw [if_neg c1, if_neg c2]
          refine ⟨sl_le ?_, ⟨.str _, _, (I.wish E).tok _, ⟨_, rfl⟩, good_here st (.str _)⟩⟩
          show (List.foldl (fun x1 x2 => x1 ++ x2) #[] (List.replicate k.toNat a.cps)).size ≤ SL
          rw [rep_size]
          have : k.toNat * a.length ≤ 1000 * 1000 := Nat.mul_le_mul (by omega) h4
          show 0 + k.toNat * a.length ≤ 16777216
          omega
      · rw [if_neg hz]; trivial
    | _ => trivial
  | @tup a vs ds h1 h2 =>
    cases re with
    | int k =>
      show Out τ X pins η H (relV X.K σ) ((if ds ≠ [] ∧ 2 ≤ k ∧ k ≤ 1000 ∧ ds.length ≤ 1000 then pure (.tup (List.replicate k.toNat ds).flatten) else M.fail : M D) S) _ s
      by_cases hz : ds ≠ [] ∧ 2 ≤ k ∧ k ≤ 1000 ∧ ds.length ≤ 1000
      · rw [if_pos hz]
        obtain ⟨z1, z2, z3, z4⟩ := hz
        refine out_ok tk fun E => op_repT (X := X.wish E) pins s σ H _ _ v u _ (I.wish E) rx ry ⟨a, k, vs, rfl, rfl, h1.sq, fun z => z1 ?_, z2, z3, by rw [← h2.length]; exact z4, fun p hp => good_newT st (h2.replicate _) hp⟩
        subst z
        cases h2
        rfl
      · rw [if_neg hz]; trivial
    | _ => trivial
  | _ => cases re <;> trivial
end
end MP

/-! MP3: data; comparisons, in, is, subscripts, slices. -/
namespace MP
open PySem L2

/-! ### data -/
def keyP : Key → PyData
  | .inl i => .int i
  | .inr x => .str x
mutual
def deep : D → Option PyData
  | .non => some .none
  | .bl b => some (.bool b)
  | .int i => some (.int i)
  | .str x => some (.str x)
  | .tup xs => (deeps xs).map .tuple
  | .lst xs => (deeps xs).map .list
  | .frz _ => none
  | .dic kvs => (deepk kvs).map .dict
  | .ref _ => none
  | .clo .. => none
  | .own _ => none
def deeps : List D → Option (List PyData)
  | [] => some []
  | x :: xs => match deep x, deeps xs with
    | some a, some b => some (a :: b)
    | _, _ => none
def deepk : List (Key × D) → Option (List (PyData × PyData))
  | [] => some []
  | (k, x) :: xs => match deep x, deepk xs with
    | some a, some b => some ((keyP k, a) :: b)
    | _, _ => none
end
section
variable {X : Cx} {pins : List (Addr × Obj)} {σ : L2.St} {H : Hp} {s : Shared} {η : List Addr}
theorem keys_read {P : Program} {w : World} {h : Heap} : ∀ {vs : List (Key × Value)} {es : List DictEntry}, Pairs (mixKind P w) es vs → ReadsAll h (es.map (·.key)) ((vs.map (·.1)).map keyP) []
  | _, _, .nil => .nil
  | _, _, .cons (e := e) (kv := kv) hk hv hr => by
    have key : Reads h e.key (keyP kv.1) [] := by
      rcases keyIs_shape hk with ⟨i, t, e1, e2⟩ | ⟨x, t, e1, e2⟩
      · rw [e1, e2]; exact Reads.int i t
      · rw [e1, e2]; exact Reads.str x t
    exact ReadsAll.cons (as := []) (bs := []) key (keys_read hr)
theorem vals_pairs {P : Program} {w : World} : ∀ {kvs : List (Key × V)} {vs : List (Key × Value)} {es : List DictEntry}, KV kvs vs → Pairs (mixKind P w) es vs → Vals (kvs.map (·.2)) (es.map (·.val)) ∧ kvs.map (·.1) = vs.map (·.1)
  | _, _, _, .nil, .nil => ⟨.nil, rfl⟩
  | _, _, _, .cons h1 h2, .cons _ hv hr => by
    obtain ⟨a, b⟩ := vals_pairs h2 hr
    refine ⟨.cons (by dsimp only; rw [hv]; exact h1.2) a, ?_⟩
    rw [List.map_cons, List.map_cons, h1.1, b]
theorem repk_vals {K : PySem.W.Frag} : ∀ {kds : List (Key × D)} {kvs : List (Key × V)}, Repk K η H kds kvs → Reps K η H (kds.map (·.2)) (kvs.map (·.2)) ∧ kds.map (·.1) = kvs.map (·.1)
  | _, _, .nil => ⟨.nil, rfl⟩
  | _, _, .cons h1 h2 => by
    obtain ⟨a, b⟩ := repk_vals h2
    exact ⟨.cons h1 a, by rw [List.map_cons, List.map_cons, b]⟩
theorem deepk_split : ∀ {kds : List (Key × D)} {ps : List (PyData × PyData)}, deepk kds = some ps → deeps (kds.map (·.2)) = some (ps.map (·.2)) ∧ (kds.map (·.1)).map keyP = ps.map (·.1)
  | [], _, h => by cases h; exact ⟨rfl, rfl⟩
  | (k, x) :: r, ps, h => by
    cases q1 : deep x with
    | none => simp [deepk, q1] at h
    | some a =>
      cases q2 : deepk r with
      | none => simp [deepk, q1, q2] at h
      | some b =>
        simp [deepk, q1, q2] at h
        subst h
        obtain ⟨e1, e2⟩ := deepk_split q2
        exact ⟨by simp [deeps, q1, e1], by simp; simpa using e2⟩
mutual
theorem rep_reads (hb : ∃ o, X.base.get? sysModules = some o) (I : Inv X pins σ H s) : ∀ {d : D} {v : V} {p : PyData} {u : Value}, Rep X.K η H d v → deep d = some p → RelV v u → ∃ as, Reads s.heap u p as ∧ sysModules ∉ as
  | _, _, _, _, .non, h, r => by cases h; cases r; exact ⟨_, Reads.none, by simp⟩
  | _, _, _, _, .bl b, h, r => by cases h; cases r; exact ⟨_, Reads.bool b, by simp⟩
  | _, _, _, _, .int i, h, r => by cases h; obtain ⟨t, rfl⟩ := r; exact ⟨_, Reads.int i t, by simp⟩
  | _, _, _, _, .str x, h, r => by cases h; obtain ⟨t, rfl⟩ := r; exact ⟨_, Reads.str x t, by simp⟩
  | _, _, _, _, .tup (ds := ds) h1 h2, h, r => by
    cases q : deeps ds with
    | none => simp [deep, q] at h
    | some ps =>
      simp [deep, q] at h
      subst h
      cases r
      obtain ⟨its, rv, ⟨o, ho, hc, n, hd⟩, _⟩ := I.tuple h1.sq
      obtain ⟨as, hr, hs⟩ := reps_reads hb I h2 q rv
      exact ⟨_, Reads.tuple ho hc hd (by simpa using hr), hs⟩
  | _, _, _, _, .lst (a := a) (ds := ds) h1 h2, h, r => by
    cases q : deeps ds with
    | none => simp [deep, q] at h
    | some ps =>
      simp [deep, q] at h
      subst h
      cases r
      obtain ⟨its, rv, ⟨o, n, ho, hc, _, hd⟩, _⟩ := I.list (LstAt.sq (K := X.K) h1)
      obtain ⟨as, hr, hs⟩ := reps_reads hb I h2 q rv
      refine ⟨_, Reads.list ho hc hd (by simpa using hr), fun z => ?_⟩
      rcases List.mem_cons.mp z with z | z
      · obtain ⟨ob, eb⟩ := hb
        have := (I.bs _ _ eb).2
        rw [z, h1.1] at this
        cases this
      · exact hs z
  | _, _, _, _, .frz h1 h2, h, r => by cases h
  | _, _, _, _, .dic (a := a) (kvs := kvs) (kds := kds) h1 h2, h, r => by
    cases q : deepk kds with
    | none => simp [deep, q] at h
    | some ps =>
      simp [deep, q] at h
      subst h
      cases r
      obtain ⟨_, hne, vs, hkv, o, es, ep, ho, hx, hd, _, hp, _⟩ := I.hok a _ h1.1
      obtain ⟨rv, e1⟩ := vals_pairs hkv hp
      obtain ⟨rk, e2⟩ := repk_vals h2
      obtain ⟨e3, e4⟩ := deepk_split q
      obtain ⟨as, hr, hs⟩ := repk_reads hb I h2 q rv
      have hk := keys_read (h := s.heap) hp
      rw [← e1, ← e2, e4] at hk
      refine ⟨_, Reads.dict ho hx.1 hd hk hr, fun z => ?_⟩
      rcases List.mem_cons.mp z with z | z
      · simp [z] at hne
      · exact hs (by simpa using z)
  | _, _, _, _, .ref h1, h, r => by cases h
theorem reps_reads (hb : ∃ o, X.base.get? sysModules = some o) (I : Inv X pins σ H s) : ∀ {ds : List D} {vs : List V} {ps : List PyData} {us : List Value}, Reps X.K η H ds vs → deeps ds = some ps → Vals vs us → ∃ as, ReadsAll s.heap us ps as ∧ sysModules ∉ as
  | _, _, _, _, .nil, h, r => by cases h; cases r; exact ⟨_, ReadsAll.nil, by simp⟩
  | _, _, _, _, .cons (d := d) (ds := ds) h1 h2, h, r => by
    cases r with
    | cons r1 r2 =>
      cases q1 : deep d with
      | none => simp [deeps, q1] at h
      | some a =>
        cases q2 : deeps ds with
        | none => simp [deeps, q1, q2] at h
        | some b =>
          simp [deeps, q1, q2] at h
          subst h
          obtain ⟨as, a1, a2⟩ := rep_reads hb I h1 q1 r1
          obtain ⟨bs, b1, b2⟩ := reps_reads hb I h2 q2 r2
          exact ⟨_, ReadsAll.cons a1 b1, by simp [a2, b2]⟩
theorem repk_reads (hb : ∃ o, X.base.get? sysModules = some o) (I : Inv X pins σ H s) : ∀ {ds : List (Key × D)} {vs : List (Key × V)} {ps : List (PyData × PyData)} {us : List Value}, Repk X.K η H ds vs → deepk ds = some ps → Vals (vs.map (·.2)) us → ∃ as, ReadsAll s.heap us (ps.map (·.2)) as ∧ sysModules ∉ as
  | _, _, _, _, .nil, h, r => by cases h; cases r; exact ⟨_, ReadsAll.nil, by simp⟩
  | _, _, _, _, .cons (d := d) (ds := ds) h1 h2, h, r => by
    cases r with
    | cons r1 r2 =>
      cases q1 : deep d with
      | none => simp [deepk, q1] at h
      | some a =>
        cases q2 : deepk ds with
        | none => simp [deepk, q1, q2] at h
        | some b =>
          simp [deepk, q1, q2] at h
          subst h
          obtain ⟨as, a1, a2⟩ := rep_reads hb I h1 q1 r1
          obtain ⟨bs, b1, b2⟩ := repk_reads hb I h2 q2 r2
          exact ⟨_, ReadsAll.cons a1 b1, by simp [a2, b2]⟩
end
end
end MP

/-! MP4: repr, comparisons, in, is, subscripts, slices. -/
namespace MP
open PySem L2

structure Ck (n : Nat) (X : Cx) : Prop where
  calm : X.calm = true
  gd : X.A.guards = some []
  rm : Room n X.A
  sm : ∃ o, X.base.get? sysModules = some o
  nd : X.N.Nodup
theorem Ck.units {n : Nat} {X : Cx} (c : Ck n X) {k : Nat} (h : k ≤ 190) : X.A.units + k < cLine := by
  have := c.rm.un
  omega

/-! ### repr -/
def reprD (d : D) : M D := match deep d with
  | some p => if p.showable = true ∧ p.depth ≤ 150 ∧ p.shown.length ≤ SL then pure (.str p.shown) else M.fail
  | none => M.fail
section
variable {X : Cx} {n : Nat}
theorem call_reprD (c : Ck n X) : Op1 τ X (fun v => call (.builtin "repr") [v]) reprD := by
  intro pins s σ H η S x v d I tk st rx rd
  unfold reprD
  cases q : deep d with
  | none => trivial
  | some p =>
    dsimp only
    by_cases hz : p.showable = true ∧ p.depth ≤ 150 ∧ p.shown.length ≤ SL
    · rw [if_pos hz]
      obtain ⟨h1, h2, h3⟩ := hz
      obtain ⟨as, hr, hs⟩ := rep_reads c.sm I rd q rx
      refine out_ok tk fun E => ?_
      cases hr with
      | none => exact PySem.P.repr_of_none ⟨.str _, H, (I.wish E).tok _, ⟨_, rfl⟩, by simp only [PyData.shown]; exact good_here st (.str _)⟩
      | bool b => exact PySem.P.repr_of_bool ⟨.str _, H, (I.wish E).tok _, ⟨_, rfl⟩, by simp only [PyData.shown]; exact good_here st (.str _)⟩
      | int i t => exact PySem.P.repr_of_int (by simpa [PyData.showable] using h1) ⟨.str _, H, (I.wish E).tok _, ⟨_, rfl⟩, by simp only [PyData.shown]; exact good_here st (.str _)⟩
      | str y t =>
        simp only [PyData.shown] at h3
        exact PySem.P.repr_of_str (hsz := sl_le h3) ⟨.str _, H, (I.wish E).tok _, ⟨_, rfl⟩, by simp only [PyData.shown]; exact good_here st (.str _)⟩
      | list a1 a2 a3 a4 =>
        refine repr_of_reads' (.list a1 a2 a3 a4) h1 (fun _ => hs) c.gd (c.units (by omega)) (fun _ _ e => e) (hsz := sl_le h3) ?_
        intro h' u' tk' hk
        exact ⟨.str _, H, (I.wish E).kept hk, ⟨_, rfl⟩, good_here st (.str _)⟩
      | tuple a1 a2 a3 a4 =>
        refine repr_of_reads' (.tuple a1 a2 a3 a4) h1 (fun _ => hs) c.gd (c.units (by omega)) (fun _ _ e => e) (hsz := sl_le h3) ?_
        intro h' u' tk' hk
        exact ⟨.str _, H, (I.wish E).kept hk, ⟨_, rfl⟩, good_here st (.str _)⟩
      | dict a1 a2 a3 a4 a5 =>
        refine repr_of_reads' (.dict a1 a2 a3 a4 a5) h1 (fun _ => hs) c.gd (c.units (by omega)) (fun _ _ e => e) (hsz := sl_le h3) ?_
        intro h' u' tk' hk
        exact ⟨.str _, H, (I.wish E).kept hk, ⟨_, rfl⟩, good_here st (.str _)⟩
    · rw [if_neg hz]; trivial
end

/-! ### == and != -/
def scalE : D → D → Option Bool
  | .non, .non => some true
  | .int i, .int j => some (decide (i = j))
  | .bl a, .bl b => some (decide (a = b))
  | .str x, .str y => some (decide (x = y))
  | .non, .int _ => some false
  | .non, .bl _ => some false
  | .non, .str _ => some false
  | .int _, .non => some false
  | .bl _, .non => some false
  | .str _, .non => some false
  | .int _, .str _ => some false
  | .str _, .int _ => some false
  | .bl _, .str _ => some false
  | .str _, .bl _ => some false
  | _, _ => none
def emptE (S : Sto) : D → D → Option Bool
  | .tup xs, .tup ys => if (xs.isEmpty || ys.isEmpty) = true then some (xs.isEmpty && ys.isEmpty) else none
  | d, e => match items S d, items S e with
    | some xs, some ys => if (xs.isEmpty || ys.isEmpty) = true then some (xs.isEmpty && ys.isEmpty) else none
    | _, _ => none
def dataE (d e : D) : Option Bool := match deep d, deep e with
  | some a, some b => if a.canLay0 = true ∧ b.canLay0 = true ∧ a.depth ≤ 150 then some (PyData.eqv a b) else none
  | _, _ => none
def eqE (S : Sto) (d e : D) : Option Bool := match scalE d e with
  | some b => some b
  | none => match emptE S d e with
    | some b => some b
    | none => dataE d e
def eqD (d e : D) : M D := fun S => match eqE S d e with
  | some b => .ok (.bl b) S
  | none => .bad
def neD (d e : D) : M D := fun S => match eqE S d e with
  | some b => .ok (.bl (!b)) S
  | none => .bad

section
variable {X : Cx} {n : Nat} {pins : List (Addr × Obj)} {s : Shared} {σ : L2.St} {H : Hp} {η : List Addr} {S : Sto} {x y : V} {v u : Value} {d e : D} {E : Value → Shared → Prop}
theorem scalE_ok {b : Bool} (rd : Rep X.K η H d x) (re : Rep X.K η H e y) (h : scalE d e = some b) : scal x y = true ∧ decide (x = y) = b := by
  cases rd <;> cases re <;> first
    | (cases h; done)
    | (simp only [scalE, Option.some.injEq] at h
       subst h
       refine ⟨rfl, ?_⟩
       simp)
theorem empty_reps {ds : List D} {vs : List V} (h : Reps X.K η H ds vs) : ds.isEmpty = vs.isEmpty := by
  cases h <;> rfl
/-- both ways of a comparison of two sequences of which one is empty -/
theorem emptE_ok {b : Bool} (I : Inv X pins σ H s) (c : Ck n X) (st : StoOk τ X.K η H S) (rx : RelV x v) (ry : RelV y u) (rd : Rep X.K η H d x) (re : Rep X.K η H e y) (h : emptE S d e = some b) :
    SeqAt.RcAt X.A s v u b ∧ SeqAt.RcNeAt X.A s v u (!b) := by
  have hu : X.A.units < cLine := c.units (k := 0) (by omega)
  have lists : ∀ {ds es : List D}, items S d = some ds → items S e = some es → (if (ds.isEmpty || es.isEmpty) = true then some (ds.isEmpty && es.isEmpty) else none) = some b → SeqAt.RcAt X.A s v u b ∧ SeqAt.RcNeAt X.A s v u (!b) := by
    intro ds es h1 h2 h3
    obtain ⟨a1, vs, rfl, k1, k2⟩ := items_at st rd h1
    obtain ⟨a2, ws, rfl, k3, k4⟩ := items_at st re h2
    cases rx
    cases ry
    obtain ⟨its, r1, p1, _⟩ := I.list (SqL.of (K := X.K) k1)
    obtain ⟨its2, r2, p2, _⟩ := I.list (SqL.of (K := X.K) k3)
    have l1 : ds.length = its.length := k2.length.trans r1.length
    have l2 : es.length = its2.length := k4.length.trans r2.length
    by_cases hz : its.toArray.size = its2.toArray.size
    · have e0 : its.length = its2.length := by simpa using hz
      have hb : its = [] := by
        split at h3
        · rename_i hc
          cases ds with
          | nil => exact List.eq_nil_of_length_eq_zero (by rw [← l1]; rfl)
          | cons _ _ =>
            cases es with
            | nil => exact List.eq_nil_of_length_eq_zero (by rw [e0, ← l2]; rfl)
            | cons _ _ => simp at hc
        · cases h3
      subst hb
      have e1 : its2 = [] := List.eq_nil_of_length_eq_zero (by rw [← e0]; rfl)
      subst e1
      have d1 : ds = [] := List.eq_nil_of_length_eq_zero l1
      have d2 : es = [] := List.eq_nil_of_length_eq_zero l2
      subst d1; subst d2
      have : b = true := by simpa using h3.symm
      subst this
      exact ⟨SeqAt.RcAt.lists (e := fun _ => true) p1.isList p2.isList hz hu (fun j h1 => absurd h1 (by simp)), SeqAt.RcNeAt.lists (e := fun _ => true) p1.isList p2.isList hz hu (fun j h1 => absurd h1 (by simp))⟩
    · have : b = false := by
        split at h3
        · cases ds with
          | nil =>
            cases es with
            | nil => exact absurd (by simp [← l1, ← l2]) hz
            | cons _ _ => simpa using h3.symm
          | cons _ _ => simpa using h3.symm
        · cases h3
      subst this
      have hne : (its.toArray.size != its2.toArray.size) = true := by simpa using hz
      exact ⟨SeqAt.RcAt.lists_lengths p1.isList p2.isList hne hu, SeqAt.RcNeAt.lists_lengths p1.isList p2.isList hne hu⟩
  cases rd with
  | @tup a1 vs ds h1 h2 =>
    cases re with
    | @tup a2 ws es h3 h4 =>
      have h : (if (ds.isEmpty || es.isEmpty) = true then some (ds.isEmpty && es.isEmpty) else none) = some b := h
      cases rx
      cases ry
      obtain ⟨its, r1, p1, _⟩ := I.tuple h1.sq
      obtain ⟨its2, r2, p2, _⟩ := I.tuple h3.sq
      have l1 : ds.length = its.length := h2.length.trans r1.length
      have l2 : es.length = its2.length := h4.length.trans r2.length
      have no : ∀ j, j < its.toArray.size → j < its2.toArray.size → False := by
        intro j g1 g2
        split at h
        · rename_i hc
          cases ds with
          | nil => simp [← l1] at g1
          | cons _ _ =>
            cases es with
            | nil => simp [← l2] at g2
            | cons _ _ => simp at hc
        · cases h
      have hb : b = ((List.range (min its.toArray.size its2.toArray.size)).all (fun _ => true) && its.toArray.size == its2.toArray.size) := by
        have ea : (List.range (min its.toArray.size its2.toArray.size)).all (fun _ => true) = true := by simp
        rw [ea, Bool.true_and]
        split at h
        · rename_i hc
          have h := Option.some.inj h
          rw [← h]
          have e1 : ds.isEmpty = decide (its.length = 0) := by rw [← l1]; cases ds <;> simp
          have e2 : es.isEmpty = decide (its2.length = 0) := by rw [← l2]; cases es <;> simp
          rw [e1, e2] at hc ⊢
          simp only [List.size_toArray]
          by_cases z1 : its.length = 0
          · by_cases z2 : its2.length = 0
            · simp [z1, z2]
            · have : ¬ its.length = its2.length := by omega
              simp [z1, z2]
              omega
          · have z2 : its2.length = 0 := by simpa [z1] using hc
            have : ¬ its.length = its2.length := by omega
            simp [z1, z2]
        · cases h
      refine ⟨?_, ?_⟩
      · rw [hb]
        exact SeqAt.RcAt.tuples (e := fun _ => true) p1 p2 hu (fun j g1 g2 => (no j g1 g2).elim)
      · rw [hb]
        exact SeqAt.RcNeAt.tuples (e := fun _ => true) p1 p2 hu (fun j g1 g2 => (no j g1 g2).elim)
    | _ => cases h
  | @lst a1 vs ds h1 h2 =>
    have h : (match items S (.lst ds), items S e with
      | some xs, some ys => if (xs.isEmpty || ys.isEmpty) = true then some (xs.isEmpty && ys.isEmpty) else none
      | _, _ => none) = some b := h
    cases q2 : items S e with
    | none => rw [q2] at h; cases h
    | some es =>
      rw [q2] at h
      exact lists rfl q2 h
  | @ref m a1 h1 =>
    have h : (match items S (.ref m), items S e with
      | some xs, some ys => if (xs.isEmpty || ys.isEmpty) = true then some (xs.isEmpty && ys.isEmpty) else none
      | _, _ => none) = some b := h
    cases q1 : items S (.ref m) with
    | none => rw [q1] at h; cases h
    | some ds =>
      cases q2 : items S e with
      | none => rw [q1, q2] at h; cases h
      | some es =>
        rw [q1, q2] at h
        exact lists q1 q2 h
  | _ => cases h
theorem op_eqDD (c : Ck n X) : Op2 τ X (compareOp .Eq) eqD := by
  intro pins s σ H η S x y v u d e I tk st rx ry rd re
  unfold eqD
  cases q : eqE S d e with
  | none => trivial
  | some b =>
    refine out_ok tk fun E => ?_
    unfold eqE at q
    cases q1 : scalE d e with
    | some b' =>
      rw [q1] at q
      cases q
      obtain ⟨h1, h2⟩ := scalE_ok rd re q1
      refine op_eq (X := X.wish E) pins s σ H _ _ v u _ (I.wish E) rx ry ⟨h1, ?_⟩
      rw [h2]
      exact good_here st (.bl _)
    | none =>
      rw [q1] at q
      cases q2 : emptE S d e with
      | some b' =>
        simp only [q2] at q
        cases q
        exact (emptE_ok I c st rx ry rd re q2).1 X.prog X.w E _ ⟨.bl _, H, I.wish E, rfl, good_here st (.bl _)⟩
      | none =>
        simp only [q2] at q
        unfold dataE at q
        cases q3 : deep d with
        | none => rw [q3] at q; cases q
        | some a =>
          cases q4 : deep e with
          | none => rw [q3, q4] at q; cases q
          | some b' =>
            rw [q3, q4] at q
            dsimp only at q
            split at q
            · rename_i hz
              cases q
              obtain ⟨as, r1, _⟩ := rep_reads c.sm I rd q3 rx
              obtain ⟨bs, r2, _⟩ := rep_reads c.sm I re q4 ry
              exact SeqAt.compareEq_reads r1 r2 hz.1 hz.2.1 (c.units (Nat.le_trans (Nat.min_le_left _ _) (by omega))) ⟨.bl _, H, I.wish E, rfl, good_here st (.bl _)⟩
            · cases q
theorem op_neDD (c : Ck n X) : Op2 τ X (compareOp .NotEq) neD := by
  intro pins s σ H η S x y v u d e I tk st rx ry rd re
  unfold neD
  cases q : eqE S d e with
  | none => trivial
  | some b =>
    refine out_ok tk fun E => ?_
    unfold eqE at q
    cases q1 : scalE d e with
    | some b' =>
      rw [q1] at q
      cases q
      obtain ⟨h1, h2⟩ := scalE_ok rd re q1
      refine op_ne (X := X.wish E) pins s σ H _ _ v u _ (I.wish E) rx ry ⟨h1, ?_⟩
      rw [h2]
      exact good_here st (.bl _)
    | none =>
      rw [q1] at q
      cases q2 : emptE S d e with
      | some b' =>
        simp only [q2] at q
        cases q
        exact (emptE_ok I c st rx ry rd re q2).2 X.prog X.w E _ ⟨.bl _, H, I.wish E, rfl, good_here st (.bl _)⟩
      | none =>
        simp only [q2] at q
        unfold dataE at q
        cases q3 : deep d with
        | none => rw [q3] at q; cases q
        | some a =>
          cases q4 : deep e with
          | none => rw [q3, q4] at q; cases q
          | some b' =>
            rw [q3, q4] at q
            dsimp only at q
            split at q
            · rename_i hz
              cases q
              obtain ⟨as, r1, _⟩ := rep_reads c.sm I rd q3 rx
              obtain ⟨bs, r2, _⟩ := rep_reads c.sm I re q4 ry
              exact SeqAt.compareNe_reads r1 r2 hz.1 hz.2.1 (c.units (Nat.le_trans (Nat.min_le_left _ _) (by omega))) ⟨.bl _, H, I.wish E, rfl, good_here st (.bl _)⟩
            · cases q
end
end MP

/-! MP5: order, in, is, subscripts, slices, built-in functions. -/
namespace MP
open PySem L2

/-! ### order -/
def ltS (x y : Str) : Bool := decide (x.cps.toList < y.cps.toList)
def ltD : D → D → M D
  | .int i, .int j => pure (.bl (decide (i < j)))
  | .str x, .str y => pure (.bl (ltS x y))
  | _, _ => M.fail
def leD : D → D → M D
  | .int i, .int j => pure (.bl (decide (i ≤ j)))
  | .str x, .str y => pure (.bl (!ltS y x))
  | _, _ => M.fail
def gtD : D → D → M D
  | .int i, .int j => pure (.bl (decide (j < i)))
  | .str x, .str y => pure (.bl (ltS y x))
  | _, _ => M.fail
def geD : D → D → M D
  | .int i, .int j => pure (.bl (decide (j ≤ i)))
  | .str x, .str y => pure (.bl (!ltS x y))
  | _, _ => M.fail
section
variable {X : Cx}
theorem op_ltDD : Op2 τ X (compareOp .Lt) ltD := by
  intro pins s σ H η S x y v u d e I tk st rx ry rd re
  cases rd with
  | int i =>
    cases re with
    | int j => exact out_ok tk fun E => op_lt (X := X.wish E) pins s σ H _ _ v u _ (I.wish E) rx ry ⟨i, j, rfl, rfl, good_here st (.bl _)⟩
    | _ => trivial
  | str i =>
    cases re with
    | str j => exact out_ok tk fun E => op_lt_str (X := X.wish E) pins s σ H _ _ v u _ (I.wish E) rx ry ⟨i, j, rfl, rfl, good_here st (.bl _)⟩
    | _ => trivial
  | _ => cases re <;> trivial
theorem op_leDD : Op2 τ X (compareOp .LtE) leD := by
  intro pins s σ H η S x y v u d e I tk st rx ry rd re
  cases rd with
  | int i =>
    cases re with
    | int j => exact out_ok tk fun E => op_le (X := X.wish E) pins s σ H _ _ v u _ (I.wish E) rx ry ⟨i, j, rfl, rfl, good_here st (.bl _)⟩
    | _ => trivial
  | str i =>
    cases re with
    | str j => exact out_ok tk fun E => op_le_str (X := X.wish E) pins s σ H _ _ v u _ (I.wish E) rx ry ⟨i, j, rfl, rfl, good_here st (.bl _)⟩
    | _ => trivial
  | _ => cases re <;> trivial
theorem op_gtDD : Op2 τ X (compareOp .Gt) gtD := by
  intro pins s σ H η S x y v u d e I tk st rx ry rd re
  cases rd with
  | int i =>
    cases re with
    | int j => exact out_ok tk fun E => op_gt (X := X.wish E) pins s σ H _ _ v u _ (I.wish E) rx ry ⟨i, j, rfl, rfl, good_here st (.bl _)⟩
    | _ => trivial
  | str i =>
    cases re with
    | str j => exact out_ok tk fun E => op_gt_str (X := X.wish E) pins s σ H _ _ v u _ (I.wish E) rx ry ⟨i, j, rfl, rfl, good_here st (.bl _)⟩
    | _ => trivial
  | _ => cases re <;> trivial
theorem op_geDD : Op2 τ X (compareOp .GtE) geD := by
  intro pins s σ H η S x y v u d e I tk st rx ry rd re
  cases rd with
  | int i =>
    cases re with
    | int j => exact out_ok tk fun E => op_ge (X := X.wish E) pins s σ H _ _ v u _ (I.wish E) rx ry ⟨i, j, rfl, rfl, good_here st (.bl _)⟩
    | _ => trivial
  | str i =>
    cases re with
    | str j => exact out_ok tk fun E => op_ge_str (X := X.wish E) pins s σ H _ _ v u _ (I.wish E) rx ry ⟨i, j, rfl, rfl, good_here st (.bl _)⟩
    | _ => trivial
  | _ => cases re <;> trivial
end

/-! ### in, not in -/
def flatD : D → Bool
  | .non => true
  | .bl _ => true
  | .int _ => true
  | .str _ => true
  | _ => false
def eqF : D → D → Bool
  | .non, .non => true
  | .bl a, .bl b => a == b
  | .bl a, .int b => (if a then 1 else 0) == b
  | .int a, .bl b => a == (if b then 1 else 0)
  | .int a, .int b => a == b
  | .str a, .str b => a == b
  | _, _ => false
def sign? (x : Str) : Option Nat := match x.cps.toList with
  | [c] => some c
  | _ => none
def seqIn (d : D) (xs : List D) : Option Bool := if flatD d = true ∧ xs.all flatD = true then some (xs.any fun y => eqF y d) else none
/-! dicts -/
def keyD : D → Option Key
  | .int i => some (.inl i)
  | .str z => some (.inr z)
  | _ => none
def dicE (S : Sto) : D → Option (List (Key × D))
  | .dic kvs => some kvs
  | .ref n => match S[n]? with
    | some (.dic kvs) => some kvs
    | some (.fdic kvs) => some kvs
    | _ => none
  | _ => none
def lookK (kvs : List (Key × D)) (k : Key) : Option D := (kvs.find? fun p => decide (p.1 = k)).map (·.2)
theorem keyD_ok {K : PySem.W.Frag} {η : List Addr} {H : Hp} {d : D} {x : V} {k : Key} (r : Rep K η H d x) (h : keyD d = some k) : x = kV k := by
  cases r <;> first | (cases h; rfl) | cases h
theorem dicE_ok {K : PySem.W.Frag} {η : List Addr} {H : Hp} {S : Sto} {d : D} {x : V} {kds : List (Key × D)} (st : StoOk τ K η H S) (r : Rep K η H d x) (h : dicE S d = some kds) : ∃ a kvs, x = .ref a ∧ Rd H a (.dK kvs) ∧ Repk K η H kds kvs := by
  cases r with
  | dic h1 h2 => cases h; exact ⟨_, _, rfl, .inl h1.1, h2⟩
  | @ref n a h1 =>
    have h : (match S[n]? with | some (.dic kvs) => some kvs | some (.fdic kvs) => some kvs | _ => none) = some kds := h
    cases q : S[n]? with
    | none => rw [q] at h; cases h
    | some o =>
      rw [q] at h
      cases o with
      | lst _ => cases h
      | dic es => cases h; obtain ⟨vs, h3, h4⟩ := st.look n _ a q h1; exact ⟨a, vs, rfl, .inl h3, h4⟩
      | fdic es => cases h; obtain ⟨o, vs, h3, h4⟩ := st.look n _ a q h1; exact ⟨a, vs, rfl, .inr ⟨o, h3⟩, h4⟩
      | exc _ _ => cases h
  | _ => cases h
theorem lookK_ok {K : PySem.W.Frag} {η : List Addr} {H : Hp} {k : Key} : ∀ {kds : List (Key × D)} {kvs : List (Key × V)}, Repk K η H kds kvs → (∀ d, lookK kds k = some d → ∃ v, valV kvs k = some v ∧ Rep K η H d v) ∧ (lookK kds k = none → valV kvs k = none)
  | _, _, .nil => ⟨fun d h => (by cases h), fun _ => rfl⟩
  | _, _, .cons (k := k') (d := d') (v := v') (ds := ds) (vs := vs) r t => by
    obtain ⟨i1, i2⟩ := lookK_ok (k := k) t
    by_cases e : k' = k
    · refine ⟨fun d h => ⟨v', valV_pos (p := (k', v')) e, ?_⟩, fun h => ?_⟩
      · simp [lookK, List.find?_cons, e] at h
        rw [← h]; exact r
      · simp [lookK, List.find?_cons, e] at h
    · have e1 : lookK ((k', d') :: ds) k = lookK ds k := by simp [lookK, List.find?_cons, e]
      refine ⟨fun d h => ?_, fun h => ?_⟩
      · rw [e1] at h
        obtain ⟨v, h1, h2⟩ := i1 d h
        exact ⟨v, by rw [valV_neg (p := (k', v')) e]; exact h1, h2⟩
      · rw [e1] at h
        rw [valV_neg (p := (k', v')) e]
        exact i2 h
def dicIn (S : Sto) (d e : D) : Option Bool := match dicE S e, keyD d with
  | some kvs, some k => some (lookK kvs k).isSome
  | _, _ => none
def inE (S : Sto) (d e : D) : Option Bool := match e with
  | .str z => match d with
    | .str x => match sign? x with
      | some c => some (decide (c ∈ z.cps.toList))
      | none => some (!(Builtin.Str.occurrences z x 0 z.length 1).isEmpty)
    | _ => none
  | .tup xs => seqIn d xs
  | e => match items S e with
    | some xs => seqIn d xs
    | none => dicIn S d e
def inD (d e : D) : M D := fun S => match inE S d e with
  | some b => .ok (.bl b) S
  | none => .bad
def notInD (d e : D) : M D := fun S => match inE S d e with
  | some b => .ok (.bl (!b)) S
  | none => .bad
section
variable {X : Cx} {η : List Addr} {H : Hp}
theorem flat_ok {d : D} {x : V} (r : Rep X.K η H d x) (h : flatD d = true) : flatV x = true := by
  cases r <;> first | rfl | cases h
theorem flats_ok : ∀ {ds : List D} {vs : List V}, Reps X.K η H ds vs → ds.all flatD = true → vs.all flatV = true
  | _, _, .nil, _ => rfl
  | _, _, .cons r t, h => by
    rw [List.all_cons, Bool.and_eq_true] at h
    rw [List.all_cons, Bool.and_eq_true]
    exact ⟨flat_ok r h.1, flats_ok t h.2⟩
theorem eqF_ok {d e : D} {x y : V} (r : Rep X.K η H d x) (q : Rep X.K η H e y) (h1 : flatD d = true) (h2 : flatD e = true) : eqV x y = eqF d e := by
  cases r <;> cases q <;> first | rfl | cases h1 | cases h2
theorem inV_ok {d : D} {x : V} (r : Rep X.K η H d x) (h1 : flatD d = true) : ∀ {ds : List D} {vs : List V}, Reps X.K η H ds vs → ds.all flatD = true → inV x vs = ds.any fun y => eqF y d
  | _, _, .nil, _ => rfl
  | _, _, .cons q t, h => by
    rw [List.all_cons, Bool.and_eq_true] at h
    have ih := inV_ok r h1 t h.2
    unfold inV at ih ⊢
    rw [List.any_cons, List.any_cons, ih, eqF_ok q r h.1 h1]
theorem sign_ok {x : Str} {c : Nat} (h : sign? x = some c) : x = ⟨#[c]⟩ := by
  obtain ⟨⟨l⟩⟩ := x
  unfold sign? at h
  match l, h with
  | [c'], h => cases h; rfl
theorem inE_ok {pins : List (Addr × Obj)} {s : Shared} {σ : L2.St} {S : Sto} {x y : V} {v u : Value} {d e : D} {b : Bool} {E : Value → Shared → Prop} (I : Inv X pins σ H s) (st : StoOk τ X.K η H S) (rx : RelV x v) (ry : RelV y u) (rd : Rep X.K η H d x) (re : Rep X.K η H e y)
    (hu : X.A.units + 1 < cLine) (h : inE S d e = some b) : wpAny (model X.prog X.w) X.A (compareOp .In v u) (EP (X.wish E) pins σ (Good τ X.K η H S (.bl b))) E s ∧ wpAny (model X.prog X.w) X.A (compareOp .NotIn v u) (EP (X.wish E) pins σ (Good τ X.K η H S (.bl (!b)))) E s := by
  have seq : ∀ {p : Addr} {ds : List D} {vs : List V}, y = .ref p → (SqL X.K H p vs ∨ SqT X.K H p vs) → Reps X.K η H ds vs → seqIn d ds = some b →
      wpAny (model X.prog X.w) X.A (compareOp .In v u) (EP (X.wish E) pins σ (Good τ X.K η H S (.bl b))) E s ∧ wpAny (model X.prog X.w) X.A (compareOp .NotIn v u) (EP (X.wish E) pins σ (Good τ X.K η H S (.bl (!b)))) E s := by
    intro p ds vs ey hs hr hq
    unfold seqIn at hq
    split at hq
    · rename_i hz
      have hq := Option.some.inj hq
      have e1 := inV_ok rd hz.1 hr hz.2
      rw [hq] at e1
      refine ⟨op_in_seq (X := X.wish E) pins s σ H x y v u _ (I.wish E) rx ry ⟨p, vs, ey, hs, flat_ok rd hz.1, flats_ok hr hz.2, ?_⟩, op_notIn_seq (X := X.wish E) pins s σ H x y v u _ (I.wish E) rx ry ⟨p, vs, ey, hs, flat_ok rd hz.1, flats_ok hr hz.2, ?_⟩⟩
      · rw [e1]; exact good_here st (.bl _)
      · rw [e1]; exact good_here st (.bl _)
    · cases hq
  have dc : dicIn S d e = some b → wpAny (model X.prog X.w) X.A (compareOp .In v u) (EP (X.wish E) pins σ (Good τ X.K η H S (.bl b))) E s ∧ wpAny (model X.prog X.w) X.A (compareOp .NotIn v u) (EP (X.wish E) pins σ (Good τ X.K η H S (.bl (!b)))) E s := by
    intro hq
    unfold dicIn at hq
    cases q1 : dicE S e with
    | none => rw [q1] at hq; cases hq
    | some kds =>
      cases q2 : keyD d with
      | none => rw [q1, q2] at hq; cases hq
      | some k =>
        rw [q1, q2] at hq
        have hq := Option.some.inj hq
        obtain ⟨a, kvs, e1, hr, rk⟩ := dicE_ok st re q1
        have ek := keyD_ok rd q2
        obtain ⟨i1, i2⟩ := lookK_ok (k := k) rk
        have hb : (valV kvs k).isSome = b := by
          rw [← hq]
          cases q3 : lookK kds k with
          | none => rw [i2 q3]; rfl
          | some d' => obtain ⟨v', h1, _⟩ := i1 d' q3; rw [h1]; rfl
        subst e1
        subst ek
        cases ry
        have g : DGet H a (kV k) (valV kvs k) := .inl ⟨kvs, k, hr, rfl, rfl⟩
        refine ⟨d_in (X := X.wish E) hu (I.wish E) g rx fun s' I' => ?_, d_notIn (X := X.wish E) hu (I.wish E) g rx fun s' I' => ?_⟩
        · rw [hb]; exact ⟨.bl b, H, I', rfl, good_here st (.bl _)⟩
        · rw [hb]; exact ⟨.bl (!b), H, I', rfl, good_here st (.bl _)⟩
  cases re with
  | str z =>
    cases rd with
    | str a =>
      have h : (match sign? a with | some c => some (decide (c ∈ z.cps.toList)) | none => some (!(Builtin.Str.occurrences z a 0 z.length 1).isEmpty)) = some b := h
      cases q : sign? a with
      | none =>
        rw [q] at h
        have hb := Option.some.inj h
        subst hb
        exact ⟨op_in_str (X := X.wish E) pins s σ H _ _ v u _ (I.wish E) rx ry ⟨a, z, rfl, rfl, good_here st (.bl _)⟩, op_notin_str (X := X.wish E) pins s σ H _ _ v u _ (I.wish E) rx ry ⟨a, z, rfl, rfl, good_here st (.bl _)⟩⟩
      | some c =>
        rw [q] at h
        have hb := Option.some.inj h
        have e1 := sign_ok q
        subst e1
        subst hb
        exact ⟨op_in_sign (X := X.wish E) pins s σ H _ _ v u _ (I.wish E) rx ry ⟨c, z, rfl, rfl, good_here st (.bl _)⟩, op_notIn_sign (X := X.wish E) pins s σ H _ _ v u _ (I.wish E) rx ry ⟨c, z, rfl, rfl, good_here st (.bl _)⟩⟩
    | _ => cases h
  | tup h1 h2 => exact seq rfl (.inr h1.sq) h2 h
  | lst h1 h2 => exact seq rfl (.inl h1.sq) h2 h
  | @ref m a h1 =>
    have h : (match items S (.ref m) with | some xs => seqIn d xs | none => dicIn S d (.ref m)) = some b := h
    cases q : items S (.ref m) with
    | none => rw [q] at h; exact dc h
    | some xs =>
      rw [q] at h
      obtain ⟨a', vs, e1, h3, h4⟩ := items_at st (.ref h1) q
      exact seq e1 (.inl (SqL.of h3)) h4 h
  | _ => exact dc h
theorem op_inDD (hu : X.A.units + 1 < cLine) : Op2 τ X (compareOp .In) inD := by
  intro pins s σ H η S x y v u d e I tk st rx ry rd re
  unfold inD
  cases q : inE S d e with
  | none => trivial
  | some b => exact out_ok tk fun E => (inE_ok I st rx ry rd re hu q).1
theorem op_notInDD (hu : X.A.units + 1 < cLine) : Op2 τ X (compareOp .NotIn) notInD := by
  intro pins s σ H η S x y v u d e I tk st rx ry rd re
  unfold notInD
  cases q : inE S d e with
  | none => trivial
  | some b => exact out_ok tk fun E => (inE_ok I st rx ry rd re hu q).2
end

/-! ### is, is not -/
def isE : D → D → Option Bool
  | .non, .non => some true
  | .bl a, .bl b => some (decide (a = b))
  | .bl _, .non => some false
  | .int _, .non => some false
  | .str _, .non => some false
  | .tup _, .non => some false
  | .lst _, .non => some false
  | .frz _, .non => some false
  | .dic _, .non => some false
  | .ref _, .non => some false
  | _, _ => none
def isD (d e : D) : M D := M.of ((isE d e).map .bl)
def isNotD (d e : D) : M D := M.of ((isE d e).map fun b => .bl (!b))
section
variable {X : Cx}
theorem op_isDD : Op2 τ X (compareOp .Is) isD := by
  intro pins s σ H η S x y v u d e I tk st rx ry rd re
  have nn : ∀ b, y = .non → decide (x = .non) = b → Out τ X pins η H (relV X.K σ) (.ok (.bl b) S) (sem X (compareOp .Is v u)) s := fun b e1 e2 =>
    out_ok tk fun E => op_isN (X := X.wish E) pins s σ H x y v u _ (I.wish E) rx ry ⟨e1, by rw [e2]; exact good_here st (.bl _)⟩
  cases re with
  | non => cases rd <;> exact nn _ rfl (by simp)
  | bl b =>
    cases rd with
    | bl a => exact out_ok tk fun E => op_isBl (X := X.wish E) pins s σ H _ _ v u _ (I.wish E) rx ry ⟨a, b, rfl, rfl, good_here st (.bl _)⟩
    | _ => trivial
  | _ => cases rd <;> trivial
theorem op_isNotDD : Op2 τ X (compareOp .IsNot) isNotD := by
  intro pins s σ H η S x y v u d e I tk st rx ry rd re
  have nn : ∀ b, y = .non → decide (x = .non) = b → Out τ X pins η H (relV X.K σ) (.ok (.bl (!b)) S) (sem X (compareOp .IsNot v u)) s := fun b e1 e2 =>
    out_ok tk fun E => op_notN (X := X.wish E) pins s σ H x y v u _ (I.wish E) rx ry ⟨e1, by rw [e2]; exact good_here st (.bl _)⟩
  cases re with
  | non => cases rd <;> exact nn _ rfl (by simp)
  | bl b =>
    cases rd with
    | bl a => exact out_ok tk fun E => op_notBl (X := X.wish E) pins s σ H _ _ v u _ (I.wish E) rx ry ⟨a, b, rfl, rfl, good_here st (.bl _)⟩
    | _ => trivial
  | _ => cases rd <;> trivial
end

/-! ### subscripts -/
def ixE (S : Sto) (d : D) (i : Int) : Option D := match d with
  | .tup xs => atI xs i
  | .str z => if z.length ≤ SL then (atI z.cps.toList i).map fun c => .str ⟨#[c]⟩ else none
  | d => (itemsR S d).bind fun xs => atI xs i
def dicIx (S : Sto) (d : D) (k : Key) : R D := match (dicE S d).bind (lookK · k) with
  | some e => .ok e S
  | none => .bad
def ixD : D → D → M D
  | d, .int i => fun S => match ixE S d i with
    | some e => .ok e S
    | none => dicIx S d (.inl i)
  | d, .str z => fun S => dicIx S d (.inr z)
  | _, _ => M.fail
section
variable {X : Cx} {η : List Addr} {H : Hp}
theorem tail_dict {A : Around} {E : Value → Shared → Prop} {s : Shared} {value slice : Expr} {o i : Value} {Q : Value → Shared → Prop} (hs : ∀ o i, subscripted slice false o i = operate [o, i] (getItem o i)) (hT : s.TypeIs o "dict") (h₂ : wpAny (model X.prog X.w) A (getItem o i) Q E s) :
    wpAny (model X.prog X.w) A (PyProof.Rows.subscriptTail value slice o i) Q E s := by
  unfold PyProof.Rows.subscriptTail
  refine wpAny_bind ?_
  rw [getitemInPython_of_ne hT.not_modules]
  refine wpAny_bind (wpAny_specialOf hT PySem.F.slot_dict_getitem.lookup ?_)
  have fin : wpAny (model X.prog X.w) A (subscripted slice false o i) (fun r s₃ => wpAny (model X.prog X.w) A (letTemporaryGo value o r >>= fun _ => pure r) Q E s₃) E s := by
    rw [hs o i]
    exact wpAny_operating (wpAny_mono h₂ (fun r s₃ h₃ => wpAny_bind (wpAny_letTemporaryGo (wpAny_pure h₃))) fun _ _ x => x)
  first
    | exact wpAny_pure (wpAny_bind fin)
    | exact wpAny_bind (wpAny_pure (wpAny_bind fin))
    | exact wpAny_bind fin
theorem dicIx_ok {value slice : Expr} (hu : X.A.units + 1 < cLine) (hs : ∀ o i, subscripted slice false o i = operate [o, i] (getItem o i)) {pins : List (Addr × Obj)} {s : Shared} {σ : L2.St} {S : Sto} {x y : V} {v u : Value} {d e : D} {k : Key} (I : Inv X pins σ H s) (tk : τ.lo ≤ s.toks) (st : StoOk τ X.K η H S) (rx : RelV x v) (ry : RelV y u) (rd : Rep X.K η H d x) (re : Rep X.K η H e y) (hk : keyD e = some k) :
    Out τ X pins η H (relV X.K σ) (dicIx S d k) (sem X (PyProof.Rows.subscriptTail value slice v u)) s := by
  unfold dicIx
  cases q : (dicE S d).bind (lookK · k) with
  | none => trivial
  | some e' =>
    cases q1 : dicE S d with
    | none => rw [q1] at q; cases q
    | some kds =>
      rw [q1] at q
      obtain ⟨a, kvs, e1, hr, rk⟩ := dicE_ok st rd q1
      obtain ⟨v', h1, h2⟩ := (lookK_ok (k := k) rk).1 e' q
      have ek := keyD_ok re hk
      subst e1
      subst ek
      cases rx
      have g : DGet H a (kV k) (some v') := .inl ⟨kvs, k, hr, rfl, h1.symm⟩
      exact out_ok tk fun E => tail_dict hs (dict_typeIs I g) (d_getItem (X := X.wish E) hu (I.wish E) g ry fun w' s' I' r' => ⟨v', H, I', r', good_here st h2⟩)
theorem at_ok {K : PySem.W.Frag} {ds : List D} {vs : List V} {i : Int} {d : D} (h : Reps K η H ds vs) (e : atI ds i = some d) : ∃ v, atI vs i = some v ∧ Rep K η H d v := by
  unfold atI at e ⊢
  rw [← h.length]
  cases q : ixN ds.length i with
  | none => rw [q] at e; cases e
  | some j =>
    rw [q] at e
    exact h.get e
theorem op_ixD {value slice : Expr} (hu : X.A.units + 1 < cLine) (hs : ∀ o i, subscripted slice false o i = operate [o, i] (getItem o i)) : Op2 τ X (PyProof.Rows.subscriptTail value slice) ixD := by
  intro pins s σ H η S x y v u d e I tk st rx ry rd re
  cases re with
  | int i =>
    show Out τ X pins η H (relV X.K σ) (match ixE S d i with | some e => .ok e S | none => dicIx S d (.inl i)) _ s
    cases q : ixE S d i with
    | none => exact dicIx_ok hu hs I tk st rx ry rd (.int i) rfl
    | some e' =>
      refine out_ok tk fun E => ?_
      have seq : ∀ {p : Addr} {ds : List D} {vs : List V}, x = .ref p → SqL X.K H p vs → Reps X.K η H ds vs → atI ds i = some e' → wpAny (model X.prog X.w) X.A (PyProof.Rows.subscriptTail value slice v u) (EP (X.wish E) pins σ (Good τ X.K η H S e')) E s := by
        intro p ds vs ex hl hr ha
        obtain ⟨w, h1, h2⟩ := at_ok hr ha
        exact ix_list (X := X.wish E) value slice pins s σ H x _ v u _ (I.wish E) rx ry ⟨p, vs, i, w, ex, rfl, hl, h1, good_here st h2⟩ (hs _ _)
      cases rd with
      | tup h1 h2 =>
        obtain ⟨w, h3, h4⟩ := at_ok h2 q
        exact ix_tup (X := X.wish E) value slice pins s σ H _ _ v u _ (I.wish E) rx ry ⟨_, _, i, w, rfl, rfl, h1.sq, h3, good_here st h4⟩ (hs _ _)
      | str z =>
        have q : (if z.length ≤ SL then (atI z.cps.toList i).map fun c => D.str ⟨#[c]⟩ else none) = some e' := q
        split at q
        · rename_i hz
          cases qa : atI z.cps.toList i with
          | none => rw [qa] at q; cases q
          | some c =>
            rw [qa] at q
            cases q
            exact ix_str (X := X.wish E) value slice pins s σ H _ _ v u _ (I.wish E) rx ry ⟨z, i, c, rfl, rfl, sl_le hz, qa, good_here st (.str _)⟩ (hs _ _)
        · cases q
      | lst h1 h2 => exact seq rfl h1.sq h2 q
      | frz h1 h2 => exact seq rfl h1.sq h2 q
      | @ref m a h1 =>
        have q : (itemsR S (.ref m)).bind (fun xs => atI xs i) = some e' := q
        cases qa : itemsR S (.ref m) with
        | none => rw [qa] at q; cases q
        | some xs =>
          rw [qa] at q
          obtain ⟨a', vs, e1, h3, h4⟩ := itemsR_at st (.ref h1) qa
          exact seq e1 h3 h4 q
      | _ => cases q
  | str z => exact dicIx_ok hu hs I tk st rx ry rd (.str z) rfl
  | _ => trivial
end

/-! ### slices -/
def cutL {α : Type} (xs : List α) (lo hi : Option Int) : List α := (xs.drop (HT.sIx xs.length 0 lo)).take (HT.sIx xs.length xs.length hi - HT.sIx xs.length 0 lo)
def sliceE (m : Bool) (d : D) (lo hi : Option Int) : M D := match d with
  | .tup xs => pure (.tup (cutL xs lo hi))
  | .str z => if z.length ≤ SL then pure (.str (cutS z lo hi)) else M.fail
  | d => fun S => match itemsR S d with
    | some xs => newL m (cutL xs lo hi) S
    | none => .bad
theorem cut_ok {K : PySem.W.Frag} {η : List Addr} {H : Hp} {ds : List D} {vs : List V} (h : Reps K η H ds vs) (lo hi : Option Int) : Reps K η H (cutL ds lo hi) (cutV vs lo hi) := by
  unfold cutL cutV
  rw [← h.length]
  exact (h.drop _).take _
section
variable {X : Cx}
theorem sl_okD {m : Bool} {pins : List (Addr × Obj)} {s : Shared} {σ : L2.St} {H : Hp} {η : List Addr} {S S' : Sto} {x : V} {v vl vu : Value} {lo hi : Option Int} {sl : Addr} {d d' : D} {E : Value → Shared → Prop} (I : Inv X pins σ H s) (st : StoOk τ X.K η H S) (rx : RelV x v) (rd : Rep X.K η H d x)
    (hs : s.heap.IsSliceOf sl vl vu .none) (pl : IsPart vl lo) (pu : IsPart vu hi) (h : sliceE m d lo hi S = .ok d' S') :
    ∃ T id, typeLookup (.type T) "__getitem__" = pure (some (.builtin id)) ∧ s.TypeIs v T ∧ wpAny (model X.prog X.w) X.A (getItem v (.ref sl)) (EP (X.wish E) pins σ (Good τ X.K η H S' d')) E s := by
  have seq : ∀ {p : Addr} {ds : List D} {vs : List V}, x = .ref p → SqL X.K H p vs → Reps X.K η H ds vs → newL m (cutL ds lo hi) S = .ok d' S' →
      ∃ T id, typeLookup (.type T) "__getitem__" = pure (some (.builtin id)) ∧ s.TypeIs v T ∧ wpAny (model X.prog X.w) X.A (getItem v (.ref sl)) (EP (X.wish E) pins σ (Good τ X.K η H S' d')) E s := by
    intro p ds vs ex hl hr hn
    exact sl_list (X := X.wish E) pins s σ H x v vl vu lo hi sl _ (I.wish E) rx hs pl pu ⟨p, vs, ex, hl, fun q hq => good_newL st (cut_ok hr lo hi) hq hn⟩
  cases rd with
  | @tup a vs ds h1 h2 =>
    cases h
    refine sl_tupA (X := X.wish E) pins s σ H _ v vl vu lo hi sl _ (I.wish E) rx hs pl pu ⟨a, vs, rfl, h1.sq, fun hw => ?_, fun _ q hq => good_newT st (cut_ok h2 lo hi) hq⟩
    have e : cutL ds lo hi = ds := by
      unfold cutL
      rw [h2.length, hw.1, hw.2, List.drop_zero, Nat.sub_zero, ← h2.length, List.take_length]
    rw [e]
    exact good_here st (.tup h1 h2)
  | str z =>
    have h : (if z.length ≤ SL then pure (D.str (cutS z lo hi)) else M.fail : M D) S = .ok d' S' := h
    split at h
    · rename_i hz
      cases h
      exact sl_str (X := X.wish E) pins s σ H _ v vl vu lo hi sl _ (I.wish E) rx hs pl pu ⟨z, rfl, sl_le hz, good_here st (.str _)⟩
    · cases h
  | lst h1 h2 => exact seq rfl h1.sq h2 h
  | frz h1 h2 => exact seq rfl h1.sq h2 h
  | @ref n a h1 =>
    have h : (match itemsR S (.ref n) with | some xs => newL m (cutL xs lo hi) S | none => .bad) = .ok d' S' := h
    cases qa : itemsR S (.ref n) with
    | none => rw [qa] at h; cases h
    | some xs =>
      rw [qa] at h
      obtain ⟨a', vs, e1, h3, h4⟩ := itemsR_at st (.ref h1) qa
      exact seq e1 h3 h4 h
  | _ => cases h
end
end MP

/-! MP6: built-in functions and methods, truth, stores. -/
namespace MP
open PySem L2

section
variable {K : PySem.W.Frag} {η : List Addr} {H : Hp}
/-- one value, two -/
theorem one_of {ds : List D} {xs : List V} {d : D} (h : Reps K η H [d] xs) : ∃ x, xs = [x] ∧ Rep K η H d x := by
  cases h with
  | cons r t => cases t; exact ⟨_, rfl, r⟩
theorem two_of {xs : List V} {d e : D} (h : Reps K η H [d, e] xs) : ∃ x y, xs = [x, y] ∧ Rep K η H d x ∧ Rep K η H e y := by
  cases h with
  | cons r t =>
    cases t with
    | cons r2 t2 => cases t2; exact ⟨_, _, rfl, r, r2⟩
theorem nil_of {xs : List V} (h : Reps K η H [] xs) : xs = [] := by cases h; rfl
def ints? : List D → Option (List Int)
  | [] => some []
  | .int i :: r => (ints? r).map (i :: ·)
  | _ => none
def bools? : List D → Option (List Bool)
  | [] => some []
  | .bl i :: r => (bools? r).map (i :: ·)
  | _ => none
def strs? : List D → Option (List Str)
  | [] => some []
  | .str i :: r => (strs? r).map (i :: ·)
  | _ => none
theorem ints_ok : ∀ {ds : List D} {vs : List V} {ns : List Int}, Reps K η H ds vs → ints? ds = some ns → vs = ns.map V.int
  | _, _, _, .nil, h => by cases h; rfl
  | _, _, ns, .cons (ds := r) q t, h => by
    cases q <;> first | (cases h; done) | skip
    rename_i i
    cases e : ints? r with
    | none => simp [ints?, e] at h
    | some ms =>
      simp [ints?, e] at h
      subst h
      rw [ints_ok t e]
      rfl
theorem bools_ok : ∀ {ds : List D} {vs : List V} {ns : List Bool}, Reps K η H ds vs → bools? ds = some ns → vs = ns.map V.bl
  | _, _, _, .nil, h => by cases h; rfl
  | _, _, ns, .cons (ds := r) q t, h => by
    cases q <;> first | (cases h; done) | skip
    rename_i i
    cases e : bools? r with
    | none => simp [bools?, e] at h
    | some ms =>
      simp [bools?, e] at h
      subst h
      rw [bools_ok t e]
      rfl
theorem strs_ok : ∀ {ds : List D} {vs : List V} {ns : List Str}, Reps K η H ds vs → strs? ds = some ns → vs = ns.map V.str
  | _, _, _, .nil, h => by cases h; rfl
  | _, _, ns, .cons (ds := r) q t, h => by
    cases q <;> first | (cases h; done) | skip
    rename_i i
    cases e : strs? r with
    | none => simp [strs?, e] at h
    | some ms =>
      simp [strs?, e] at h
      subst h
      rw [strs_ok t e]
      rfl
@[simp] theorem ints_map : ∀ ns : List Int, ints? (ns.map D.int) = some ns
  | [] => rfl
  | n :: r => by simp [ints?, ints_map r]
@[simp] theorem bools_map : ∀ ns : List Bool, bools? (ns.map D.bl) = some ns
  | [] => rfl
  | n :: r => by simp [bools?, bools_map r]
@[simp] theorem strs_map : ∀ ns : List Str, strs? (ns.map D.str) = some ns
  | [] => rfl
  | n :: r => by simp [strs?, strs_map r]
end

theorem Repk.length {K : PySem.W.Frag} {η : List Addr} {H : Hp} : ∀ {ds : List (Key × D)} {vs : List (Key × V)}, Repk K η H ds vs → ds.length = vs.length
  | _, _, .nil => rfl
  | _, _, .cons _ t => by simp [Repk.length t]
/-! ### functions -/
def lenE (S : Sto) : D → Option Nat
  | .tup xs => some xs.length
  | .str z => if z.length ≤ SL then some z.length else none
  | d => match itemsR S d with
    | some xs => some xs.length
    | none => (dicE S d).map List.length
def lenD : List D → M D
  | [d] => fun S => match lenE S d with
    | some n => .ok (.int n) S
    | none => .bad
  | _ => M.fail
def listD (m : Bool) : List D → M D
  | [.tup xs] => newL m xs
  | [d] => fun S => match itemsR S d with
    | some xs => newL m xs S
    | none => .bad
  | _ => M.fail
def tupleD : List D → M D
  | [.tup xs] => pure (.tup xs)
  | [d] => fun S => match itemsR S d with
    | some xs => .ok (.tup xs) S
    | none => .bad
  | _ => M.fail
def sumD : List D → M D
  | [d] => fun S => match (itemsR S d).bind ints? with
    | some ns => .ok (.int ns.sum) S
    | none => .bad
  | _ => M.fail
def allD : List D → M D
  | [d] => fun S => match (itemsR S d).bind bools? with
    | some bs => .ok (.bl (bs.all id)) S
    | none => .bad
  | _ => M.fail
def anyD : List D → M D
  | [d] => fun S => match (itemsR S d).bind bools? with
    | some bs => .ok (.bl (bs.any id)) S
    | none => .bad
  | _ => M.fail
def minD : List D → M D
  | [.int i, .int j] => pure (.int (if j < i then j else i))
  | _ => M.fail
def intD : List D → M D
  | [.int i] => pure (.int i)
  | [.bl b] => pure (.int (if b then 1 else 0))
  | [.str x] => match intText? x with
    | some n => if x.length ≤ 640 then pure (.int n) else M.fail
    | none => M.fail
  | _ => M.fail
def strD : List D → M D
  | [.int i] => if i.natAbs.log2 < 1920 then pure (.str (toString i)) else M.fail
  | [.str x] => pure (.str x)
  | [.bl b] => pure (.str (if b = true then "True" else "False"))
  | _ => M.fail
section
variable {X : Cx} {n : Nat}
/-- from a list's items -/
theorem fromItems {pins : List (Addr × Obj)} {s : Shared} {σ : L2.St} {H : Hp} {η : List Addr} {S : Sto} {d : D} {ds : List D} {xs : List V} (st : StoOk τ X.K η H S) (rd : Reps X.K η H [d] xs) (q : itemsR S d = some ds) : ∃ p vs, xs = [.ref p] ∧ SqL X.K H p vs ∧ Reps X.K η H ds vs := by
  obtain ⟨x, e1, r⟩ := one_of (ds := []) rd
  obtain ⟨a, vs, e2, h1, h2⟩ := itemsR_at st r q
  exact ⟨a, vs, by rw [e1, e2], h1, h2⟩
theorem call_lenDD : OpL τ X (fun us => call (.builtin "len") us) lenD := by
  intro pins s σ H η S xs us ds I tk st rv rd
  match ds, rd with
  | [], _ => trivial
  | _ :: _ :: _, _ => trivial
  | [d], rd =>
    show Out τ X pins η H (relV X.K σ) (match lenE S d with | some n => .ok (.int n) S | none => .bad) _ s
    cases q : lenE S d with
    | none => trivial
    | some k =>
      refine out_ok tk fun E => ?_
      obtain ⟨x, e1, r⟩ := one_of (ds := []) rd
      subst e1
      have seq : ∀ {ds : List D}, itemsR S d = some ds → ds.length = k → wpAny (model X.prog X.w) X.A (call (.builtin "len") us) (EP (X.wish E) pins σ (Good τ X.K η H S (.int k))) E s := by
        intro ds h1 h2
        obtain ⟨a, vs, e2, h3, h4⟩ := itemsR_at st r h1
        refine call_len_seq (X := X.wish E) pins s σ H _ us _ (I.wish E) rv ⟨a, vs, by rw [e2], .inl h3, ?_⟩
        rw [← h4.length, h2]
        exact good_here st (.int _)
      have dcl : (dicE S d).map List.length = some k → wpAny (model X.prog X.w) X.A (call (.builtin "len") us) (EP (X.wish E) pins σ (Good τ X.K η H S (.int k))) E s := by
        intro hq
        cases q1 : dicE S d with
        | none => rw [q1] at hq; cases hq
        | some kds =>
          rw [q1] at hq
          have hq : kds.length = k := Option.some.inj hq
          obtain ⟨a, kvs, e2, h3, h4⟩ := dicE_ok st r q1
          subst e2
          obtain ⟨u, rfl, r1⟩ := vals1 rv
          cases r1
          refine d_len (X := X.wish E) (I.wish E) h3 fun t s' I' => ⟨.int k, H, I', ?_, good_here st (.int _)⟩
          rw [← h4.length, hq]
          exact ⟨_, rfl⟩
      cases r with
      | @tup a vs es h1 h2 =>
        cases q
        refine call_len_seq (X := X.wish E) pins s σ H _ us _ (I.wish E) rv ⟨a, vs, rfl, .inr h1.sq, ?_⟩
        rw [← h2.length]
        exact good_here st (.int _)
      | str z =>
        have q : (if z.length ≤ SL then some z.length else none) = some k := q
        split at q
        · rename_i hz
          cases q
          exact call_len_str (X := X.wish E) pins s σ H _ us _ (I.wish E) rv ⟨z, rfl, sl_le hz, good_here st (.int _)⟩
        · cases q
      | lst h1 h2 => cases q; exact seq rfl rfl
      | frz h1 h2 => cases q; exact seq rfl rfl
      | @ref m a h1 =>
        have q : (match itemsR S (.ref m) with | some xs => some xs.length | none => (dicE S (.ref m)).map List.length) = some k := q
        cases qa : itemsR S (.ref m) with
        | none => rw [qa] at q; exact dcl q
        | some es =>
          rw [qa] at q
          exact seq qa (Option.some.inj q)
      | _ => exact dcl q
theorem call_listDD (m : Bool) : OpL τ X (fun us => call (.type "list") us) (listD m) := by
  intro pins s σ H η S xs us ds I tk st rv rd
  have gen : ∀ (d : D), Reps X.K η H [d] xs → Out τ X pins η H (relV X.K σ) (match itemsR S d with | some es => newL m es S | none => .bad) (sem X (call (.type "list") us)) s := by
    intro d rd
    cases q : itemsR S d with
    | none => trivial
    | some es =>
      dsimp only
      cases q2 : newL m es S with
      | bad => trivial
      | ok d' S' =>
        obtain ⟨p, vs, e1, h1, h2⟩ := fromItems (pins := pins) (s := s) (σ := σ) st rd q
        exact out_ok tk fun E => call_list_of (X := X.wish E) pins s σ H _ us _ (I.wish E) rv ⟨p, vs, e1, .inl h1, fun l hl => good_newL st h2 hl q2⟩
  match ds, rd with
  | [], _ => trivial
  | a :: _ :: _, _ => cases a <;> trivial
  | [.tup es], rd =>
    show Out τ X pins η H (relV X.K σ) (newL m es S) _ s
    cases q2 : newL m es S with
    | bad => trivial
    | ok d' S' =>
      obtain ⟨x, e1, r⟩ := one_of (ds := []) rd
      cases r with
      | @tup a vs _ h1 h2 => exact out_ok tk fun E => call_list_of (X := X.wish E) pins s σ H _ us _ (I.wish E) rv ⟨a, vs, e1, .inr h1.sq, fun l hl => good_newL st h2 hl q2⟩
  | [.non], rd => exact gen _ rd
  | [.bl _], rd => exact gen _ rd
  | [.int _], rd => exact gen _ rd
  | [.str _], rd => exact gen _ rd
  | [.lst _], rd => exact gen _ rd
  | [.frz _], rd => exact gen _ rd
  | [.dic _], rd => exact gen _ rd
  | [.ref _], rd => exact gen _ rd
theorem call_tupleDD : OpL τ X (fun us => call (.type "tuple") us) tupleD := by
  intro pins s σ H η S xs us ds I tk st rv rd
  have gen : ∀ (d : D), Reps X.K η H [d] xs → Out τ X pins η H (relV X.K σ) (match itemsR S d with | some es => .ok (.tup es) S | none => .bad) (sem X (call (.type "tuple") us)) s := by
    intro d rd
    cases q : itemsR S d with
    | none => trivial
    | some es =>
      obtain ⟨p, vs, e1, h1, h2⟩ := fromItems (pins := pins) (s := s) (σ := σ) st rd q
      exact out_ok tk fun E => call_tuple_of (X := X.wish E) pins s σ H _ us _ (I.wish E) rv ⟨p, vs, e1, .inl ⟨h1, fun l hl => good_newT st h2 hl⟩⟩
  match ds, rd with
  | [], _ => trivial
  | a :: _ :: _, _ => cases a <;> trivial
  | [.tup es], rd =>
    obtain ⟨x, e1, r⟩ := one_of (ds := []) rd
    cases r with
    | @tup a vs _ h1 h2 => exact out_ok tk fun E => call_tuple_of (X := X.wish E) pins s σ H _ us _ (I.wish E) rv ⟨a, vs, e1, .inr ⟨h1.sq, good_here st (.tup h1 h2)⟩⟩
  | [.non], rd => exact gen _ rd
  | [.bl _], rd => exact gen _ rd
  | [.int _], rd => exact gen _ rd
  | [.str _], rd => exact gen _ rd
  | [.lst _], rd => exact gen _ rd
  | [.frz _], rd => exact gen _ rd
  | [.dic _], rd => exact gen _ rd
  | [.ref _], rd => exact gen _ rd
theorem call_sumDD (c : Ck n X) : OpL τ X (fun us => call (.builtin "sum") us) sumD := by
  intro pins s σ H η S xs us ds I tk st rv rd
  match ds, rd with
  | [], _ => trivial
  | _ :: _ :: _, _ => trivial
  | [d], rd =>
    show Out τ X pins η H (relV X.K σ) (match (itemsR S d).bind ints? with | some ns => .ok (.int ns.sum) S | none => .bad) _ s
    cases q : itemsR S d with
    | none => trivial
    | some es =>
      dsimp only [Option.bind]
      cases q2 : ints? es with
      | none => trivial
      | some ns =>
        obtain ⟨p, vs, e1, h1, h2⟩ := fromItems (pins := pins) (s := s) (σ := σ) st rd q
        have := ints_ok h2 q2
        subst this
        exact out_ok tk fun E => cr_sum (X := X.wish E) c.calm pins s σ H _ us _ (I.wish E) rv ⟨p, ns, e1, h1, good_here st (.int _)⟩
theorem call_allDD (c : Ck n X) : OpL τ X (fun us => call (.builtin "all") us) allD := by
  intro pins s σ H η S xs us ds I tk st rv rd
  match ds, rd with
  | [], _ => trivial
  | _ :: _ :: _, _ => trivial
  | [d], rd =>
    show Out τ X pins η H (relV X.K σ) (match (itemsR S d).bind bools? with | some bs => .ok (.bl (bs.all id)) S | none => .bad) _ s
    cases q : itemsR S d with
    | none => trivial
    | some es =>
      dsimp only [Option.bind]
      cases q2 : bools? es with
      | none => trivial
      | some ns =>
        obtain ⟨p, vs, e1, h1, h2⟩ := fromItems (pins := pins) (s := s) (σ := σ) st rd q
        have := bools_ok h2 q2
        subst this
        exact out_ok tk fun E => cr_all (X := X.wish E) c.calm pins s σ H _ us _ (I.wish E) rv ⟨p, ns, e1, h1, good_here st (.bl _)⟩
theorem call_anyDD (c : Ck n X) : OpL τ X (fun us => call (.builtin "any") us) anyD := by
  intro pins s σ H η S xs us ds I tk st rv rd
  match ds, rd with
  | [], _ => trivial
  | _ :: _ :: _, _ => trivial
  | [d], rd =>
    show Out τ X pins η H (relV X.K σ) (match (itemsR S d).bind bools? with | some bs => .ok (.bl (bs.any id)) S | none => .bad) _ s
    cases q : itemsR S d with
    | none => trivial
    | some es =>
      dsimp only [Option.bind]
      cases q2 : bools? es with
      | none => trivial
      | some ns =>
        obtain ⟨p, vs, e1, h1, h2⟩ := fromItems (pins := pins) (s := s) (σ := σ) st rd q
        have := bools_ok h2 q2
        subst this
        exact out_ok tk fun E => cr_any (X := X.wish E) c.calm pins s σ H _ us _ (I.wish E) rv ⟨p, ns, e1, h1, good_here st (.bl _)⟩
theorem call_minDD (c : Ck n X) : OpL τ X (fun us => call (.builtin "min") us) minD := by
  intro pins s σ H η S xs us ds I tk st rv rd
  cases q : minD ds S with
  | bad => trivial
  | ok d' S' =>
    unfold minD at q
    split at q
    · cases q
      obtain ⟨x, y, e1, r1, r2⟩ := two_of rd
      cases r1
      cases r2
      exact out_ok tk fun E => call_min2 (X := X.wish E) c.calm pins s σ H _ us _ (I.wish E) rv ⟨_, _, e1, good_here st (.int _)⟩
    · cases q
theorem call_intDD : OpL τ X (fun us => call (.type "int") us) intD := by
  intro pins s σ H η S xs us ds I tk st rv rd
  cases q : intD ds S with
  | bad => trivial
  | ok d' S' =>
    unfold intD at q
    split at q
    · cases q
      obtain ⟨x, e1, r1⟩ := one_of (ds := []) rd
      cases r1
      exact out_ok tk fun E => call_int1 (X := X.wish E) pins s σ H _ us _ (I.wish E) rv (.inl ⟨_, e1, good_here st (.int _)⟩)
    · cases q
      obtain ⟨x, e1, r1⟩ := one_of (ds := []) rd
      cases r1
      exact out_ok tk fun E => call_int1 (X := X.wish E) pins s σ H _ us _ (I.wish E) rv (.inr ⟨_, e1, good_here st (.int _)⟩)
    · rename_i x
      cases hn : intText? x with
      | none => rw [hn] at q; cases q
      | some n =>
        rw [hn] at q
        have q : (if x.length ≤ 640 then pure (D.int n) else M.fail : M D) S = .ok d' S' := q
        by_cases hz : x.length ≤ 640
        · rw [if_pos hz] at q
          cases q
          obtain ⟨x, e1, r1⟩ := one_of (ds := []) rd
          cases r1
          exact out_ok tk fun E => call_int_str (X := X.wish E) pins s σ H _ us _ (I.wish E) rv ⟨_, n, e1, hn, hz, good_here st (.int _)⟩
        · rw [if_neg hz] at q
          cases q
    · cases q
theorem call_strDD : OpL τ X (fun us => call (.type "str") us) strD := by
  intro pins s σ H η S xs us ds I tk st rv rd
  cases q : strD ds S with
  | bad => trivial
  | ok d' S' =>
    unfold strD at q
    split at q
    · split at q
      · rename_i hz
        cases q
        obtain ⟨x, e1, r1⟩ := one_of (ds := []) rd
        cases r1
        exact out_ok tk fun E => call_str_int (X := X.wish E) pins s σ H _ us _ (I.wish E) rv ⟨_, e1, hz, good_here st (.str _)⟩
      · cases q
    · cases q
      obtain ⟨x, e1, r1⟩ := one_of (ds := []) rd
      cases r1
      subst e1
      cases rv with
      | cons rv1 rv2 =>
        cases rv2
        obtain ⟨t, rfl⟩ := rv1
        exact out_ok tk fun E => PySem.P.str_of_str ⟨.str _, H, I.wish E, ⟨t, rfl⟩, good_here st (.str _)⟩
    · cases q
      obtain ⟨x, e1, r1⟩ := one_of (ds := []) rd
      cases r1
      subst e1
      cases rv with
      | cons rv1 rv2 =>
        cases rv2
        cases rv1
        exact out_ok tk fun E => PySem.P.str_of_bool ⟨.str _, H, (I.wish E).tok _, ⟨_, rfl⟩, good_here st (.str _)⟩
    · cases q
end

/-! ### isinstance of built-in classes -/
inductive Ty where
  | int | str | bool | tup | lst | dict
  deriving DecidableEq, Inhabited
def Ty.name : Ty → String
  | .int => "int" | .str => "str" | .bool => "bool" | .tup => "tuple" | .lst => "list" | .dict => "dict"
def tyD : D → String
  | .non => "NoneType" | .bl _ => "bool" | .int _ => "int" | .str _ => "str" | .tup _ => "tuple" | .lst _ => "list" | .frz _ => "list" | .dic _ => "dict" | .ref _ => "list" | .clo .. => "list" | .own _ => "list"
def isiD (t : Ty) : D → Bool
  | .non => false
  | .bl _ => match t with | .int => true | .bool => true | _ => false
  | .int _ => match t with | .int => true | _ => false
  | .str _ => match t with | .str => true | _ => false
  | .tup _ => match t with | .tup => true | _ => false
  | .lst _ => match t with | .lst => true | _ => false
  | .frz _ => match t with | .lst => true | _ => false
  | .dic _ => match t with | .dict => true | _ => false
  | .ref _ => match t with | .lst => true | _ => false
  | .clo .. => match t with | .lst => true | _ => false
  | .own _ => match t with | .lst => true | _ => false
theorem kit_none : ∀ t : Ty, kitB "NoneType" t.name = some false := by intro t; cases t <;> decide +kernel
theorem kit_bool : ∀ t : Ty, kitB "bool" t.name = some (match t with | .int => true | .bool => true | _ => false) := by intro t; cases t <;> decide +kernel
theorem kit_int : ∀ t : Ty, kitB "int" t.name = some (match t with | .int => true | _ => false) := by intro t; cases t <;> decide +kernel
theorem kit_str : ∀ t : Ty, kitB "str" t.name = some (match t with | .str => true | _ => false) := by intro t; cases t <;> decide +kernel
theorem kit_tup : ∀ t : Ty, kitB "tuple" t.name = some (match t with | .tup => true | _ => false) := by intro t; cases t <;> decide +kernel
theorem kit_lst : ∀ t : Ty, kitB "list" t.name = some (match t with | .lst => true | _ => false) := by intro t; cases t <;> decide +kernel
theorem kit_dic : ∀ t : Ty, kitB "dict" t.name = some (match t with | .dict => true | _ => false) := by intro t; cases t <;> decide +kernel
theorem kitD (t : Ty) (d : D) : kitB (tyD d) t.name = some (isiD t d) := by
  cases d with
  | non => exact kit_none t
  | bl _ => exact kit_bool t
  | int _ => exact kit_int t
  | str _ => exact kit_str t
  | tup _ => exact kit_tup t
  | lst _ => exact kit_lst t
  | frz _ => exact kit_lst t
  | dic _ => exact kit_dic t
  | ref _ => exact kit_lst t
  | clo _ _ => exact kit_lst t
  | own _ => exact kit_lst t
theorem ty_of {K : PySem.W.Frag} {η : List Addr} {H : Hp} {S : Sto} {d : D} {x : V} (st : StoOk τ K η H S) (r : Rep K η H d x) (nr : ∀ n, d ≠ .ref n) : TyX K H x (.type (tyD d)) := by
  cases r with
  | non => exact .base .non
  | bl b => exact .base (.bl b)
  | int i => exact .base (.int i)
  | str i => exact .base (.str i)
  | tup h _ =>
    rcases h with h | ⟨o, its, n, h1, h2, _⟩
    · exact .base (.tup h.1)
    · exact .kTuple h1 h2
  | lst h _ => exact .base (.lst h.1)
  | frz h _ =>
    rcases h with ⟨h | ⟨o, h⟩, _⟩ | ⟨o, its, n, h1, h2, _⟩
    · exact .base (.lst h)
    · exact .base (.frz h)
    · exact .kList h1 h2
  | dic h _ => exact .base (.dK h.1)
  | @ref n a h =>
    exact absurd rfl (nr n)
def isinstD (t : Ty) : D → M D
  | .ref _ => M.fail
  | d => pure (.bl (isiD t d))
section
variable {X : Cx}
theorem call_isinstD (t : Ty) : Op1 τ X (fun v => call (.builtin "isinstance") [v, .type t.name]) (isinstD t) := by
  intro pins s σ H η S x v d I tk st rx rd
  by_cases nr : ∃ n, d = .ref n
  · obtain ⟨n, rfl⟩ := nr
    trivial
  · have nr : ∀ n, d ≠ .ref n := fun n e => nr ⟨n, e⟩
    have e : isinstD t d S = .ok (.bl (isiD t d)) S := by
      cases d <;> first | rfl | exact absurd rfl (nr _)
    rw [e]
    exact out_ok tk fun E => call_isi (X := X.wish E) pins s σ H [x, .ty t.name] [v, .type t.name] _ (I.wish E) (.cons rx (.cons rfl .nil)) ⟨x, .ty t.name, .type (tyD d), .type t.name, isiD t d, rfl, .ty _, ty_of st rd nr, kit_ty (kitD t d), good_here st (.bl _)⟩
end

/-! ### truth -/
def truE (S : Sto) : D → Option Bool
  | .non => some false
  | .bl b => some b
  | .int i => some (i != 0)
  | .str y => if y.length ≤ SL then some ((y.length : Int) != 0) else none
  | .tup xs => some (!xs.isEmpty)
  | .dic kvs => some (!kvs.isEmpty)
  | d => match itemsR S d with
    | some xs => some (!xs.isEmpty)
    | none => none
def truD (d : D) : M Bool := fun S => match truE S d with
  | some b => .ok b S
  | none => .bad
section
variable {X : Cx}
theorem tru_okD {pins : List (Addr × Obj)} {s : Shared} {σ : L2.St} {H : Hp} {η : List Addr} {S : Sto} {x : V} {v : Value} {d : D} (I : Inv X pins σ H s) (tk : τ.lo ≤ s.toks) (st : StoOk τ X.K η H S) (rx : RelV x v) (rd : Rep X.K η H d x) : Out τ X pins η H (relB σ) (truD d S) (sem X (truthy v)) s := by
  unfold truD
  cases q : truE S d with
  | none => trivial
  | some b =>
    refine out_tt tk fun E => ?_
    refine tru_ok (X := X.wish E) pins s σ H x v _ (I.wish E) rx ⟨b, ?_, rfl, η, .refl _ _, st⟩
    have seq : ∀ {p : Addr} {ds : List D} {vs : List V}, SqL X.K H p vs → Reps X.K η H ds vs → (!ds.isEmpty) = b → TruV X.K (.ref p) H b := by
      intro p ds vs h1 h2 h3
      exact .inl ⟨vs, h1, by rw [← empty_reps h2, h3]⟩
    cases rd with
    | non => cases q; rfl
    | bl b' => cases q; rfl
    | int i => cases q; rfl
    | str y =>
      have q : (if y.length ≤ SL then some ((y.length : Int) != 0) else none) = some b := q
      split at q
      · rename_i hz
        exact ⟨sl_le hz, (Option.some.inj q).symm⟩
      · cases q
    | @tup a vs ds h1 h2 =>
      cases q
      exact .inr (.inl ⟨vs, h1.sq, by rw [empty_reps h2]⟩)
    | lst h1 h2 => exact seq h1.sq h2 (Option.some.inj q)
    | frz h1 h2 => exact seq h1.sq h2 (Option.some.inj q)
    | @dic a kvs kds h1 h2 =>
      cases q
      refine .inr (.inr ⟨kvs, h1.1, ?_⟩)
      cases h2 <;> rfl
    | @ref m a h1 =>
      have q : (match itemsR S (.ref m) with | some xs => some (!xs.isEmpty) | none => none) = some b := q
      cases qa : itemsR S (.ref m) with
      | none => rw [qa] at q; cases q
      | some es =>
        rw [qa] at q
        obtain ⟨a', vs, e1, h3, h4⟩ := itemsR_at st (.ref h1) qa
        rw [e1]
        exact seq h3 h4 (Option.some.inj q)
end

/-! ### methods: the receiver, the arguments -/
def appendD (d : D) (ds : List D) : M D := fun S => match d, ds with
  | .ref n, [e] => match S[n]? with
    | some (.lst xs) => if xs.length < SL then .ok .non (S.set n (.lst (xs ++ [e]))) else .bad
    | _ => .bad
  | _, _ => .bad
def extendD (d : D) (ds : List D) : M D := fun S => match d, ds with
  | .ref n, [e] => match S[n]?, items S e with
    | some (.lst xs), some ys => if xs.length + ys.length ≤ SL then .ok .non (S.set n (.lst (xs ++ ys))) else .bad
    | _, _ => .bad
  | _, _ => .bad
def popD (d : D) (ds : List D) : M D := fun S => match d, ds with
  | .ref n, [] => match S[n]? with
    | some (.lst xs) => match xs[xs.length - 1]? with
      | some e => .ok e (S.set n (.lst xs.dropLast))
      | none => .bad
    | _ => .bad
  | .ref n, [.int i] => match S[n]? with
    | some (.lst xs) => match ixN xs.length i with
      | some j => match xs[j]? with
        | some e => .ok e (S.set n (.lst (xs.eraseIdx j)))
        | none => .bad
      | none => .bad
    | _ => .bad
  | _, _ => .bad
def seqItems (S : Sto) : D → Option (List D)
  | .tup xs => some xs
  | d => itemsR S d
def joinD (d : D) (ds : List D) : M D := fun S => match d, ds with
  | .str a, [e] => match (seqItems S e).bind strs? with
    | some ys => if (ys.map (fun y : Str => y.length)).sum + ys.length * a.length ≤ SL then .ok (.str (Txt.join a ys)) S else .bad
    | none => .bad
  | _, _ => .bad
def splitD (m : Bool) (d : D) (ds : List D) : M D := fun S => match d, ds with
  | .str a, [.str b] => if (b.length == 0) = false ∧ a.length + 2 ≤ SL then newL m ((Txt.split a b).map D.str) S else .bad
  | _, _ => .bad
def countD (d : D) (ds : List D) : M D := fun S => match d, ds with
  | .str a, [.str b] => .ok (.int (Txt.count a b)) S
  | _, _ => .bad
def upperD (d : D) (ds : List D) : M D := fun S => match d, ds with
  | .str a, [] => if a.length ≤ 5592405 then .ok (.str (Txt.upper a)) S else .bad
  | _, _ => .bad
/-- a method of a built-in type T: what it asks of the receiver's type, its run -/
def Mt (τ : Tau) (X : Cx) (T : String) (id : String) (g : D → List D → M D) : Prop := ∀ (pins : List (Addr × Obj)) (s : Shared) (σ : L2.St) (H : Hp) (η : List Addr) (S : Sto) (x : V) (xs : List V) (v : Value) (us : List Value) (d : D) (ds : List D),
  Inv X pins σ H s → τ.lo ≤ s.toks → StoOk τ X.K η H S → RelV x v → Vals xs us → Rep X.K η H d x → Reps X.K η H ds xs → Out τ X pins η H (relV X.K σ) (g d ds S) (sem X (call (.builtin id) (v :: us))) s
section
variable {X : Cx}
theorem sto_look {K : PySem.W.Frag} {η : List Addr} {H : Hp} {S : Sto} {n : Nat} {a : Addr} {xs : List D} (st : StoOk τ K η H S) (h : η[n]? = some a) (q : S[n]? = some (.lst xs)) : ∃ vs, H a = some (.lst vs) ∧ Reps K η H xs vs := st.look n _ a q h
theorem mt_appendD : Mt τ X "list" "list.append" appendD := by
  intro pins s σ H η S x xs v us d ds I tk st rx rv rd rds
  cases q : appendD d ds S with
  | bad => trivial
  | ok d' S' =>
    unfold appendD at q
    split at q
    · cases rd with
      | @ref n a h1 =>
        split at q
        · rename_i ys hq
          split at q
          · rename_i hz
            cases q
            obtain ⟨y, e1, r1⟩ := one_of (ds := []) rds
            obtain ⟨vs, h2, h3⟩ := sto_look st h1 hq
            exact out_ok tk fun E => mt_append (X := X.wish E) pins s σ H _ xs v us _ (I.wish E) rx rv ⟨a, vs, y, rfl, e1, h2, sl_lt (by rw [← h3.length]; exact hz), good_set st h1 (nofrzL h2) (h3.append (.cons r1 .nil)) .non⟩
          · cases q
        · cases q
    · cases q
theorem mt_extendD : Mt τ X "list" "list.extend" extendD := by
  intro pins s σ H η S x xs v us d ds I tk st rx rv rd rds
  cases q : extendD d ds S with
  | bad => trivial
  | ok d' S' =>
    unfold extendD at q
    split at q
    · cases rd with
      | @ref n a h1 =>
        split at q
        · rename_i ys zs hq hq2
          split at q
          · rename_i hz
            cases q
            obtain ⟨y, e1, r1⟩ := one_of (ds := []) rds
            obtain ⟨vs, h2, h3⟩ := sto_look st h1 hq
            obtain ⟨b, ws, e2, h4, h5⟩ := items_at st r1 hq2
            exact out_ok tk fun E => mt_extend (X := X.wish E) pins s σ H _ xs v us _ (I.wish E) rx rv ⟨a, b, vs, ws, rfl, by rw [e1, e2], h2, h4, sl_le (by rw [← h3.length, ← h5.length]; exact hz), good_set st h1 (nofrzL h2) (h3.append h5) .non⟩
          · cases q
        · cases q
    · cases q
theorem mt_popD : Mt τ X "list" "list.pop" popD := by
  intro pins s σ H η S x xs v us d ds I tk st rx rv rd rds
  cases q : popD d ds S with
  | bad => trivial
  | ok d' S' =>
    unfold popD at q
    split at q
    · cases rd with
      | @ref n a h1 =>
        split at q
        · rename_i ys hq
          split at q
          · rename_i e he
            cases q
            obtain ⟨vs, h2, h3⟩ := sto_look st h1 hq
            obtain ⟨y, h4, h5⟩ := h3.get he
            exact out_ok tk fun E => mt_pop (X := X.wish E) pins s σ H _ xs v us _ (I.wish E) rx rv ⟨a, vs, y, rfl, nil_of rds, h2, by rw [← h3.length]; exact h4, good_set st h1 (nofrzL h2) h3.dropLast h5⟩
          · cases q
        · cases q
    · cases rd with
      | @ref n a h1 =>
        split at q
        · rename_i ys hq
          split at q
          · rename_i j hj
            split at q
            · rename_i e he
              cases q
              obtain ⟨z, e1, r1⟩ := one_of (ds := []) rds
              cases r1
              obtain ⟨vs, h2, h3⟩ := sto_look st h1 hq
              obtain ⟨y, h4, h5⟩ := h3.get he
              obtain ⟨g1, g2, g3, g4⟩ := ixN_seq hj
              have hl : ys.length ≤ sizeLine := by
                obtain ⟨hz, _⟩ := I.hok a _ h2
                rw [h3.length]
                exact hz
              rw [sizeLine_eq] at hl
              refine out_ok tk fun E => mt_popAt (X := X.wish E) pins s σ H _ xs v us _ (I.wish E) rx rv ⟨a, vs, _, j, y, rfl, e1, h2, by omega, by omega, by rw [← h3.length]; exact g1, h4, good_set st h1 (nofrzL h2) (h3.eraseIdx j) h5⟩
            · cases q
          · cases q
        · cases q
    · cases q
theorem mt_joinD : Mt τ X "str" "str.join" joinD := by
  intro pins s σ H η S x xs v us d ds I tk st rx rv rd rds
  cases q : joinD d ds S with
  | bad => trivial
  | ok d' S' =>
    unfold joinD at q
    split at q
    · rename_i a e
      cases rd
      obtain ⟨y, e1, r1⟩ := one_of (ds := []) rds
      have fin : ∀ {zs : List D} {p : Addr} {vs : List V}, y = .ref p → (SqL X.K H p vs ∨ SqT X.K H p vs) → Reps X.K η H zs vs → (match strs? zs with | some ys => if (ys.map (fun y : Str => y.length)).sum + ys.length * a.length ≤ SL then R.ok (D.str (Txt.join a ys)) S else .bad | none => .bad) = .ok d' S' →
          Out τ X pins η H (relV X.K σ) (.ok d' S') (sem X (call (.builtin "str.join") (v :: us))) s := by
        intro zs p vs ey hs hr hq
        cases q2 : strs? zs with
        | none => rw [q2] at hq; cases hq
        | some ys =>
          rw [q2] at hq
          dsimp only at hq
          split at hq
          · rename_i hz
            cases hq
            have := strs_ok hr q2
            subst this
            exact out_ok tk fun E => mt_join (X := X.wish E) pins s σ H _ xs v us _ (I.wish E) rx rv ⟨a, p, ys, rfl, by rw [e1, ey], hs, hz, good_here st (.str _)⟩
          · cases hq
      cases r1 with
      | tup h1 h2 => exact fin rfl (.inr h1.sq) h2 q
      | lst h1 h2 => exact fin rfl (.inl h1.sq) h2 q
      | frz h1 h2 => exact fin rfl (.inl h1.sq) h2 q
      | @ref m b h1 =>
        have q : (match (itemsR S (.ref m)).bind strs? with | some ys => if (ys.map (fun y : Str => y.length)).sum + ys.length * a.length ≤ SL then R.ok (D.str (Txt.join a ys)) S else .bad | none => .bad) = .ok d' S' := q
        cases qa : itemsR S (.ref m) with
        | none => rw [qa] at q; cases q
        | some zs =>
          rw [qa] at q
          obtain ⟨a', vs, e2, h3, h4⟩ := itemsR_at st (.ref h1) qa
          exact fin e2 (.inl h3) h4 q
      | _ => cases q
    · cases q
theorem mt_splitD (m : Bool) : Mt τ X "str" "str.split" (splitD m) := by
  intro pins s σ H η S x xs v us d ds I tk st rx rv rd rds
  cases q : splitD m d ds S with
  | bad => trivial
  | ok d' S' =>
    unfold splitD at q
    split at q
    · rename_i a b
      split at q
      · rename_i hz
        cases rd
        obtain ⟨y, e1, r1⟩ := one_of (ds := []) rds
        cases r1
        exact out_ok tk fun E => mt_split (X := X.wish E) pins s σ H _ xs v us _ (I.wish E) rx rv ⟨a, b, rfl, e1, hz.1, sl_le hz.2, fun p hp => good_newL st (Reps.strs _) hp q⟩
      · cases q
    · cases q
theorem mt_countD : Mt τ X "str" "str.count" countD := by
  intro pins s σ H η S x xs v us d ds I tk st rx rv rd rds
  cases q : countD d ds S with
  | bad => trivial
  | ok d' S' =>
    unfold countD at q
    split at q
    · rename_i a b
      cases q
      cases rd
      obtain ⟨y, e1, r1⟩ := one_of (ds := []) rds
      cases r1
      exact out_ok tk fun E => mt_count (X := X.wish E) pins s σ H _ xs v us _ (I.wish E) rx rv ⟨a, b, rfl, e1, good_here st (.int _)⟩
    · cases q
theorem mt_upperD : Mt τ X "str" "str.upper" upperD := by
  intro pins s σ H η S x xs v us d ds I tk st rx rv rd rds
  cases q : upperD d ds S with
  | bad => trivial
  | ok d' S' =>
    unfold upperD at q
    split at q
    · rename_i a
      split at q
      · rename_i hz
        cases q
        cases rd
        exact out_ok tk fun E => mt_upper (X := X.wish E) pins s σ H _ xs v us _ (I.wish E) rx rv ⟨a, rfl, nil_of rds, hz, good_here st (.str _)⟩
      · cases q
    · cases q
end

/-! ### o[i] = v -/
def putD (kvs : List (Key × D)) (k : Key) (v : D) : List (Key × D) :=
  if (kvs.any fun kv => decide (kv.1 = k)) = true then kvs.map (fun kv => if kv.1 = k then (kv.1, v) else kv) else kvs ++ [(k, v)]
def setD (o i d : D) : M Unit := fun S => match o with
  | .ref n => match S[n]? with
    | some (.lst xs) => match i with
      | .int k => match ixN xs.length k with
        | some j => .ok () (S.set n (.lst (xs.set j d)))
        | none => .bad
      | _ => .bad
    | some (.dic kvs) => match keyD i with
      | some k => if kvs.length < SL then .ok () (S.set n (.dic (putD kvs k d))) else .bad
      | none => .bad
    | _ => .bad
  | _ => .bad
theorem repk_any {K : PySem.W.Frag} {η : List Addr} {H : Hp} {k : Key} : ∀ {kds : List (Key × D)} {kvs : List (Key × V)}, Repk K η H kds kvs → (kds.any fun kv => decide (kv.1 = k)) = kvs.any fun kv => decide (kv.1 = k)
  | _, _, .nil => rfl
  | _, _, .cons r t => by rw [List.any_cons, List.any_cons, repk_any t]
theorem repk_repl {K : PySem.W.Frag} {η : List Addr} {H : Hp} {k : Key} {d : D} {v : V} (r : Rep K η H d v) : ∀ {kds : List (Key × D)} {kvs : List (Key × V)}, Repk K η H kds kvs → Repk K η H (kds.map fun kv => if kv.1 = k then (kv.1, d) else kv) (kvs.map fun kv => if kv.1 = k then (kv.1, v) else kv)
  | _, _, .nil => .nil
  | _, _, .cons (k := k') q t => by
    rw [List.map_cons, List.map_cons]
    by_cases e : k' = k
    · rw [if_pos e, if_pos e]; exact .cons r (repk_repl r t)
    · rw [if_neg e, if_neg e]; exact .cons q (repk_repl r t)
theorem repk_snoc {K : PySem.W.Frag} {η : List Addr} {H : Hp} {k : Key} {d : D} {v : V} (r : Rep K η H d v) : ∀ {kds : List (Key × D)} {kvs : List (Key × V)}, Repk K η H kds kvs → Repk K η H (kds ++ [(k, d)]) (kvs ++ [(k, v)])
  | _, _, .nil => .cons r .nil
  | _, _, .cons q t => .cons q (repk_snoc r t)
theorem repk_put {K : PySem.W.Frag} {η : List Addr} {H : Hp} {k : Key} {d : D} {v : V} (r : Rep K η H d v) {kds : List (Key × D)} {kvs : List (Key × V)} (h : Repk K η H kds kvs) : Repk K η H (putD kds k d) (putK kvs k v) := by
  unfold putD putK
  rw [repk_any h]
  split
  · exact repk_repl r h
  · exact repk_snoc r h
def relU (σ : L2.St) : L2.St → List Addr → Hp → Unit → Unit → Prop := fun σ' _ _ _ _ => σ' = σ
section
variable {X : Cx}
theorem set_okD {pins : List (Addr × Obj)} {s : Shared} {σ : L2.St} {H : Hp} {η : List Addr} {S : Sto} {o i x : V} {ov iv u : Value} {od id d : D} (I : Inv X pins σ H s) (tk : τ.lo ≤ s.toks) (st : StoOk τ X.K η H S) (ro : RelV o ov) (ri : RelV i iv) (rx : RelV x u) (r1 : Rep X.K η H od o) (r2 : Rep X.K η H id i) (r3 : Rep X.K η H d x) (hu : X.A.units + 1 < cLine) :
    Out τ X pins η H (relU σ) (setD od id d S) (sem X (setItem ov iv u)) s := by
  cases q : setD od id d S with
  | bad => trivial
  | ok z S' =>
    unfold setD at q
    cases r1 <;> try (cases q; done)
    rename_i n a h1
    dsimp only at q
    cases qn : S[n]? with
    | none => rw [qn] at q; cases q
    | some oo =>
      rw [qn] at q
      cases oo with
      | fdic _ => cases q
      | exc _ _ => cases q
      | lst xs =>
        cases r2 <;> try (cases q; done)
        rename_i k
        dsimp only at q
        split at q
        · rename_i j hj
          cases q
          obtain ⟨vs, h2, h3⟩ := sto_look st h1 qn
          intro E
          refine wpAny_mono (PySem.wpAny_toks (set_list (X := X.wish E) pins s σ H _ _ x ov iv u (fun H' => H' = upd H a (.lst (vs.set j x))) (I.wish E) ro ri rx ⟨a, vs, k, j, rfl, rfl, h2, by rw [← h3.length]; exact hj, rfl⟩)) (fun _ s' z => ?_) fun _ _ z => z.2
          obtain ⟨hk, H', I', e⟩ := z
          subst e
          exact ⟨Nat.le_trans tk hk, σ, η, _, I'.unwish, grow_set st (List.mem_of_getElem? h1) (nofrzL h2), st.set h1 (nofrzL h2) (h3.set r3 j), rfl⟩
        · cases q
      | dic kds =>
        dsimp only at q
        split at q
        · rename_i k hk
          split at q
          · rename_i hz
            cases q
            obtain ⟨kvs, h2, h3⟩ := st.look n _ a qn h1
            have ek := keyD_ok r2 hk
            subst ek
            cases ro
            intro E
            have gp : DPut H a (kV k) x (upd H a (.dK (putK kvs k x))) := DPut.k h2 (sl_lt (by rw [← h3.length]; exact hz))
            refine wpAny_mono (PySem.wpAny_toks (d_setItem (X := X.wish E) (Q := fun _ s' => Inv (X.wish E) pins σ (upd H a (.dK (putK kvs k x))) s') hu (I.wish E) gp ri rx fun s' I' => I')) (fun _ s' z => ?_) fun _ _ z => z.2
            have g := grow_set (u := .dK (putK kvs k x)) st (List.mem_of_getElem? h1) (nofrzD h2)
            exact ⟨Nat.le_trans tk z.1, σ, η, _, z.2.unwish, g, st.setO h1 (nofrzD h2) ⟨_, upd_same, (repk_put r3 h3).grow g⟩, rfl⟩
          · cases q
        · cases q
end
end MP

/-! MP7: expressions put together. -/
namespace MP
open PySem L2
section
variable {X : Cx} {n : Nat} {a b c e : Expr} {ga gb gc : Env → M D} {pos : Pos}

/-! ### names, constants -/
theorem pd_const {g : Env → M D} {d : D} {v : V} (hg : ∀ ρ S, g ρ S = .ok d S) (h : ∀ E, PE (X.wish E) e (tC v)) (hr : ∀ η H, Rep X.K η H d v) : PD τ X e g := by
  refine pd_of fun E σ H ρ η S d' S' sr st q => ⟨_, h E, ?_⟩
  rw [hg] at q
  cases q
  exact good_here st (hr η H)
theorem pd_var {i : Nat} {x : Str} (hi : i ∉ τ.cp) (hN : X.N[i]? = some x) (hv : Vis X.env.scope x) (hd : (x == ("__debug__" : Str)) = false) (hcd : (x == ("__classdict__" : Str)) = false) : PD τ X (.Name x pos) (fun ρ => M.of ((ρ[i]?).bind id)) := by
  refine pd_of fun E σ H ρ η S d S' sr st q => ⟨_, pe_var (X := X.wish E) hN hv hd hcd, ?_⟩
  cases q1 : ρ[i]? with
  | none => rw [q1] at q; cases q
  | some o =>
    cases o with
    | none => rw [q1] at q; cases q
    | some d' =>
      rw [q1] at q
      cases q
      obtain ⟨v, h1, h2⟩ := sr.look i _ hi q1
      exact ⟨v, h1, good_here st h2⟩

/-! ### two parts -/
theorem two_parts {f : D → D → M D} {T : Sem Value} {K2 : Value → Value → Sem Value} (ha : PD τ X a ga) (hb : PD τ X b gb) (ho : Op2 τ X K2 f) {pins : List (Addr × Obj)} {s : Shared} {σ : L2.St} {H : Hp} {ρ : Env} {η : List Addr} {S : Sto}
    (hT : ∀ Q E, wpAny (model X.prog X.w) X.A (eval a X.env) (fun v s1 => wpAny (model X.prog X.w) X.A (eval b X.env) (fun u s2 => wpAny (model X.prog X.w) X.A (K2 v u) Q E s2) E s1) E s → wpAny (model X.prog X.w) X.A T Q E s)
    (I : Inv X pins σ H s) (tk : τ.lo ≤ s.toks) (sr : SRel τ X.K X.base η H σ ρ) (st : StoOk τ X.K η H S) : Out τ X pins η H (relV X.K σ) ((ga ρ >>= fun d => gb ρ >>= fun e => f d e) S) (sem X T) s := by
  refine Out.seq (t1 := eval a X.env) (W2 := fun v Q E s1 => wpAny (model X.prog X.w) X.A (eval b X.env) (fun u s2 => wpAny (model X.prog X.w) X.A (K2 v u) Q E s2) E s1) hT (ha pins s σ H ρ η S I tk sr st) ?_
  rintro v s1 σ1 η1 H1 d S1 _ tk1 I1 g1 st1 ⟨rfl, x, rx, rd⟩
  refine Out.back (mono_then _ fun u => mono_sem _) g1 ?_
  refine Out.seq (t1 := eval b X.env) (W2 := fun u => sem X (K2 v u)) (fun Q E h => h) (hb pins s1 σ1 H1 ρ η1 S1 I1 tk1 (sr.grow g1) st1) ?_
  rintro u s2 σ2 η2 H2 e S2 _ tk2 I2 g2 st2 ⟨rfl, y, ry, re⟩
  exact Out.back (mono_sem _) g2 (ho pins s2 σ2 H2 η2 S2 x y v u d e I2 tk2 st2 rx ry (rd.grow g2) re)
theorem pd_bin {op : Operator} {f : D → D → M D} (ho : Op2 τ X (binaryOp op) f) (ha : PD τ X a ga) (hb : PD τ X b gb) : PD τ X (.BinOp a op b pos) (fun ρ => ga ρ >>= fun d => gb ρ >>= fun e => f d e) :=
  fun pins s σ H ρ η S I tk sr st => two_parts ha hb ho (fun Q E h => wpAny_BinOp h) I tk sr st
theorem pd_cmp {op : CmpOp} {f : D → D → M D} (ho : Op2 τ X (compareOp op) f) (ha : PD τ X a ga) (hb : PD τ X b gb) (hm : behindInMarks op b = false) : PD τ X (.Compare a [op] [b] pos) (fun ρ => ga ρ >>= fun d => gb ρ >>= fun e => f d e) :=
  fun pins s σ H ρ η S I tk sr st => two_parts ha hb ho (fun Q E h => wpAny_Compare1 h hm) I tk sr st
theorem pd_ix (hu : X.A.units + 1 < cLine) (ha : PD τ X a ga) (hb : PD τ X b gb) (hs : ∀ o i, subscripted b false o i = operate [o, i] (getItem o i)) : PD τ X (.Subscript a b pos) (fun ρ => ga ρ >>= fun d => gb ρ >>= fun e => ixD d e) :=
  fun pins s σ H ρ η S I tk sr st => two_parts ha hb (op_ixD (value := a) hu hs) (fun Q E h => PyProof.Rows.Subscript_ h) I tk sr st

/-! ### tests -/
def asB : D → M Bool
  | .bl b => pure b
  | _ => M.fail
theorem asB_ok {pins : List (Addr × Obj)} {s : Shared} {σ : L2.St} {H : Hp} {η : List Addr} {S : Sto} {x : V} {v : Value} {d : D} (I : Inv X pins σ H s) (tk : τ.lo ≤ s.toks) (st : StoOk τ X.K η H S) (rx : RelV x v) (rd : Rep X.K η H d x) : Out τ X pins η H (relB σ) (asB d S) (sem X (truthy v)) s := by
  cases rd with
  | bl b => exact tru_okD I tk st rx (.bl b)
  | _ => trivial
theorem pdb_val (ha : PD τ X a ga) (he : ∀ whole, isTrue a X.env whole = (do let v ← whole; standAt a.pos; holding [v] (truthy v))) : PDB τ X a (fun ρ => ga ρ >>= truD) := by
  intro pins s σ H ρ η S I tk sr st
  refine Out.seq (t1 := eval a X.env) (W2 := fun v => sem X (truthy v)) (fun Q E h => PyProof.Rows.isTrue_plain h (he _)) (ha pins s σ H ρ η S I tk sr st) ?_
  rintro v s1 σ1 η1 H1 d S1 _ tk1 I1 g1 st1 ⟨rfl, x, rx, rd⟩
  exact Out.back (mono_sem _) g1 (tru_okD I1 tk1 st1 rx rd)
theorem pdb_cmp {op : CmpOp} {f : D → D → M D} (ho : Op2 τ X (compareOp op) f) (ha : PD τ X a ga) (hb : PD τ X b gb) (hm : behindInMarks op b = false) : PDB τ X (.Compare a [op] [b] pos) (fun ρ => ga ρ >>= fun d => gb ρ >>= fun e => f d e >>= asB) := by
  intro pins s σ H ρ η S I tk sr st
  refine Out.seq (t1 := eval a X.env) (W2 := fun v Q E s1 => wpAny (model X.prog X.w) X.A (eval b X.env) (fun u s2 => wpAny (model X.prog X.w) X.A (compareOp op v u) (fun z s3 => wpAny (model X.prog X.w) X.A (truthy z) Q E s3) E s2) E s1)
    (fun Q E h => wpAny_isTrue_Compare1 h hm) (ha pins s σ H ρ η S I tk sr st) ?_
  rintro v s1 σ1 η1 H1 d S1 _ tk1 I1 g1 st1 ⟨rfl, x, rx, rd⟩
  refine Out.back (mono_then _ fun u => mono_then _ fun z => mono_sem _) g1 ?_
  refine Out.seq (t1 := eval b X.env) (W2 := fun u Q E s2 => wpAny (model X.prog X.w) X.A (compareOp op v u) (fun z s3 => wpAny (model X.prog X.w) X.A (truthy z) Q E s3) E s2) (fun Q E h => h) (hb pins s1 σ1 H1 ρ η1 S1 I1 tk1 (sr.grow g1) st1) ?_
  rintro u s2 σ2 η2 H2 e S2 _ tk2 I2 g2 st2 ⟨rfl, y, ry, re⟩
  refine Out.back (mono_then _ fun z => mono_sem _) g2 ?_
  refine Out.seq (t1 := compareOp op v u) (W2 := fun z => sem X (truthy z)) (fun Q E h => h) (ho pins s2 σ2 H2 η2 S2 x y v u d e I2 tk2 st2 rx ry (rd.grow g2) re) ?_
  rintro z s3 σ3 η3 H3 d3 S3 _ tk3 I3 g3 st3 ⟨rfl, y3, r3, re3⟩
  exact Out.back (mono_sem _) g3 (asB_ok I3 tk3 st3 r3 re3)
theorem pdb_not {gt : Env → M Bool} (ha : PDB τ X a gt) : PDB τ X (.UnaryOp .Not a pos) (fun ρ => gt ρ >>= fun b => pure (!b)) := by
  intro pins s σ H ρ η S I tk sr st
  refine Out.seq (t1 := isTrue a X.env (eval a X.env)) (W2 := fun b Q E s' => Q (!b) s') (fun Q E h => PyProof.Rows.isTrue_not h) (ha pins s σ H ρ η S I tk sr st) ?_
  rintro v s1 σ1 η1 H1 d S1 _ tk1 I1 g1 st1 ⟨rfl, rfl⟩
  exact fun E => ⟨tk1, _, η1, H1, I1, g1, st1, rfl, rfl⟩
theorem pd_not (ha : PD τ X a ga) : PD τ X (.UnaryOp .Not a pos) (fun ρ => ga ρ >>= fun d => asB d >>= fun b => pure (.bl (!b))) := by
  intro pins s σ H ρ η S I tk sr st
  refine Out.seq (t1 := eval a X.env) (W2 := fun v => sem X (unaryOp .Not v)) (fun Q E h => PyProof.Rows.UnaryOp_ h) (ha pins s σ H ρ η S I tk sr st) ?_
  rintro v s1 σ1 η1 H1 d S1 _ tk1 I1 g1 st1 ⟨rfl, x, rx, rd⟩
  refine Out.back (mono_sem _) g1 ?_
  refine Out.seq (t1 := truthy v) (W2 := fun b Q E s' => Q (.bool (!b)) s') (fun Q E h => PyProof.Rows.not_of h) (asB_ok I1 tk1 st1 rx rd) ?_
  rintro b s2 σ2 η2 H2 d2 S2 _ tk2 I2 g2 st2 ⟨rfl, rfl⟩
  exact fun E => ⟨tk2, _, η2, H2, I2, g2, st2, rfl, .bl _, rfl, .bl _⟩
/-- a and rest as values, as tests -/
theorem pd_and {rest : List Expr} (ha : PD τ X a ga) (hb : PD τ X (.BoolOp .And (b :: rest) pos) gb) : PD τ X (.BoolOp .And (a :: b :: rest) pos) (fun ρ => ga ρ >>= fun d => asB d >>= fun t => if t = true then gb ρ else pure (.bl false)) := by
  intro pins s σ H ρ η S I tk sr st
  refine Out.seq (t1 := eval a X.env) (W2 := fun v Q E s1 => wpAny (model X.prog X.w) X.A (truthy v) (fun t s2 => if t then wpAny (model X.prog X.w) X.A (eval (.BoolOp .And (b :: rest) pos) X.env) Q E s2 else Q v s2) E s1)
    (fun Q E h => PyProof.Rows.BoolOp_and h) (ha pins s σ H ρ η S I tk sr st) ?_
  rintro v s1 σ1 η1 H1 d S1 _ tk1 I1 g1 st1 ⟨rfl, x, rx, rd⟩
  cases rd with
  | bl t =>
    cases rx
    cases t with
    | true => exact Out.via (fun Q E h => wpAny_truthy_bool h) (Out.back (mono_sem _) g1 (hb pins s1 σ1 H1 ρ η1 S1 I1 tk1 (sr.grow g1) st1))
    | false => exact fun E => wpAny_truthy_bool ⟨tk1, _, η1, H1, I1, g1, st1, rfl, .bl _, rfl, .bl _⟩
  | _ => trivial
theorem pd_or {rest : List Expr} (ha : PD τ X a ga) (hb : PD τ X (.BoolOp .Or (b :: rest) pos) gb) : PD τ X (.BoolOp .Or (a :: b :: rest) pos) (fun ρ => ga ρ >>= fun d => asB d >>= fun t => if t = true then pure (.bl true) else gb ρ) := by
  intro pins s σ H ρ η S I tk sr st
  refine Out.seq (t1 := eval a X.env) (W2 := fun v Q E s1 => wpAny (model X.prog X.w) X.A (truthy v) (fun t s2 => if t then Q v s2 else wpAny (model X.prog X.w) X.A (eval (.BoolOp .Or (b :: rest) pos) X.env) Q E s2) E s1)
    (fun Q E h => PyProof.Rows.BoolOp_or h) (ha pins s σ H ρ η S I tk sr st) ?_
  rintro v s1 σ1 η1 H1 d S1 _ tk1 I1 g1 st1 ⟨rfl, x, rx, rd⟩
  cases rd with
  | bl t =>
    cases rx
    cases t with
    | false => exact Out.via (fun Q E h => wpAny_truthy_bool h) (Out.back (mono_sem _) g1 (hb pins s1 σ1 H1 ρ η1 S1 I1 tk1 (sr.grow g1) st1))
    | true => exact fun E => wpAny_truthy_bool ⟨tk1, _, η1, H1, I1, g1, st1, rfl, .bl _, rfl, .bl _⟩
  | _ => trivial
theorem pd_one {op : BoolOp} (ha : PD τ X a ga) : PD τ X (.BoolOp op [a] pos) ga := fun pins s σ H ρ η S I tk sr st => Out.via (fun Q E h => PyProof.Rows.BoolOp_one h) (ha pins s σ H ρ η S I tk sr st)
/-- tests, whatever their whole is -/
def PDW (τ : Tau) (X : Cx) (e : Expr) (g : Env → M Bool) : Prop := ∀ (whole : Sem Value) (pins : List (Addr × Obj)) (s : Shared) (σ : L2.St) (H : Hp) (ρ : Env) (η : List Addr) (S : Sto),
  Inv X pins σ H s → τ.lo ≤ s.toks → SRel τ X.K X.base η H σ ρ → StoOk τ X.K η H S → Out τ X pins η H (relB σ) (g ρ S) (sem X (isTrue e X.env whole)) s
theorem pdw_and_nil : PDW τ X (.BoolOp .And [] pos) (fun _ => pure true) := fun whole pins s σ H ρ η S I tk sr st E => PyProof.Rows.isTrue_and_nil ⟨tk, σ, η, H, I, .refl _ _, st, rfl, rfl⟩
theorem pdw_or_nil : PDW τ X (.BoolOp .Or [] pos) (fun _ => pure false) := fun whole pins s σ H ρ η S I tk sr st E => PyProof.Rows.isTrue_or_nil ⟨tk, σ, η, H, I, .refl _ _, st, rfl, rfl⟩
theorem pdw_and {rest : List Expr} {gt gr : Env → M Bool} (ha : PDB τ X a gt) (hb : PDW τ X (.BoolOp .And rest pos) gr) : PDW τ X (.BoolOp .And (a :: rest) pos) (fun ρ => gt ρ >>= fun t => if t = true then gr ρ else pure false) := by
  intro whole pins s σ H ρ η S I tk sr st
  refine Out.seq (t1 := isTrue a X.env (eval a X.env)) (W2 := fun t Q E s1 => if t then wpAny (model X.prog X.w) X.A (isTrue (.BoolOp .And rest pos) X.env whole) Q E s1 else Q false s1) (fun Q E h => PyProof.Rows.isTrue_and h) (ha pins s σ H ρ η S I tk sr st) ?_
  rintro t s1 σ1 η1 H1 d S1 _ tk1 I1 g1 st1 ⟨rfl, rfl⟩
  cases d with
  | true => exact Out.back (mono_sem _) g1 (hb whole pins s1 σ1 H1 ρ η1 S1 I1 tk1 (sr.grow g1) st1)
  | false => exact fun E => ⟨tk1, _, η1, H1, I1, g1, st1, rfl, rfl⟩
theorem pdw_or {rest : List Expr} {gt gr : Env → M Bool} (ha : PDB τ X a gt) (hb : PDW τ X (.BoolOp .Or rest pos) gr) : PDW τ X (.BoolOp .Or (a :: rest) pos) (fun ρ => gt ρ >>= fun t => if t = true then pure true else gr ρ) := by
  intro whole pins s σ H ρ η S I tk sr st
  refine Out.seq (t1 := isTrue a X.env (eval a X.env)) (W2 := fun t Q E s1 => if t then Q true s1 else wpAny (model X.prog X.w) X.A (isTrue (.BoolOp .Or rest pos) X.env whole) Q E s1) (fun Q E h => PyProof.Rows.isTrue_or h) (ha pins s σ H ρ η S I tk sr st) ?_
  rintro t s1 σ1 η1 H1 d S1 _ tk1 I1 g1 st1 ⟨rfl, rfl⟩
  cases d with
  | false => exact Out.back (mono_sem _) g1 (hb whole pins s1 σ1 H1 ρ η1 S1 I1 tk1 (sr.grow g1) st1)
  | true => exact fun E => ⟨tk1, _, η1, H1, I1, g1, st1, rfl, rfl⟩
theorem PDW.pdb {g : Env → M Bool} (h : PDW τ X e g) : PDB τ X e g := fun pins s σ H ρ η S I tk sr st => h _ pins s σ H ρ η S I tk sr st
theorem pd_ife {gt : Env → M Bool} (hc : PDB τ X c gt) (ha : PD τ X a ga) (hb : PD τ X b gb) : PD τ X (.IfExp c a b pos) (fun ρ => gt ρ >>= fun t => if t = true then ga ρ else gb ρ) := by
  intro pins s σ H ρ η S I tk sr st
  refine Out.seq (t1 := isTrue c X.env (eval c X.env)) (W2 := fun t Q E s1 => if t then wpAny (model X.prog X.w) X.A (eval a X.env) Q E s1 else wpAny (model X.prog X.w) X.A (eval b X.env) Q E s1) (fun Q E h => wpAny_IfExp h) (hc pins s σ H ρ η S I tk sr st) ?_
  rintro t s1 σ1 η1 H1 d S1 _ tk1 I1 g1 st1 ⟨rfl, rfl⟩
  cases d with
  | true => exact Out.back (mono_sem _) g1 (ha pins s1 σ1 H1 ρ η1 S1 I1 tk1 (sr.grow g1) st1)
  | false => exact Out.back (mono_sem _) g1 (hb pins s1 σ1 H1 ρ η1 S1 I1 tk1 (sr.grow g1) st1)
/-- a op b op' c -/
theorem pd_chain {op op' : CmpOp} {f f' : D → D → M D} (ho : Op2 τ X (compareOp op) f) (ho' : Op2 τ X (compareOp op') f') (ha : PD τ X a ga) (hb : PD τ X b gb) (hc : PD τ X c gc) (hm : lastMarks [op, op'] [b, c] = false) :
    PD τ X (.Compare a [op, op'] [b, c] pos) (fun ρ => ga ρ >>= fun d => gb ρ >>= fun e => f d e >>= fun z => asB z >>= fun t => if t = true then gc ρ >>= fun e' => f' e e' else pure (.bl false)) := by
  intro pins s σ H ρ η S I tk sr st
  refine Out.seq (t1 := eval a X.env) (W2 := fun v => sem X (compareChain pos v [op, op'] [eval b X.env, eval c X.env])) (fun Q E h => PyProof.Rows.Compare_chain h hm) (ha pins s σ H ρ η S I tk sr st) ?_
  rintro v s1 σ1 η1 H1 d S1 _ tk1 I1 g1 st1 ⟨rfl, x, rx, rd⟩
  refine Out.back (mono_sem _) g1 ?_
  refine Out.seq (t1 := eval b X.env) (W2 := fun u Q E s2 => wpAny (model X.prog X.w) X.A (compareOp op v u) (fun z s3 => wpAny (model X.prog X.w) X.A (truthy z)
    (fun t s4 => if t then wpAny (model X.prog X.w) X.A (compareChain pos u [op'] [eval c X.env]) Q E s4 else Q z s4) E s3) E s2) (fun Q E h => PyProof.Rows.chain_link h) (hb pins s1 σ1 H1 ρ η1 S1 I1 tk1 (sr.grow g1) st1) ?_
  rintro u s2 σ2 η2 H2 e S2 _ tk2 I2 g2 st2 ⟨rfl, y, ry, re⟩
  refine Out.back (mono_then _ fun z => mono_then _ fun t => ?_) g2 ?_
  · intro Q Q' E s' hQ w
    cases t with
    | true => exact wpAny_mono w hQ fun _ _ z => z
    | false => exact hQ _ _ w
  refine Out.seq (t1 := compareOp op v u) (W2 := fun z Q E s3 => wpAny (model X.prog X.w) X.A (truthy z) (fun t s4 => if t then wpAny (model X.prog X.w) X.A (compareChain pos u [op'] [eval c X.env]) Q E s4 else Q z s4) E s3) (fun Q E h => h)
    (ho pins s2 σ2 H2 η2 S2 x y v u d e I2 tk2 st2 rx ry (rd.grow g2) re) ?_
  rintro z s3 σ3 η3 H3 d3 S3 _ tk3 I3 g3 st3 ⟨rfl, y3, r3, re3⟩
  cases re3 with
  | bl t =>
    cases r3
    cases t with
    | false => exact fun E => wpAny_truthy_bool ⟨tk3, _, η3, H3, I3, g3, st3, rfl, .bl _, rfl, .bl _⟩
    | true =>
      refine Out.via (fun Q E h => wpAny_truthy_bool h) (Out.back (mono_sem _) g3 ?_)
      show Out τ X pins η3 H3 _ ((gc ρ >>= fun e' => f' e e') S3) _ _
      refine Out.seq (t1 := eval c X.env) (W2 := fun w => sem X (compareOp op' u w)) (fun Q E h => PyProof.Rows.chain_last h) (hc pins s3 σ3 H3 ρ η3 S3 I3 tk3 ((sr.grow g1).grow (g2.trans g3)) st3) ?_
      rintro w s4 σ4 η4 H4 e4 S4 _ tk4 I4 g4 st4 ⟨rfl, y4, r4, re4⟩
      exact Out.back (mono_sem _) g4 (ho' pins s4 σ4 H4 η4 S4 y y4 u w e e4 I4 tk4 st4 ry r4 (re.grow (g3.trans g4)) re4)
  | _ => trivial
theorem pdb_chain {op op' : CmpOp} {f f' : D → D → M D} (ho : Op2 τ X (compareOp op) f) (ho' : Op2 τ X (compareOp op') f') (ha : PD τ X a ga) (hb : PD τ X b gb) (hc : PD τ X c gc) (hm : lastMarks [op, op'] [b, c] = false) :
    PDB τ X (.Compare a [op, op'] [b, c] pos) (fun ρ => ga ρ >>= fun d => gb ρ >>= fun e => f d e >>= fun z => asB z >>= fun t => if t = true then gc ρ >>= fun e' => f' e e' >>= asB else pure false) := by
  intro pins s σ H ρ η S I tk sr st
  refine Out.seq (t1 := eval a X.env) (W2 := fun v => sem X (testChain pos v [op, op'] [eval b X.env, eval c X.env])) (fun Q E h => PyProof.Rows.isTrue_chain h hm) (ha pins s σ H ρ η S I tk sr st) ?_
  rintro v s1 σ1 η1 H1 d S1 _ tk1 I1 g1 st1 ⟨rfl, x, rx, rd⟩
  refine Out.back (mono_sem _) g1 ?_
  refine Out.seq (t1 := eval b X.env) (W2 := fun u Q E s2 => wpAny (model X.prog X.w) X.A (compareOp op v u) (fun z s3 => wpAny (model X.prog X.w) X.A (truthy z)
    (fun t s4 => if t then wpAny (model X.prog X.w) X.A (testChain pos u [op'] [eval c X.env]) Q E s4 else Q false s4) E s3) E s2) (fun Q E h => PyProof.Rows.test_link h) (hb pins s1 σ1 H1 ρ η1 S1 I1 tk1 (sr.grow g1) st1) ?_
  rintro u s2 σ2 η2 H2 e S2 _ tk2 I2 g2 st2 ⟨rfl, y, ry, re⟩
  refine Out.back (mono_then _ fun z => mono_then _ fun t => ?_) g2 ?_
  · intro Q Q' E s' hQ w
    cases t with
    | true => exact wpAny_mono w hQ fun _ _ z => z
    | false => exact hQ _ _ w
  refine Out.seq (t1 := compareOp op v u) (W2 := fun z Q E s3 => wpAny (model X.prog X.w) X.A (truthy z) (fun t s4 => if t then wpAny (model X.prog X.w) X.A (testChain pos u [op'] [eval c X.env]) Q E s4 else Q false s4) E s3) (fun Q E h => h)
    (ho pins s2 σ2 H2 η2 S2 x y v u d e I2 tk2 st2 rx ry (rd.grow g2) re) ?_
  rintro z s3 σ3 η3 H3 d3 S3 _ tk3 I3 g3 st3 ⟨rfl, y3, r3, re3⟩
  cases re3 with
  | bl t =>
    cases r3
    cases t with
    | false => exact fun E => wpAny_truthy_bool ⟨tk3, _, η3, H3, I3, g3, st3, rfl, rfl⟩
    | true =>
      refine Out.via (fun Q E h => wpAny_truthy_bool h) (Out.back (mono_sem _) g3 ?_)
      show Out τ X pins η3 H3 _ ((gc ρ >>= fun e' => f' e e' >>= asB) S3) _ _
      refine Out.seq (t1 := eval c X.env) (W2 := fun w Q E s4 => wpAny (model X.prog X.w) X.A (compareOp op' u w) (fun z s5 => wpAny (model X.prog X.w) X.A (truthy z) Q E s5) E s4) (fun Q E h => PyProof.Rows.test_last h) (hc pins s3 σ3 H3 ρ η3 S3 I3 tk3 ((sr.grow g1).grow (g2.trans g3)) st3) ?_
      rintro w s4 σ4 η4 H4 e4 S4 _ tk4 I4 g4 st4 ⟨rfl, y4, r4, re4⟩
      refine Out.back (mono_then _ fun z => mono_sem _) g4 ?_
      refine Out.seq (t1 := compareOp op' u w) (W2 := fun z => sem X (truthy z)) (fun Q E h => h) (ho' pins s4 σ4 H4 η4 S4 y y4 u w e e4 I4 tk4 st4 ry r4 (re.grow (g3.trans g4)) re4) ?_
      rintro z s5 σ5 η5 H5 d5 S5 _ tk5 I5 g5 st5 ⟨rfl, y5, r5, re5⟩
      exact Out.back (mono_sem _) g5 (asB_ok I5 tk5 st5 r5 re5)
  | _ => trivial
end

/-! ### lists of expressions -/
section
variable {X : Cx} {e : Expr} {es : List Expr}
theorem pdl_nil : PDL τ X [] (fun _ => pure []) := fun pos pins s σ H ρ η S I tk sr st E => Calls.spliced_nil ⟨tk, σ, η, H, I, .refl _ _, st, rfl, [], .nil, .nil⟩
theorem pdl_cons {ga : Env → M D} {gr : Env → M (List D)} (ha : PD τ X e ga) (hr : PDL τ X es gr) (hs : starEach (e :: es) X.env = (false, eval e X.env) :: starEach es X.env) : PDL τ X (e :: es) (fun ρ => ga ρ >>= fun d => gr ρ >>= fun ds => pure (d :: ds)) := by
  intro pos pins s σ H ρ η S I tk sr st
  rw [hs]
  refine Out.seq (t1 := eval e X.env) (W2 := fun v Q E s1 => wpAny (model X.prog X.w) X.A (spliced (backTo pos (starEach es X.env))) (fun vs s2 => Q (v :: vs) s2) E s1) (fun Q E h => Calls.spliced_cons h) (ha pins s σ H ρ η S I tk sr st) ?_
  rintro v s1 σ1 η1 H1 d S1 _ tk1 I1 g1 st1 ⟨rfl, x, rx, rd⟩
  refine Out.back (fun Q Q' E s' hQ w => wpAny_mono w (fun vs s2 z => hQ _ _ z) fun _ _ z => z) g1 ?_
  refine Out.seq (t1 := spliced (backTo pos (starEach es X.env))) (W2 := fun vs Q E s2 => Q (v :: vs) s2) (fun Q E h => h) (hr pos pins s1 σ1 H1 ρ η1 S1 I1 tk1 (sr.grow g1) st1) ?_
  rintro vs s2 σ2 η2 H2 ds S2 _ tk2 I2 g2 st2 ⟨rfl, xs, rxs, rds⟩
  exact fun E => ⟨tk2, _, η2, H2, I2, g2, st2, rfl, x :: xs, .cons rx rxs, .cons (rd.grow g2) rds⟩
theorem pd_tup {g : Env → M (List D)} {k : Nat} {pos : Pos} (h : PDL τ X es g) (hl : ∀ ρ S ds S', g ρ S = .ok ds S' → ds.length ≤ SL) : PD τ X (.Tuple es k pos) (fun ρ => g ρ >>= fun ds => pure (.tup ds)) := by
  intro pins s σ H ρ η S I tk sr st
  refine Out.seq (t1 := spliced (backTo pos (starEach es X.env))) (W2 := fun vs Q E s1 => vs.length ≤ sizeLine ∧ Q (.ref s1.heap.objs.size) { s1 with heap := s1.heap.push { cls := .type "tuple", data := .seq vs.toArray } }) (fun Q E h => wpAny_Tuple_spliced h) (h pos pins s σ H ρ η S I tk sr st) ?_
  rintro vs s1 σ1 η1 H1 ds S1 q1 tk1 I1 g1 st1 ⟨rfl, xs, rxs, rds⟩
  intro E
  have z : xs.length ≤ sizeLine := by rw [← rds.length]; exact sl_le (hl _ _ _ _ q1)
  have hf : H1 s1.heap.objs.size = none := I1.hok.fresh (Nat.le_refl _)
  obtain ⟨η2, g2, st2, r2⟩ := good_newT st1 rds hf
  refine ⟨by rw [← rxs.length]; exact z, tk1, σ1, η2, _, I1.laid (t' := s1.toks) (fun b u e => Heap.get?_push_of_some _ e) (Nat.le_refl _) ?_, g1.trans g2, st2, rfl, .ref _, rfl, r2⟩
  exact ⟨z, vs, rxs, ⟨_, Heap.get?_push_size _ rfl, rfl, _, rfl⟩⟩
theorem pd_lst {g : Env → M (List D)} {m : Bool} {pos : Pos} (h : PDL τ X es g) (hl : ∀ ρ S ds S', g ρ S = .ok ds S' → ds.length ≤ SL) : PD τ X (.List es pos) (fun ρ => g ρ >>= fun ds => newL m ds) := by
  intro pins s σ H ρ η S I tk sr st
  refine Out.seq (t1 := spliced (backTo pos (starEach es X.env))) (W2 := fun vs Q E s1 => vs.length ≤ sizeLine ∧ Q (.ref s1.heap.objs.size) { s1 with heap := s1.heap.push { cls := .type "list", data := .seq vs.toArray } }) (fun Q E h => wpAny_List_spliced h) (h pos pins s σ H ρ η S I tk sr st) ?_
  rintro vs s1 σ1 η1 H1 ds S1 q1 tk1 I1 g1 st1 ⟨rfl, xs, rxs, rds⟩
  cases q2 : newL m ds S1 with
  | bad => trivial
  | ok d S2 =>
    intro E
    have z : xs.length ≤ sizeLine := by rw [← rds.length]; exact sl_le (hl _ _ _ _ q1)
    have hf : H1 s1.heap.objs.size = none := I1.hok.fresh (Nat.le_refl _)
    obtain ⟨η2, g2, st2, r2⟩ := good_newL st1 rds hf q2
    refine ⟨by rw [← rxs.length]; exact z, tk1, σ1, η2, _, I1.laid (t' := s1.toks) (fun b u e => Heap.get?_push_of_some _ e) (Nat.le_refl _) ?_, g1.trans g2, st2, rfl, .ref _, rfl, r2⟩
    exact ⟨z, vs, 0, rxs, Heap.get?_push_size _ rfl⟩

/-! ### calls -/
theorem pd_fnB {x : Str} {id : String} {f : List D → M D} {g : Env → M (List D)} {p pos : Pos} (ho : OpL τ X (fun us => call (.builtin id) us) f) (hg : Gl X x) (hm : X.mg x = none) (hv : bootBuiltins x = some (.builtin id)) (ha : PDL τ X (e :: es) g) (hn : x ≠ "__name__") (hdb : (x == ("__debug__" : Str)) = false)
    (he : starEach (e :: es) X.env = (false, eval e X.env) :: starEach es X.env) (hpl : (backTo pos (starEach es X.env)).any (·.1) = false) : PD τ X (.Call (.Name x p) (e :: es) [] pos) (fun ρ => g ρ >>= f) := by
  intro pins s σ H ρ η S I tk sr st
  refine Out.seq (t1 := spliced (backTo pos (starEach (e :: es) X.env))) (W2 := fun us => sem X (call (.builtin id) us)) (fun Q E h => wpAny_Call_Name_kw (ld_blt I hg hm hv (PyProof.Rows.callWith_builtin1 h he hpl) hn hdb)) (ha pos pins s σ H ρ η S I tk sr st) ?_
  rintro us s1 σ1 η1 H1 ds S1 q1 tk1 I1 g1 st1 ⟨rfl, xs, rxs, rds⟩
  exact Out.back (mono_sem _) g1 (ho pins s1 σ1 H1 η1 S1 xs us ds I1 tk1 st1 rxs rds)
theorem pd_fnT {x : Str} {T : String} {f : List D → M D} {g : Env → M (List D)} {p pos : Pos} (ho : OpL τ X (fun us => call (.type T) us) f) (hg : Gl X x) (hm : X.mg x = none) (hv : bootBuiltins x = some (.type T)) (ha : PDL τ X (e :: es) g) (hn : x ≠ "__name__") (hdb : (x == ("__debug__" : Str)) = false)
    (he : starEach (e :: es) X.env = (false, eval e X.env) :: starEach es X.env) (hpl : (backTo pos (starEach es X.env)).any (·.1) = false) : PD τ X (.Call (.Name x p) (e :: es) [] pos) (fun ρ => g ρ >>= f) := by
  intro pins s σ H ρ η S I tk sr st
  refine Out.seq (t1 := spliced (backTo pos (starEach (e :: es) X.env))) (W2 := fun us => sem X (call (.type T) us)) (fun Q E h => wpAny_Call_Name_kw (ld_blt I hg hm hv (PyProof.Rows.callWith_type1 h he hpl) hn hdb)) (ha pos pins s σ H ρ η S I tk sr st) ?_
  rintro us s1 σ1 η1 H1 ds S1 q1 tk1 I1 g1 st1 ⟨rfl, xs, rxs, rds⟩
  exact Out.back (mono_sem _) g1 (ho pins s1 σ1 H1 η1 S1 xs us ds I1 tk1 st1 rxs rds)
/-- one argument -/
theorem opL_of_op1 {f : Value → Sem Value} {F : List Value → Sem Value} {g : D → M D} (h : Op1 τ X f g) (hF : ∀ u, F [u] = f u) : OpL τ X F (fun ds => match ds with | [d] => g d | _ => M.fail) := by
  intro pins s σ H η S xs us ds I tk st rv rd
  match ds, rd with
  | [], _ => trivial
  | _ :: _ :: _, _ => trivial
  | [d], rd =>
    obtain ⟨x, e1, r⟩ := one_of (ds := []) rd
    subst e1
    cases rv with
    | cons rv1 rv2 =>
      cases rv2
      rw [hF]
      exact h pins s σ H η S x _ d I tk st rv1 r
/-- isinstance(e, T) -/
theorem pd_isi {ga : Env → M D} {t : Ty} {p p2 pos : Pos} (ha : PD τ X e ga) (hg : Gl X "isinstance") (hm : X.mg "isinstance" = none) (hgT : Gl X (Str.ofString t.name)) (hmT : X.mg (Str.ofString t.name) = none)
    (he : starEach (e :: [.Name (Str.ofString t.name) p2]) X.env = (false, eval e X.env) :: starEach [.Name (Str.ofString t.name) p2] X.env) :
    PD τ X (.Call (.Name "isinstance" p) [e, .Name (Str.ofString t.name) p2] [] pos) (fun ρ => ga ρ >>= isinstD t) := by
  intro pins s σ H ρ η S I tk sr st
  have hT : bootBuiltins (Str.ofString t.name) = some (.type t.name) := by cases t <;> decide +kernel
  have hT2 : Str.ofString t.name ≠ "__name__" := by cases t <;> decide
  have hT3 : (Str.ofString t.name == ("__debug__" : Str)) = false := by cases t <;> decide
  have hs2 : starEach [.Name (Str.ofString t.name) p2] X.env = [(false, eval (.Name (Str.ofString t.name) p2) X.env)] := rfl
  refine Out.seq (t1 := eval e X.env) (W2 := fun v Q E s1 => wpAny (model X.prog X.w) X.A (spliced (backTo pos (starEach [.Name (Str.ofString t.name) p2] X.env))) (fun vs s2 => wpAny (model X.prog X.w) X.A (call (.builtin "isinstance") (v :: vs)) Q E s2) E s1)
    (fun Q E h => wpAny_Call_Name_kw (ld_blt (u := .builtin "isinstance") I hg hm (by decide +kernel) (PyProof.Rows.callWith_builtin1 (by rw [he]; exact Calls.spliced_cons h) he rfl) (by decide) (by decide))) (ha pins s σ H ρ η S I tk sr st) ?_
  rintro v s1 σ1 η1 H1 d S1 _ tk1 I1 g1 st1 ⟨rfl, x, rx, rd⟩
  refine Out.via (fun Q E h => ?_) (Out.back (mono_sem _) g1 (call_isinstD t pins s1 σ1 H1 η1 S1 x v d I1 tk1 st1 rx rd))
  exact Calls.spliced_cons (ld_blt I1 hgT hmT hT (Calls.spliced_nil h) hT2 hT3)

/-! ### methods -/
/-- the receiver of a method, looked at where it was evaluated -/
def rcL : D → M Unit := fun d S => match d with
  | .ref n => match S[n]? with
    | some (.lst _) => .ok () S
    | _ => .bad
  | _ => .bad
def rcS : D → M Unit
  | .str _ => pure ()
  | _ => M.fail
theorem pd_meth {rc : D → M Unit} {T id : String} {name : Str} {o : Expr} {go : Env → M D} {g : Env → M (List D)} {f : D → List D → M D} {apos cpos : Pos} (pa : PlainAttrs T) (slot : Slot T name id) (hty : typeOf (.builtin id) = pure (.type "method_descriptor")) (hm : Mt τ X T id f)
    (ht : ∀ {η : List Addr} {H : Hp} {S : Sto} {d : D} {x : V} {S' : Sto}, StoOk τ X.K η H S → Rep X.K η H d x → rc d S = .ok () S' → S' = S ∧ tyV X.K T x H)
    (ho : PD τ X o go) (ha : PDL τ X (e :: es) g) (hbase : attributeBase o name X.env (eval o X.env) = eval o X.env)
    (hfew : ((backTo cpos (starEach (e :: es) X.env)).all (fun x => !x.1) && (backToKw cpos (keywordEach [] X.env)).all (fun x => x.1.isSome) && decide ((e :: es).length + ([] : List Keyword).length + (if ([] : List Keyword).isEmpty then 0 else 1) < 30)) = true)
    (hline : (apos.endLine == cpos.line) = true) (hs : starEach (e :: es) X.env = (false, eval e X.env) :: starEach es X.env) (hplain : (backTo cpos (starEach es X.env)).any (·.1) = false) :
    PD τ X (.Call (.Attribute o name apos) (e :: es) [] cpos) (fun ρ => go ρ >>= fun d => rc d >>= fun _ => g ρ >>= fun ds => f d ds) := by
  intro pins s σ H ρ η S I tk sr st
  refine Out.seq (t1 := eval o X.env) (W2 := fun v Q E s1 => MethodOn X.prog X.w X.A name cpos v (backTo cpos (starEach (e :: es) X.env)) Q E s1) (fun Q E h => wpAny_Call_method_late hbase hfew hline rfl h) (ho pins s σ H ρ η S I tk sr st) ?_
  rintro v s1 σ1 η1 H1 d S1 _ tk1 I1 g1 st1 ⟨rfl, x, rx, rd⟩
  rw [bind_run]
  cases qr : rc d S1 with
  | bad => trivial
  | ok _ S1' =>
  obtain ⟨eS, hty'⟩ := ht st1 rd qr
  have eS := eS.symm
  subst eS
  dsimp only
  have key : Out τ X pins η1 H1 (relV X.K σ1) ((g ρ >>= fun ds => f d ds) S1) (fun Q E s1 => wpAny (model X.prog X.w) X.A (spliced (backTo cpos (starEach (e :: es) X.env))) (fun us s2 => wpAny (model X.prog X.w) X.A (call (.builtin id) (v :: us)) Q E s2) E s1) s1 := by
    refine Out.seq (t1 := spliced (backTo cpos (starEach (e :: es) X.env))) (W2 := fun us => sem X (call (.builtin id) (v :: us))) (fun Q E h => h) (ha cpos pins s1 σ1 H1 ρ η1 S1 I1 tk1 (sr.grow g1) st1) ?_
    rintro us s2 σ2 η2 H2 ds S2 q2 tk2 I2 g2 st2 ⟨rfl, xs, rxs, rds⟩
    exact Out.back (mono_sem _) g2 (hm pins s2 σ2 H2 η2 S2 x xs v us d ds I2 tk2 st2 rx rxs (rd.grow g2) rds)
  have key := Out.back (mono_then _ fun us => mono_sem _) g1 key
  cases q : (g ρ >>= fun ds => f d ds) S1 with
  | bad => trivial
  | ok d' S' =>
    rw [q] at key
    intro E
    obtain ⟨h1, h2⟩ := tyV_is I1 rx hty'
    exact ⟨T, id, pa, slot, hty, h1, h2, Calls.callWith_builtin (by rw [hs]; show (false || (backTo cpos (starEach es X.env)).any (·.1)) = false; rw [hplain]; rfl) (by rw [hs]; exact Calls.evalArgs_plain (by rw [hs] at key; exact key E))⟩
end
end MP

/-! MP8: slices; own functions. -/
namespace MP
open PySem L2
/-! ### slices -/
def POD (τ : Tau) (X : Cx) (o : Option Expr) (g : Env → M (Option Int)) : Prop := ∀ (pins : List (Addr × Obj)) (s : Shared) (σ : L2.St) (H : Hp) (ρ : Env) (η : List Addr) (S : Sto),
  Inv X pins σ H s → τ.lo ≤ s.toks → SRel τ X.K X.base η H σ ρ → StoOk τ X.K η H S → Out τ X pins η H (fun σ' _ _ (i : Option Int) (u : Value) => σ' = σ ∧ IsPart u i) (g ρ S) (sem X (evalPart o X.env)) s
def asI : D → M (Option Int)
  | .int i => pure (some i)
  | _ => M.fail
section
variable {X : Cx} {e : Expr} {lo hi : Option Expr} {pos p2 : Pos}
theorem pod_none : POD τ X none (fun _ => pure none) := by
  intro pins s σ H ρ η S I tk sr st E
  rw [evalPart_none]
  exact wpAny_pure ⟨tk, σ, η, H, I, .refl _ _, st, rfl, .none⟩
theorem pod_some {g : Env → M D} (h : PD τ X e g) : POD τ X (some e) (fun ρ => g ρ >>= asI) := by
  intro pins s σ H ρ η S I tk sr st
  rw [evalPart_some]
  refine Out.seq (t1 := eval e X.env) (W2 := fun v Q E s' => Q v s') (fun Q E h => h) (h pins s σ H ρ η S I tk sr st) ?_
  rintro v s1 σ1 η1 H1 d S1 _ tk1 I1 g1 st1 ⟨rfl, x, rx, rd⟩
  cases rd with
  | int i =>
    obtain ⟨t, rfl⟩ := rx
    exact fun E => ⟨tk1, _, η1, H1, I1, g1, st1, rfl, .int i t⟩
  | _ => trivial
theorem pd_slice {m : Bool} {ge : Env → M D} {gl gh : Env → M (Option Int)} (he : PD τ X e ge) (hl : POD τ X lo gl) (hh : POD τ X hi gh) : PD τ X (.Subscript e (.Slice lo hi none p2) pos) (fun ρ => ge ρ >>= fun d => gl ρ >>= fun l => gh ρ >>= fun h => sliceE m d l h) := by
  intro pins s σ H ρ η S I tk sr st
  refine Out.seq (t1 := eval e X.env) (W2 := fun v Q E s1 => wpAny (model X.prog X.w) X.A (evalPart lo X.env) (fun vl s2 => wpAny (model X.prog X.w) X.A (evalPart hi X.env) (fun vu s3 =>
    wpAny (model X.prog X.w) X.A (PyProof.Rows.subscriptTail e (.Slice lo hi none p2) v (.ref s3.heap.objs.size)) Q E { s3 with heap := s3.heap.push { cls := .type "slice", data := .fields #[vl, vu, .none] } }) E s2) E s1)
    (fun Q E h => PyProof.Rows.Subscript_ (wpAny_mono h (fun v s1 z => wpAny_Slice (wpAny_mono z (fun vl s2 z2 => wpAny_mono z2 (fun vu s3 z3 => by rw [evalPart_none]; exact wpAny_pure z3) fun _ _ z => z) fun _ _ z => z)) fun _ _ z => z)) (he pins s σ H ρ η S I tk sr st) ?_
  rintro v s1 σ1 η1 H1 d S1 _ tk1 I1 g1 st1 ⟨rfl, x, rx, rd⟩
  have mono3 : ∀ v vl, MonoW (fun Q E s2 => wpAny (model X.prog X.w) X.A (evalPart hi X.env) (fun vu s3 => wpAny (model X.prog X.w) X.A (PyProof.Rows.subscriptTail e (.Slice lo hi none p2) v (.ref s3.heap.objs.size)) Q E { s3 with heap := s3.heap.push { cls := .type "slice", data := .fields #[vl, vu, .none] } }) E s2) :=
    fun v vl Q Q' E s hQ w => wpAny_mono w (fun vu s3 z => wpAny_mono z hQ fun _ _ z => z) fun _ _ z => z
  refine Out.back (fun Q Q' E s hQ w => wpAny_mono w (fun vl s2 z => mono3 v vl Q Q' E s2 hQ z) fun _ _ z => z) g1 ?_
  refine Out.seq (t1 := evalPart lo X.env) (W2 := fun vl Q E s2 => wpAny (model X.prog X.w) X.A (evalPart hi X.env) (fun vu s3 =>
    wpAny (model X.prog X.w) X.A (PyProof.Rows.subscriptTail e (.Slice lo hi none p2) v (.ref s3.heap.objs.size)) Q E { s3 with heap := s3.heap.push { cls := .type "slice", data := .fields #[vl, vu, .none] } }) E s2) (fun Q E h => h) (hl pins s1 σ1 H1 ρ η1 S1 I1 tk1 (sr.grow g1) st1) ?_
  rintro vl s2 σ2 η2 H2 l S2 _ tk2 I2 g2 st2 ⟨rfl, pl⟩
  refine Out.back (mono3 v vl) g2 ?_
  refine Out.seq (t1 := evalPart hi X.env) (W2 := fun vu Q E s3 => wpAny (model X.prog X.w) X.A (PyProof.Rows.subscriptTail e (.Slice lo hi none p2) v (.ref s3.heap.objs.size)) Q E { s3 with heap := s3.heap.push { cls := .type "slice", data := .fields #[vl, vu, .none] } }) (fun Q E h => h) (hh pins s2 σ2 H2 ρ η2 S2 I2 tk2 ((sr.grow g1).grow g2) st2) ?_
  rintro vu s3 σ3 η3 H3 h S3 _ tk3 I3 g3 st3 ⟨rfl, pu⟩
  have I4 : Inv X pins σ3 H3 { s3 with heap := s3.heap.push { cls := .type "slice", data := .fields #[vl, vu, .none] } } := I3.kept (t' := s3.toks) fun b ob q => Heap.get?_push_of_some _ q
  cases q : sliceE m d l h S3 with
  | bad => trivial
  | ok d' S' =>
    have key : Out τ X pins η3 H3 (relV X.K σ3) (.ok d' S') (sem X (PyProof.Rows.subscriptTail e (.Slice lo hi none p2) v (.ref s3.heap.objs.size))) { s3 with heap := s3.heap.push { cls := .type "slice", data := .fields #[vl, vu, .none] } } := by
      refine out_ok tk3 fun E => ?_
      obtain ⟨T, id, hT, ht, hg⟩ := sl_okD (E := E) I4 st3 rx (rd.grow (g2.trans g3)) (Heap.IsSliceOf.new ..) pl pu q
      exact PyProof.Rows.tail_any (ops := [.ref s3.heap.objs.size, v]) ht hT hg (by with_unfolding_all rfl)
    have key2 := Out.back (mono_sem _) g3 key
    exact fun E => key2 E
end
end MP

/-! MP9: functions, statements. -/
namespace MP
open PySem L2
/-! ### flows -/
inductive Fl where
  | next (ρ : Env)
  | ret (d : D)
  | brk (ρ : Env)
  | cont (ρ : Env)
def relF (τ : Tau) (K : PySem.W.Frag) (B : Heap) : L2.St → List Addr → Hp → Fl → Flow → Prop := fun σ η H f u => match f, u with
  | .next ρ, .next => SRel τ K B η H σ ρ
  | .brk ρ, .brk => SRel τ K B η H σ ρ
  | .cont ρ, .cont => SRel τ K B η H σ ρ
  | .ret d, .ret w => ∃ v, RelV v w ∧ Rep K η H d v
  | _, _ => False
def relE (τ : Tau) (K : PySem.W.Frag) (B : Heap) : L2.St → List Addr → Hp → Env → Unit → Prop := fun σ η H ρ _ => SRel τ K B η H σ ρ
def PSD (τ : Tau) (X : Cx) (st : Stmt) (g : Env → M Fl) : Prop := ∀ (pins : List (Addr × Obj)) (s : Shared) (σ : L2.St) (H : Hp) (ρ : Env) (η : List Addr) (S : Sto),
  Inv X pins σ H s → τ.lo ≤ s.toks → SRel τ X.K X.base η H σ ρ → StoOk τ X.K η H S → Out τ X pins η H (relF τ X.K X.base) (g ρ S) (sem X (exec st X.env)) s
def PSDs (τ : Tau) (X : Cx) (sts : List Stmt) (g : Env → M Fl) : Prop := ∀ (pins : List (Addr × Obj)) (s : Shared) (σ : L2.St) (H : Hp) (ρ : Env) (η : List Addr) (S : Sto),
  Inv X pins σ H s → τ.lo ≤ s.toks → SRel τ X.K X.base η H σ ρ → StoOk τ X.K η H S → Out τ X pins η H (relF τ X.K X.base) (g ρ S) (sem X (execs sts X.env)) s
def PGD (τ : Tau) (X : Cx) (tg : Expr) (g : D → Env → M Env) : Prop := ∀ (pins : List (Addr × Obj)) (s : Shared) (σ : L2.St) (H : Hp) (ρ : Env) (η : List Addr) (S : Sto) (v : V) (u : Value) (d : D),
  Inv X pins σ H s → τ.lo ≤ s.toks → SRel τ X.K X.base η H σ ρ → StoOk τ X.K η H S → RelV v u → Rep X.K η H d v → Out τ X pins η H (relE τ X.K X.base) (g d ρ S) (sem X (assign tg X.env u)) s

/-! ### functions -/
def FnD (τ : Tau) (P : Program) (w : World) (K : PySem.W.Frag) (mg : Str → Option Value) (base : Heap) (n : Nat) (f : Addr) (fd : FuncData) (ps : List Str) (g : List D → M D) : Prop :=
  ∀ (A : Around) (outer : List PySem.Env) (s : Shared) (H : Hp) (args : Args) (us : List Value) (vs : List V) (ds : List D) (η : List Addr) (S : Sto) (d : D) (S' : Sto), Room n A → A.guards = some [] → τ.lo ≤ s.toks → Env0 P w K mg base A outer s H → BindsTo s fd args (ps.zip us) → Vals vs us →
    Reps K η H ds vs → ds.length = ps.length → StoOk τ K η H S → g ds S = .ok d S' →
    codeAny (model P w) A (.call (.ref f) args) (fun r s' => ∃ u v η' H', r = .ok (.ret u) ∧ τ.lo ≤ s'.toks ∧ s'.os = s.os ∧ PyProof.Rows.AllBare s'.gens ∧ Un (frs outer) [] H H' s.heap s'.heap ∧ HOk P w H' s'.heap ∧ Grow η H η' H' ∧ StoOk τ K η' H' S' ∧ RelV v u ∧ Rep K η' H' d v) s
section
variable {X : Cx} {n : Nat}
theorem run_fnD {f : Addr} {fd : FuncData} {ps : List Str} {g : List D → M D} (F : FnD τ X.prog X.w X.K X.mg X.base n f fd ps g) (c : Ck n X) (hb : Binds X.K fd ps []) {pins : List (Addr × Obj)} {s : Shared} {σ : L2.St} {H : Hp} {η : List Addr} {S : Sto} {xs : List V} {us : List Value} {ds : List D}
    (I : Inv X pins σ H s) (tk : τ.lo ≤ s.toks) (st : StoOk τ X.K η H S) (rv : Vals xs us) (rd : Reps X.K η H ds xs) (hl : ds.length = ps.length) : Out τ X pins η H (relV X.K σ) (g ds S) (sem X (call (.ref f) us)) s := by
  refine Out.never fun d S' q => ?_
  have hu : us.length = ps.length := by rw [← rv.length, ← rd.length]; exact hl
  have hbt := hb s us I.kIn (by rw [List.append_nil]; exact hu)
  rw [List.append_nil] at hbt
  refine wpAny_call (codeAny_mono (F X.A X.stack s H ⟨us, []⟩ us xs ds η S d S' c.rm c.gd tk I.env0 hbt rv rd hl st q) fun r s' z => ?_)
  obtain ⟨u, v, η', H', e, tk', os, bare, un, hok, g1, st1, ru, rp⟩ := z
  subst e
  exact ⟨tk', σ, η', H', I.call' (ch := []) os un hok bare (fun b hb => absurd hb (by simp)), g1, st1, rfl, v, ru, rp⟩
theorem pd_call {e : Expr} {es : List Expr} {x : Str} {f : Addr} {fd : FuncData} {ps : List Str} {g : List D → M D} {gl : Env → M (List D)} {p pos : Pos} (F : FnD τ X.prog X.w X.K X.mg X.base n f fd ps g) (c : Ck n X) (hg : Gl X x) (hm : X.mg x = some (.ref f)) (hk : PySem.W.keepIn X.K (.ref f) = true) (hb : Binds X.K fd ps [])
    (ha : PDL τ X (e :: es) gl) (hl : ∀ ρ S ds S', gl ρ S = .ok ds S' → ds.length = ps.length) (hdb : (x == ("__debug__" : Str)) = false) (he : starEach (e :: es) X.env = (false, eval e X.env) :: starEach es X.env) (hpl : (backTo pos (starEach es X.env)).any (·.1) = false) :
    PD τ X (.Call (.Name x p) (e :: es) [] pos) (fun ρ => gl ρ >>= g) := by
  intro pins s σ H ρ η S I tk sr st
  refine Out.seq (t1 := spliced (backTo pos (starEach (e :: es) X.env))) (W2 := fun us Q E s1 => X.K.In s1.heap ∧ wpAny (model X.prog X.w) X.A (call (.ref f) us) Q E s1)
    (fun Q E h => wpAny_Call_Name_kw (ld_glob I hg hm (PySem.W.callWith_K (h₀ := X.base) I.ok.mod.kin hk h he hpl) hdb)) (ha pos pins s σ H ρ η S I tk sr st) ?_
  rintro us s1 σ1 η1 H1 ds S1 q1 tk1 I1 g1 st1 ⟨rfl, xs, rxs, rds⟩
  exact Out.via (fun Q E h => ⟨I1.kIn, h⟩) (Out.back (mono_sem _) g1 (run_fnD F c hb I1 tk1 st1 rxs rds (hl _ _ _ _ q1)))
end

/-! ### a def by its body -/
def startD (k : Nat) (ds : List D) : Env := ds.map some ++ List.replicate (k - ds.length) none
def bodyD (k : Nat) (g : Env → M Fl) (ds : List D) : M D := g (startD k ds) >>= fun f => match f with
  | .ret d => pure d
  | .next _ => pure .non
  | _ => M.fail
/-- arguments, functions among them (at the places τ.cp) -/
inductive AReps (τ : Tau) (K : PySem.W.Frag) (B : Heap) (η : List Addr) (H : Hp) : Nat → List D → List V → Prop
  | nil {j : Nat} : AReps τ K B η H j [] []
  | cons {j : Nat} {d : D} {v : V} {ds : List D} {vs : List V} : (Rep K η H d v ∨ (j ∈ τ.cp ∧ (∀ k, d ≠ .own k) ∧ CloV τ K B η H d v)) → AReps τ K B η H (j + 1) ds vs → AReps τ K B η H j (d :: ds) (v :: vs)
theorem Reps.args {τ : Tau} {K : PySem.W.Frag} {B : Heap} {η : List Addr} {H : Hp} : ∀ {j : Nat} {ds : List D} {vs : List V}, Reps K η H ds vs → AReps τ K B η H j ds vs
  | _, _, _, .nil => .nil
  | _, _, _, .cons h t => .cons (.inl h) t.args
theorem AReps.length {τ : Tau} {K : PySem.W.Frag} {B : Heap} {η : List Addr} {H : Hp} : ∀ {j : Nat} {ds : List D} {vs : List V}, AReps τ K B η H j ds vs → ds.length = vs.length
  | _, _, _, .nil => rfl
  | _, _, _, .cons _ t => by simp [AReps.length t]
theorem AReps.get {τ : Tau} {K : PySem.W.Frag} {B : Heap} {η : List Addr} {H : Hp} : ∀ {j : Nat} {ds : List D} {vs : List V} {i : Nat} {d : D}, AReps τ K B η H j ds vs → ds[i]? = some d → ∃ v, vs[i]? = some v ∧ (Rep K η H d v ∨ (j + i ∈ τ.cp ∧ (∀ k, d ≠ .own k) ∧ CloV τ K B η H d v))
  | _, _, _, _, _, .nil, e => by simp at e
  | _, _, _, 0, _, .cons r _, e => by simp at e; subst e; exact ⟨_, rfl, r⟩
  | j, _, _, i + 1, d, .cons _ t, e => by
    obtain ⟨v, h1, h2⟩ := AReps.get (i := i) (d := d) t (by simpa using e)
    exact ⟨v, by simpa using h1, by rw [show j + (i + 1) = j + 1 + i by omega]; exact h2⟩
/-- the same but for the slots and cells of the running def -/
structure Tau.Same (τ τ' : Tau) : Prop where
  lo : τ'.lo = τ.lo
  tabs : τ'.tabs = τ.tabs
  txt : τ'.txt = τ.txt
  gf : τ'.gf = τ.gf
  cls : τ'.cls = τ.cls
theorem Tau.Same.rfl' {τ : Tau} : τ.Same τ := ⟨rfl, rfl, rfl, rfl, rfl⟩
theorem Tau.Same.symm {τ τ' : Tau} (h : τ.Same τ') : τ'.Same τ := ⟨h.lo.symm, h.tabs.symm, h.txt.symm, h.gf.symm, h.cls.symm⟩
theorem StoOk.of {τ τ' : Tau} {K : PySem.W.Frag} {η : List Addr} {H : Hp} {S : Sto} (h : StoOk τ K η H S) (e : τ.Same τ') : StoOk τ' K η H S := ⟨h.len, h.nd, fun n o a h1 h2 => by rw [e.cls]; exact h.look n o a h1 h2, by rw [e.tabs]; exact h.tabs⟩
theorem CloV.of {τ τ' : Tau} {K : PySem.W.Frag} {B : Heap} {η : List Addr} {H : Hp} {d : D} {v : V} (h : CloV τ K B η H d v) (e : τ.Same τ') (n : ∀ k, d ≠ .own k) : CloV τ' K B η H d v := by
  cases h with
  | gl h => exact .gl (by rw [e.gf]; exact h)
  | lo h1 h2 h3 h4 => exact .lo (by rw [e.txt]; exact h1) h2 h3 h4
  | own => exact absurd rfl (n _)
theorem AReps.of {τ τ' : Tau} {K : PySem.W.Frag} {B : Heap} {η : List Addr} {H : Hp} (e : τ.Same τ') (ec : τ'.cp = τ.cp) : ∀ {j : Nat} {ds : List D} {vs : List V}, AReps τ K B η H j ds vs → AReps τ' K B η H j ds vs
  | _, _, _, .nil => .nil
  | _, _, _, .cons h t => .cons (h.imp id fun z => ⟨by rw [ec]; exact z.1, z.2.1, z.2.2.of e z.2.1⟩) (t.of e ec)
theorem srel_startC {τ : Tau} {K : PySem.W.Frag} {B : Heap} {η : List Addr} {H : Hp} {N : List Str} {ds : List D} {vs : List V} (h : AReps τ K B η H 0 ds vs) : SRel τ K B η H (L2.start N vs) (startD N.length ds) := by
  unfold L2.start startD
  refine ⟨by simp [h.length], fun i d e => ?_⟩
  by_cases hi : i < ds.length
  · rw [List.getElem?_append_left (by simpa using hi), List.getElem?_map] at e
    cases q : ds[i]? with
    | none => rw [q] at e; cases e
    | some d' =>
      rw [q] at e
      cases e
      obtain ⟨v, h1, h2⟩ := h.get q
      rw [Nat.zero_add] at h2
      exact ⟨v, by rw [List.getElem?_append_left (by simpa [← h.length] using hi), List.getElem?_map, h1]; rfl, h2.imp id fun z => ⟨z.1, z.2.2⟩⟩
  · rw [List.getElem?_append_right (by simpa using hi), List.getElem?_replicate] at e
    split at e <;> cases e
theorem srel_start {τ : Tau} {K : PySem.W.Frag} {B : Heap} {η : List Addr} {H : Hp} {N : List Str} {ds : List D} {vs : List V} (h : Reps K η H ds vs) : SRel τ K B η H (L2.start N vs) (startD N.length ds) := srel_startC h.args
/-- what is asked of the base -/
def BaseOk (mg : Str → Option Value) (cs : List (Addr × Addr)) (base : Heap) : Prop := (∃ o, base.get? sysModules = some o) ∧ ∀ p ∈ cs, LamX.TabB base mg p.1 p.2
/-- a def that may be handed functions, over any base -/
def FnK (τ : Tau) (P : Program) (w : World) (K : PySem.W.Frag) (mg : Str → Option Value) (cs : List (Addr × Addr)) (n : Nat) (f : Addr) (fd : FuncData) (ps : List Str) (g : List D → M D) : Prop :=
  ∀ (base : Heap) (A : Around) (outer : List PySem.Env) (s : Shared) (H : Hp) (args : Args) (us : List Value) (vs : List V) (ds : List D) (η : List Addr) (S : Sto) (d : D) (S' : Sto), BaseOk mg cs base → Room n A → A.guards = some [] → τ.lo ≤ s.toks → Env0 P w K mg base A outer s H → BindsTo s fd args (ps.zip us) → Vals vs us →
    AReps τ K base η H 0 ds vs → ds.length = ps.length → StoOk τ K η H S → g ds S = .ok d S' →
    codeAny (model P w) A (.call (.ref f) args) (fun r s' => ∃ u v η' H', r = .ok (.ret u) ∧ τ.lo ≤ s'.toks ∧ s'.os = s.os ∧ PyProof.Rows.AllBare s'.gens ∧ Un (frs outer) [] H H' s.heap s'.heap ∧ HOk P w H' s'.heap ∧ Grow η H η' H' ∧ StoOk τ K η' H' S' ∧ RelV v u ∧ Rep K η' H' d v) s
theorem FnK.plain {τ : Tau} {P : Program} {w : World} {K : PySem.W.Frag} {mg : Str → Option Value} {cs : List (Addr × Addr)} {n : Nat} {f : Addr} {fd : FuncData} {ps : List Str} {g : List D → M D} (F : FnK τ P w K mg cs n f fd ps g) {base : Heap} (hb : BaseOk mg cs base) : FnD τ P w K mg base n f fd ps g :=
  fun A outer s H args us vs ds η S d S' h1 h2 h3 h4 h5 h6 h7 h8 h9 q => F base A outer s H args us vs ds η S d S' hb h1 h2 h3 h4 h5 h6 h7.args h8 h9 q
theorem fnk_of {τ : Tau} {P : Program} {w : World} {K : PySem.W.Frag} {mg : Str → Option Value} {cs : List (Addr × Addr)} {k : Nat} {x qual : Str} {sm : Stmt} {f : Addr} {fd : FuncData} {N ps : List Str} {g : Env → M Fl} (F : Fun K x qual sm f fd) (Sc : FnScope N ps (defScope sm))
    (hbody : ∀ X : Cx, X.prog = P → X.w = w → X.K = K → X.mg = mg → BaseOk mg cs X.base → X.N = N → X.env.scope = defScope sm → X.env.code = fd.code → X.env.qual = qual ++ ".<locals>." → (∀ x, X.fn x = true) → Ck k X → PSDs { τ with cells := X.env.cells } X (defBody sm) g) :
    FnK τ P w K mg cs (k + 1) f fd ps (bodyD N.length g) := by
  obtain ⟨oc, od, kV, doc, pm, an, cdv, ct, osl, rfl, lk, hcd⟩ := F.ex
  intro base A outer s H args us vs ds η S d S' hbase hr hgd tk e0 hb rv rd hl st q
  have sm' : Tau.Same τ { τ with cells := (cellsFrom (s.heap.objs.size + 1) (defScope sm).names []) } := ⟨rfl, rfl, rfl, rfl, rfl⟩
  have KX : K.In s.heap := e0.mod.kin.keeps fun b o e => (e0.bs b o e).1
  have lim : s.heap.NoLimit := e0.mod.nolimit.keeps fun b o e => (e0.bs b o e).1
  have hkind : ∀ y ∈ ps.zip us, (defScope sm).names.lookup y.1 = some .local ∨ ((defScope sm).names.lookup y.1 = some .cell ∧ ((cellsFrom (s.heap.objs.size + 1) (defScope sm).names []).lookup y.1).isSome = true) := fun ⟨m, v⟩ hy => by
    rcases Sc.par m (List.of_mem_zip hy).1 with z | z
    · exact .inl z
    · exact .inr ⟨z, PySem.W.cellsFrom_some _ _ _ (.inl z)⟩
  refine codeAny_call_function hr.depth (KX _ _ lk) rfl Sc.co Sc.gen rfl (PySem.W.codeRec_of KX hcd) (hb _ _ _ _ ?_)
  refine wpAny_mono (PySem.wpAny_toks (wpAny_newFunctionEnv_cells (Q := fun env s1 => env = newEnv (defScope sm) s.heap.objs.size mainGlobals (cellsFrom (s.heap.objs.size + 1) (defScope sm).names []) (qual ++ ".<locals>.") (some f) cdv none builtinsNs ∧
    InCallC s env.locals (bindL env.kindOf (ps.zip us) fun _ => none) env.cells (bindC env.kindOf (ps.zip us) fun _ => none) s1) Sc.kind hkind fun env he s1 y => ⟨he, y⟩)) (fun env s1 z => ?_) fun _ _ z => z.2
  obtain ⟨tk1, he, y⟩ := z
  subst he
  refine ⟨lim.keeps y.toInCall.keep, codeAny_func ?_⟩
  have I := inv_start (CX := CX0) (E := E0) (cd := cdv) (f := f) (qual := qual) Sc hr.hd e0 (by rw [← rd.length]; exact hl) rv y
  have g0 : Grow η H η H := .refl _ _
  have rd' : AReps { τ with cells := (cellsFrom (s.heap.objs.size + 1) (defScope sm).names []) } K base η H 0 ds vs := rd.of sm' rfl
  have sr := srel_startC (N := N) rd'
  have hq : ∃ fl, g (startD N.length ds) S = .ok fl S' ∧ (fl = .ret d ∨ (∃ ρ, fl = .next ρ) ∧ d = .non) := by
    unfold bodyD at q
    rw [bind_run] at q
    cases z : g (startD N.length ds) S with
    | bad => rw [z] at q; cases q
    | ok fl S2 =>
      rw [z] at q
      cases fl with
      | ret d' => cases q; exact ⟨_, rfl, .inl rfl⟩
      | next ρ => cases q; exact ⟨_, rfl, .inr ⟨⟨ρ, rfl⟩, rfl⟩⟩
      | brk => cases q
      | cont => cases q
  obtain ⟨fl, hg, hfl⟩ := hq
  have key := hbody (cxOf CX0 P w K mg base N qual (defScope sm) f cdv A outer s H E0) rfl rfl rfl rfl hbase rfl rfl rfl rfl (fun _ => rfl) ⟨rfl, hgd, hr.deeper _, hbase.1, Sc.nd⟩ [] s1 (L2.start N vs) H (startD N.length ds) η S I (Nat.le_trans tk tk1) sr (st.of sm')
  rw [hg] at key
  refine wpAny_mono (key (fun _ _ => False)) (fun fw s' z => ?_) fun _ _ z => z.elim
  obtain ⟨tk2, σ2, η2, H2, I2, g2, st2, r2⟩ := z
  rcases hfl with rfl | ⟨⟨ρ, rfl⟩, rfl⟩
  · cases fw with
    | ret u =>
      obtain ⟨v, ru, rp⟩ := r2
      exact ⟨u, v, η2, H2, rfl, tk2, I2.os, I2.bare, I2.base, I2.hok, g2, st2.of sm'.symm, ru, rp⟩
    | next => exact r2.elim
    | brk => exact r2.elim
    | cont => exact r2.elim
  · cases fw with
    | next => exact ⟨.none, .non, η2, H2, rfl, tk2, I2.os, I2.bare, I2.base, I2.hok, g2, st2.of sm'.symm, rfl, .non⟩
    | ret u => exact r2.elim
    | brk => exact r2.elim
    | cont => exact r2.elim
end MP

/-! MP10: statements. -/
namespace MP
open PySem L2
section
variable {X : Cx} {st : Stmt} {rest : List Stmt} {e c : Expr} {pos : Pos}
/-! ### blocks -/
def thenF (g : Env → M Fl) (f : Fl) : M Fl := match f with
  | .next ρ => g ρ
  | f => pure f
theorem psd_nil : PSDs τ X [] (fun ρ => pure (.next ρ)) := fun pins s σ H ρ η S I tk sr st' E => wpAny_execs_nil ⟨tk, σ, η, H, I, .refl _ _, st', sr⟩
theorem psd_cons {g1 g2 : Env → M Fl} (h1 : PSD τ X st g1) (h2 : PSDs τ X rest g2) : PSDs τ X (st :: rest) (fun ρ => g1 ρ >>= thenF g2) := by
  intro pins s σ H ρ η S I tk sr st'
  refine Out.seq (t1 := exec st X.env) (W2 := fun f Q E s' => match f with | .next => wpAny (model X.prog X.w) X.A (execs rest X.env) Q E s' | f => Q f s') (fun Q E h => wpAny_execs_cons h) (h1 pins s σ H ρ η S I tk sr st') ?_
  intro f s1 σ1 η1 H1 fl S1 _ tk1 I1 g1 st1 r1
  cases fl with
  | next ρ1 =>
    cases f with
    | next => exact Out.back (mono_sem _) g1 (h2 pins s1 σ1 H1 ρ1 η1 S1 I1 tk1 r1 st1)
    | _ => exact r1.elim
  | ret d =>
    cases f with
    | ret u => exact fun E => ⟨tk1, σ1, η1, H1, I1, g1, st1, r1⟩
    | _ => exact r1.elim
  | brk d =>
    cases f with
    | brk => exact fun E => ⟨tk1, σ1, η1, H1, I1, g1, st1, r1⟩
    | _ => exact r1.elim
  | cont d =>
    cases f with
    | cont => exact fun E => ⟨tk1, σ1, η1, H1, I1, g1, st1, r1⟩
    | _ => exact r1.elim
theorem psd_pass : PSD τ X (.Pass pos) (fun ρ => pure (.next ρ)) := fun pins s σ H ρ η S I tk sr st' E => wpAny_Pass ⟨tk, σ, η, H, I, .refl _ _, st', sr⟩
theorem psd_brk : PSD τ X (.Break pos) (fun ρ => pure (.brk ρ)) := fun pins s σ H ρ η S I tk sr st' E => wpAny_Break ⟨tk, σ, η, H, I, .refl _ _, st', sr⟩
theorem psd_cont : PSD τ X (.Continue pos) (fun ρ => pure (.cont ρ)) := fun pins s σ H ρ η S I tk sr st' E => wpAny_Continue ⟨tk, σ, η, H, I, .refl _ _, st', sr⟩
theorem psd_ret {g : Env → M D} (h : PD τ X e g) : PSD τ X (.Return (some e) pos) (fun ρ => g ρ >>= fun d => pure (.ret d)) := by
  intro pins s σ H ρ η S I tk sr st'
  refine Out.seq (t1 := eval e X.env) (W2 := fun v Q E s' => Q (.ret v) s') (fun Q E h => wpAny_Return_some h) (h pins s σ H ρ η S I tk sr st') ?_
  rintro v s1 σ1 η1 H1 d S1 _ tk1 I1 g1 st1 ⟨rfl, x, rx, rd⟩
  exact fun E => ⟨tk1, _, η1, H1, I1, g1, st1, x, rx, rd⟩
theorem psd_expr {g : Env → M D} (h : PD τ X e g) (hs : swapsWith e none pos.line X.env = pure false) : PSD τ X (.Expr e pos) (fun ρ => g ρ >>= fun _ => pure (.next ρ)) := by
  intro pins s σ H ρ η S I tk sr st'
  refine Out.seq (t1 := eval e X.env) (W2 := fun v Q E s' => Q .next s') (fun Q E h => wpAny_Expr_any h I.quiet hs) (h pins s σ H ρ η S I tk sr st') ?_
  rintro v s1 σ1 η1 H1 d S1 _ tk1 I1 g1 st1 ⟨rfl, x, rx, rd⟩
  exact fun E => ⟨tk1, _, η1, H1, I1, g1, st1, sr.grow g1⟩
theorem psd_if {a b : List Stmt} {gt : Env → M Bool} {ga gb : Env → M Fl} (hc : PDB τ X c gt) (ha : PSDs τ X a ga) (hb : PSDs τ X b gb) : PSD τ X (.If c a b pos) (fun ρ => gt ρ >>= fun t => if t = true then ga ρ else gb ρ) := by
  intro pins s σ H ρ η S I tk sr st'
  refine Out.seq (t1 := isTrue c X.env (eval c X.env)) (W2 := fun t Q E s1 => if t then wpAny (model X.prog X.w) X.A (execs a X.env) Q E s1 else wpAny (model X.prog X.w) X.A (execs b X.env) Q E s1) (fun Q E h => wpAny_If h) (hc pins s σ H ρ η S I tk sr st') ?_
  rintro t s1 σ1 η1 H1 d S1 _ tk1 I1 g1 st1 ⟨rfl, rfl⟩
  cases d with
  | true => exact Out.back (mono_sem _) g1 (ha pins s1 σ1 H1 ρ η1 S1 I1 tk1 (sr.grow g1) st1)
  | false => exact Out.back (mono_sem _) g1 (hb pins s1 σ1 H1 ρ η1 S1 I1 tk1 (sr.grow g1) st1)

/-! ### targets -/
theorem store_out {pins : List (Addr × Obj)} {s : Shared} {σ : L2.St} {H : Hp} {ρ : Env} {η : List Addr} {S : Sto} {v : V} {u : Value} {d : D} {i : Nat} {x : Str} {β : Type} {b : β} (I : Inv X pins σ H s) (tk : τ.lo ≤ s.toks) (sr : SRel τ X.K X.base η H σ ρ) (st' : StoOk τ X.K η H S) (hN : X.N.Nodup) (hi : X.N[i]? = some x) (hx : Loc X.env.scope x)
    (hf : X.fn x = true ∨ X.env.scope.names.lookup x = some .local) (r : RelV v u) (rd : Rep X.K η H d v) (E : Value → Shared → Prop) :
    wpAny (model X.prog X.w) X.A (storeName X.env x u) (fun _ s' => τ.lo ≤ s'.toks ∧ ∃ σ' η' H', Inv X pins σ' H' s' ∧ Grow η H η' H' ∧ StoOk τ X.K η' H' S ∧ SRel τ X.K X.base η' H' σ' (ρ.set i (some d))) E s := by
  refine wpAny_mono (PySem.wpAny_toks (store_ok (Q := fun _ s' => Inv X pins (σ.set i (some v)) H s') I hN hi hx r (fun s' I' => I') hf)) (fun _ s' z => ?_) fun _ _ z => z.2
  exact ⟨Nat.le_trans tk z.1, _, η, H, z.2, .refl _ _, st', sr.set rd i⟩
theorem pgd_name {i : Nat} {x : Str} (hN : X.N.Nodup) (hi : X.N[i]? = some x) (hx : Loc X.env.scope x) (hf : X.fn x = true ∨ X.env.scope.names.lookup x = some .local) : PGD τ X (.Name x pos) (fun d ρ => pure (ρ.set i (some d))) := by
  intro pins s σ H ρ η S v u d I tk sr st' r rd E
  exact wpAny_assign_Name (store_out (β := Unit) (b := ()) I tk sr st' hN hi hx hf r rd E)
/-- name = e -/
theorem psd_set {i : Nat} {x : Str} {pos' : Pos} {g : Env → M D} (hN : X.N.Nodup) (hi : X.N[i]? = some x) (hx : Loc X.env.scope x) (hf : X.fn x = true ∨ X.env.scope.names.lookup x = some .local) (h : PD τ X e g) (hs : swapsWith e (some (.Name x pos')) pos.line X.env = pure false) :
    PSD τ X (.Assign [.Name x pos'] e pos) (fun ρ => g ρ >>= fun d => pure (.next (ρ.set i (some d)))) := by
  intro pins s σ H ρ η S I tk sr st'
  refine Out.seq (t1 := eval e X.env) (W2 := fun v Q E s1 => wpAny (model X.prog X.w) X.A (storeName X.env x v) (fun _ => Q .next) E s1) (fun Q E h => wpAny_Assign_Name h hs) (h pins s σ H ρ η S I tk sr st') ?_
  rintro v s1 σ1 η1 H1 d S1 _ tk1 I1 g1 st1 ⟨rfl, y, ry, rd⟩
  intro E
  refine wpAny_mono (store_out (β := Unit) (b := ()) I1 tk1 (sr.grow g1) st1 hN hi hx hf ry rd E) (fun _ s2 z => ?_) fun _ _ z => z
  obtain ⟨tk2, σ2, η2, H2, I2, g2, st2, r2⟩ := z
  exact ⟨tk2, σ2, η2, H2, I2, g1.trans g2, st2, r2⟩
/-- target = e -/
theorem psd_asg {tg : Expr} {g : Env → M D} {ga : D → Env → M Env} (h : PD τ X e g) (ht : PGD τ X tg ga) (hs : swapsWithSole [tg] e pos.line X.env = pure false) (hw : swappedStores [tg] e X.env = pure none) (h1 : (assignEach [tg] X.env).map (·.2) = [assign tg X.env]) :
    PSD τ X (.Assign [tg] e pos) (fun ρ => g ρ >>= fun d => ga d ρ >>= fun ρ' => pure (.next ρ')) := by
  intro pins s σ H ρ η S I tk sr st'
  refine Out.seq (t1 := eval e X.env) (W2 := fun v Q E s1 => wpAny (model X.prog X.w) X.A (assign tg X.env v) (fun _ => Q .next) E s1) (fun Q E h => wpAny_Assign_stores (wpAny_mono h (fun v s1 z => by rw [h1]; exact z) fun _ _ z => z) hs hw) (h pins s σ H ρ η S I tk sr st') ?_
  rintro v s1 σ1 η1 H1 d S1 _ tk1 I1 g1 st1 ⟨rfl, y, ry, rd⟩
  refine Out.back (fun Q Q' E s' hQ w => wpAny_mono w (fun _ s2 z => hQ _ _ z) fun _ _ z => z) g1 ?_
  refine Out.seq (t1 := assign tg X.env v) (W2 := fun _ Q E s2 => Q .next s2) (fun Q E h => h) (ht pins s1 σ1 H1 ρ η1 S1 y v d I1 tk1 (sr.grow g1) st1 ry rd) ?_
  intro _ s2 σ2 η2 H2 ρ2 S2 _ tk2 I2 g2 st2 r2
  exact fun E => ⟨tk2, σ2, η2, H2, I2, g2, st2, r2⟩
/-- o[i] = .. -/
theorem pgd_sub {o i : Expr} {go gi : Env → M D} (hu : X.A.units + 1 < cLine) (ho : PD τ X o go) (hi : PD τ X i gi)
    (ha : ∀ v, assign (.Subscript o i pos) X.env v = (do
      let ov ← holding [v] (eval o X.env)
      let iv ← holding [v, ov] (eval i X.env)
      standAt pos
      holding [v, ov, iv] (setItem ov iv v)
      release [v, ov, iv] [])) : PGD τ X (.Subscript o i pos) (fun d ρ => go ρ >>= fun od => gi ρ >>= fun id => setD od id d >>= fun _ => pure ρ) := by
  intro pins s σ H ρ η S v u d I tk sr st' r rd
  rw [ha]
  refine Out.seq (t1 := eval o X.env) (W2 := fun ov Q E s1 => wpAny (model X.prog X.w) X.A (eval i X.env) (fun iv s2 => wpAny (model X.prog X.w) X.A (setItem ov iv u) (fun _ s3 => Q () s3) E s2) E s1)
    (fun Q E h => wpAny_bind (wpAny_holding (wpAny_mono h (fun ov s1 z => wpAny_bind (wpAny_holding (wpAny_mono z (fun iv s2 z2 => wpAny_bind (wpAny_standAt (wpAny_bind (wpAny_holding (wpAny_mono z2 (fun _ s3 z3 => wpAny_release z3) fun _ _ z => z))))) fun _ _ z => z))) fun _ _ z => z))) (ho pins s σ H ρ η S I tk sr st') ?_
  rintro ov s1 σ1 η1 H1 od S1 _ tk1 I1 g1 st1 ⟨rfl, y, ry, rod⟩
  refine Out.back (fun Q Q' E s' hQ w => wpAny_mono w (fun _ s2 z => wpAny_mono z (fun _ s3 z => hQ _ _ z) fun _ _ z => z) fun _ _ z => z) g1 ?_
  refine Out.seq (t1 := eval i X.env) (W2 := fun iv Q E s2 => wpAny (model X.prog X.w) X.A (setItem ov iv u) (fun _ s3 => Q () s3) E s2) (fun Q E h => h) (hi pins s1 σ1 H1 ρ η1 S1 I1 tk1 (sr.grow g1) st1) ?_
  rintro iv s2 σ2 η2 H2 id S2 _ tk2 I2 g2 st2 ⟨rfl, y2, ry2, rid⟩
  refine Out.back (fun Q Q' E s' hQ w => wpAny_mono w (fun _ s3 z => hQ _ _ z) fun _ _ z => z) g2 ?_
  refine Out.seq (t1 := setItem ov iv u) (W2 := fun _ Q E s2 => Q () s2) (fun Q E h => h) (set_okD I2 tk2 st2 ry ry2 r (rod.grow g2) rid (rd.grow (g1.trans g2)) hu) ?_
  intro _ s3 σ3 η3 H3 _ S3 _ tk3 I3 g3 st3 r3
  have r3 : σ3 = σ2 := r3
  subst r3
  exact fun E => ⟨tk3, _, η3, H3, I3, g3, st3, sr.grow (g1.trans (g2.trans g3))⟩
/-- several targets, one after another -/
def PGDs (τ : Tau) (X : Cx) (ts : List Expr) (g : List D → Env → M Env) : Prop := ∀ (pins : List (Addr × Obj)) (s : Shared) (σ : L2.St) (H : Hp) (ρ : Env) (η : List Addr) (S : Sto) (vs : List V) (us : List Value) (ds : List D),
  Inv X pins σ H s → τ.lo ≤ s.toks → SRel τ X.K X.base η H σ ρ → StoOk τ X.K η H S → Vals vs us → Reps X.K η H ds vs → Out τ X pins η H (relE τ X.K X.base) (g ds ρ S) (sem X (PySem.assignInOrder ((assignEach ts X.env).map (·.2)) us)) s
def asgs : List (D → Env → M Env) → List D → Env → M Env
  | [], [], ρ => pure ρ
  | g :: gs, d :: ds, ρ => g d ρ >>= fun ρ' => asgs gs ds ρ'
  | _, _, _ => M.fail
end
end MP

/-! MP11: what is walked; for. -/
namespace MP
open PySem L2
inductive Src where
  | fix (xs : List D)
  | ref (n : Nat)
  /-- enumerate of a tracked list -/
  | enr (n : Nat)
/-- none: it can't be told; some none: no more -/
def Src.at (S : Sto) (i : Nat) : Src → Option (Option D)
  | .fix xs => some xs[i]?
  | .ref n => match S[n]? with
    | some (.lst xs) => some xs[i]?
    | _ => none
  | .enr n => match S[n]? with
    | some (.lst xs) => some (xs[i]?.map fun d => .tup [.int i, d])
    | _ => none
def Src.len (S : Sto) : Src → Nat
  | .fix xs => xs.length
  | .ref n => match S[n]? with
    | some (.lst xs) => xs.length
    | _ => 0
  | .enr n => match S[n]? with
    | some (.lst xs) => xs.length
    | _ => 0
structure Drv (τ : Tau) (K : PySem.W.Frag) (J : It) (src : Src) (η1 : List Addr) (H1 : Hp) : Prop where
  go : ∀ {η : List Addr} {H : Hp} {S : Sto} {i : Nat} {d : D}, Grow η1 H1 η H → StoOk τ K η H S → src.at S i = some (some d) → J.go i H
  yld : ∀ {η : List Addr} {H H' : Hp} {S : Sto} {i : Nat} {d : D} {x : V}, Grow η1 H1 η H → StoOk τ K η H S → src.at S i = some (some d) → J.yld i H x H' → Grow η H η H' ∧ StoOk τ K η H' S ∧ Rep K η H' d x
  stop : ∀ {η : List Addr} {H : Hp} {S : Sto} {i : Nat}, Grow η1 H1 η H → StoOk τ K η H S → src.at S i = some none → J.stop i H
def IterOk (τ : Tau) (X : Cx) (pins : List (Addr × Obj)) (σ : L2.St) (η : List Addr) (H : Hp) (tg : Expr) (src : Src) (S1 : Sto) (itv : Value) (s2 : Shared) : Prop :=
  τ.lo ≤ s2.toks ∧ ∃ η1 H1 it fp tn J, itv = .ref it ∧ Inv X pins σ H1 s2 ∧ Grow η H η1 H1 ∧ StoOk τ X.K η1 H1 S1 ∧ Turn X.prog X.w X.K tg J fp it tn ∧ tn 0 s2.heap ∧ (∀ b ∈ fp, FpOk X pins H1 b) ∧ Drv τ X.K J src η1 H1
def PID (τ : Tau) (X : Cx) (tg iter : Expr) (g : Env → M Src) : Prop := ∀ (pins : List (Addr × Obj)) (s : Shared) (σ : L2.St) (H : Hp) (ρ : Env) (η : List Addr) (S : Sto) (src : Src) (S1 : Sto),
  Inv X pins σ H s → τ.lo ≤ s.toks → SRel τ X.K X.base η H σ ρ → StoOk τ X.K η H S → g ρ S = .ok src S1 →
  wpAny (model X.prog X.w) X.A (eval iter X.env) (fun v s1 => wpAny (model X.prog X.w) X.A (pyIter v) (IterOk τ X pins σ η H tg src S1) (fun _ _ => False) s1) (fun _ _ => False) s

/-! ### sources -/
section
variable {K : PySem.W.Frag} {η1 : List Addr} {H1 : Hp}
theorem drv_lst {a : Addr} {ds : List D} {vs : List V} (h : LstAt η1 H1 a vs) (hr : Reps K η1 H1 ds vs) : Drv τ K (Itl K a) (.fix ds) η1 H1 where
  go := fun {η H S i d} g st e => by
    have h' : LstAt η H a vs := ⟨g.keep _ _ h.2 nt_lst h.1, g.notin h.1 h.2⟩
    obtain ⟨v, h1, _⟩ := (hr.grow g).get (Option.some.inj e)
    exact ⟨vs, v, h'.sq, h1⟩
  yld := fun {η H H' S i d x} g st e y => by
    have h' : LstAt η H a vs := ⟨g.keep _ _ h.2 nt_lst h.1, g.notin h.1 h.2⟩
    obtain ⟨e1, y⟩ := y
    subst e1
    obtain ⟨v, h1, h2⟩ := (hr.grow g).get (Option.some.inj e)
    have := y vs h'.sq
    rw [h1] at this
    cases this
    exact ⟨.refl _ _, st, h2⟩
  stop := fun {η H S i} g st e => by
    have h' : LstAt η H a vs := ⟨g.keep _ _ h.2 nt_lst h.1, g.notin h.1 h.2⟩
    have e : ds[i]? = none := Option.some.inj e
    exact ⟨vs, h'.sq, by rw [← hr.length]; exact List.getElem?_eq_none_iff.mp e⟩
theorem drv_tup {a : Addr} {ds : List D} {vs : List V} (h : TupAt K η1 H1 a vs) (hr : Reps K η1 H1 ds vs) : Drv τ K (Itt K a) (.fix ds) η1 H1 := by
  have hh : ∀ {η : List Addr} {H : Hp}, Grow η1 H1 η H → TupAt K η H a vs := fun {η H} g => by
    rcases h with h | h
    · exact .inl ⟨g.keep _ _ h.2 nt_tup h.1, g.notin h.1 h.2⟩
    · exact .inr h
  refine ⟨fun {η H S i d} g st e => ?_, fun {η H H' S i d x} g st e y => ?_, fun {η H S i} g st e => ?_⟩
  · obtain ⟨v, h1, _⟩ := (hr.grow g).get (Option.some.inj e)
    exact ⟨vs, v, (hh g).sq, h1⟩
  · obtain ⟨e1, y⟩ := y
    subst e1
    obtain ⟨v, h1, h2⟩ := (hr.grow g).get (Option.some.inj e)
    have := y vs (hh g).sq
    rw [h1] at this
    cases this
    exact ⟨.refl _ _, st, h2⟩
  · have e : ds[i]? = none := Option.some.inj e
    exact ⟨vs, (hh g).sq, by rw [← hr.length]; exact List.getElem?_eq_none_iff.mp e⟩
theorem ref_look {a : Addr} {n : Nat} (h : η1[n]? = some a) {η : List Addr} {H : Hp} {S : Sto} {ds : List D} (g : Grow η1 H1 η H) (st : StoOk τ K η H S) (q : S[n]? = some (.lst ds)) : ∃ vs, H a = some (.lst vs) ∧ Reps K η H ds vs := by
  obtain ⟨μ, e, _⟩ := g.pre
  have h2 : η[n]? = some a := by rw [e, List.getElem?_append_left (List.getElem?_eq_some_iff.mp h).1]; exact h
  exact st.look n _ a q h2
theorem drv_ref {a : Addr} {n : Nat} (h : η1[n]? = some a) : Drv τ K (Itl K a) (.ref n) η1 H1 := by
  have hh : ∀ {S : Sto} {i : Nat} {o : Option D}, (Src.ref n).at S i = some o → ∃ ds, S[n]? = some (.lst ds) ∧ ds[i]? = o := fun {S i o} e => by
    cases q : S[n]? with
    | none => simp only [Src.at, q] at e; cases e
    | some oo =>
      cases oo with
      | lst ds => simp only [Src.at, q] at e; exact ⟨ds, rfl, Option.some.inj e⟩
      | dic _ => simp only [Src.at, q] at e; cases e
      | fdic _ => simp only [Src.at, q] at e; cases e
      | exc _ _ => simp only [Src.at, q] at e; cases e
  refine ⟨fun {η H S i d} g st e => ?_, fun {η H H' S i d x} g st e y => ?_, fun {η H S i} g st e => ?_⟩
  · obtain ⟨ds, q, e⟩ := hh e
    obtain ⟨vs, h3, h4⟩ := ref_look h g st q
    obtain ⟨v, h1, _⟩ := h4.get e
    exact ⟨vs, v, SqL.of h3, h1⟩
  · obtain ⟨ds, q, e⟩ := hh e
    obtain ⟨vs, h3, h4⟩ := ref_look h g st q
    obtain ⟨e1, y⟩ := y
    subst e1
    obtain ⟨v, h1, h2⟩ := h4.get e
    have := y vs (SqL.of h3)
    rw [h1] at this
    cases this
    exact ⟨.refl _ _, st, h2⟩
  · obtain ⟨ds, q, e⟩ := hh e
    obtain ⟨vs, h3, h4⟩ := ref_look h g st q
    exact ⟨vs, SqL.of h3, by rw [← h4.length]; exact List.getElem?_eq_none_iff.mp e⟩
/-- each item in a new pair -/
theorem enu_yld {η : List Addr} {H H' : Hp} {S : Sto} {i : Nat} {d : D} {v x : V} {T : Addr} (st : StoOk τ K η H S) (hT : H T = none) (hH : H' = upd H T (.tup [.int (i : Nat), v])) (hx : x = .ref T) (r : Rep K η H d v) : Grow η H η H' ∧ StoOk τ K η H' S ∧ Rep K η H' (.tup [.int (i : Nat), d]) x := by
  subst hH hx
  have g := grow_new (u := .tup [.int (i : Nat), v]) st hT
  exact ⟨g, st.laid hT, .tup (.inl ⟨upd_same, st.fresh hT⟩) (.cons (.int _) (.cons (r.grow g) .nil))⟩
theorem drv_enr {a : Addr} {n : Nat} (h : η1[n]? = some a) : Drv τ K (Ite K a) (.enr n) η1 H1 := by
  have hh : ∀ {S : Sto} {i : Nat} {o : Option D}, (Src.enr n).at S i = some o → ∃ ds, S[n]? = some (.lst ds) ∧ ds[i]?.map (fun d => D.tup [.int i, d]) = o := fun {S i o} e => by
    cases q : S[n]? with
    | none => simp only [Src.at, q] at e; cases e
    | some oo =>
      cases oo with
      | lst ds => simp only [Src.at, q] at e; exact ⟨ds, rfl, Option.some.inj e⟩
      | dic _ => simp only [Src.at, q] at e; cases e
      | fdic _ => simp only [Src.at, q] at e; cases e
      | exc _ _ => simp only [Src.at, q] at e; cases e
  refine ⟨fun {η H S i d} g st e => ?_, fun {η H H' S i d x} g st e y => ?_, fun {η H S i} g st e => ?_⟩
  · obtain ⟨ds, q, e⟩ := hh e
    obtain ⟨vs, h3, h4⟩ := ref_look h g st q
    obtain ⟨d', e', _⟩ := Option.map_eq_some_iff.mp e
    obtain ⟨v, h1, _⟩ := h4.get e'
    exact ⟨vs, v, SqL.of h3, h1⟩
  · obtain ⟨ds, q, e⟩ := hh e
    obtain ⟨vs, h3, h4⟩ := ref_look h g st q
    obtain ⟨d', e', rfl⟩ := Option.map_eq_some_iff.mp e
    obtain ⟨T, z, e1, hT, eH, y⟩ := y
    obtain ⟨v, h1, h2⟩ := h4.get e'
    have := y vs (SqL.of h3)
    rw [h1] at this
    cases this
    exact enu_yld st hT eH e1 h2
  · obtain ⟨ds, q, e⟩ := hh e
    obtain ⟨vs, h3, h4⟩ := ref_look h g st q
    exact ⟨vs, SqL.of h3, by rw [← h4.length]; exact List.getElem?_eq_none_iff.mp (Option.map_eq_none_iff.mp e)⟩
def rangeL (lo : Int) (n : Nat) : List D := (List.range n).map fun i => D.int (lo + (i : Nat))
theorem drv_rng (lo : Int) (n : Nat) : Drv τ K (Itr lo n) (.fix (rangeL lo n)) η1 H1 := by
  refine ⟨fun {η H S i d} g st e => ?_, fun {η H H' S i d x} g st e y => ?_, fun {η H S i} g st e => ?_⟩
  · have e : (rangeL lo n)[i]? = some d := Option.some.inj e
    have := (List.getElem?_eq_some_iff.mp e).1
    show i < n
    simpa [rangeL] using this
  · obtain ⟨e1, y⟩ := y
    subst e1
    have e : (rangeL lo n)[i]? = some d := Option.some.inj e
    have hi := (List.getElem?_eq_some_iff.mp e).1
    have hi : i < n := by simpa [rangeL] using hi
    simp [rangeL, hi] at e
    subst e
    subst y
    exact ⟨.refl _ _, st, .int _⟩
  · have e : (rangeL lo n)[i]? = none := Option.some.inj e
    have := List.getElem?_eq_none_iff.mp e
    show n ≤ i
    simpa [rangeL] using this
def signsL (x : Str) : List D := x.cps.toList.map fun c => D.str ⟨#[c]⟩
theorem drv_str (x : Str) : Drv τ K (Its x) (.fix (signsL x)) η1 H1 := by
  refine ⟨fun {η H S i d} g st e => ?_, fun {η H H' S i d v} g st e y => ?_, fun {η H S i} g st e => ?_⟩
  · have e : (signsL x)[i]? = some d := Option.some.inj e
    have := (List.getElem?_eq_some_iff.mp e).1
    show i < x.cps.size
    simpa [signsL] using this
  · obtain ⟨e1, c, hc, y⟩ := y
    subst e1
    have e : (signsL x)[i]? = some d := Option.some.inj e
    unfold signsL at e
    rw [List.getElem?_map, Array.getElem?_toList, hc] at e
    cases e
    subst y
    exact ⟨.refl _ _, st, .str _⟩
  · have e : (signsL x)[i]? = none := Option.some.inj e
    have := List.getElem?_eq_none_iff.mp e
    show x.cps.size ≤ i
    simpa [signsL] using this
end

def keyC : Key → D
  | .inl i => .int i
  | .inr z => .str z
theorem rep_C {K : PySem.W.Frag} {η : List Addr} {H : Hp} (k : Key) : Rep K η H (keyC k) (kV k) := by
  cases k with
  | inl i => exact .int i
  | inr z => exact .str z
theorem drv_keys {K : PySem.W.Frag} {η1 : List Addr} {H1 : Hp} {a : Addr} {o : Obj} {kvs : List (Key × V)} {kds : List (Key × D)} (h : H1 a = some (.frz o (.dK kvs))) (he : kds.map (·.1) = kvs.map (·.1)) : Drv τ K (Itk a o kvs) (.fix (kds.map fun p => keyC p.1)) η1 H1 := by
  have hl : kds.length = kvs.length := by simpa using congrArg List.length he
  have e2 : (kds.map fun p => keyC p.1) = kvs.map fun p => keyC p.1 := by
    have := congrArg (List.map keyC) he
    rw [List.map_map, List.map_map] at this
    exact this
  rw [e2]
  refine ⟨fun {η H S i d} g st e => ?_, fun {η H H' S i d x} g st e y => ?_, fun {η H S i} g st e => ?_⟩
  · have e : (kvs.map fun p => keyC p.1)[i]? = some d := Option.some.inj e
    have := (List.getElem?_eq_some_iff.mp e).1
    exact ⟨g.frz _ _ _ h, by simpa using this⟩
  · obtain ⟨e1, k, v, hk, y⟩ := y
    subst e1 y
    have e : (kvs.map fun p => keyC p.1)[i]? = some d := Option.some.inj e
    rw [List.getElem?_map, hk] at e
    cases e
    exact ⟨.refl _ _, st, rep_C k⟩
  · have e : (kvs.map fun p => keyC p.1)[i]? = none := Option.some.inj e
    have := List.getElem?_eq_none_iff.mp e
    exact ⟨g.frz _ _ _ h, by simpa using this⟩
def seqSrc (d : D) : M Src := fun S => match d with
  | .tup xs => .ok (.fix xs) S
  | .lst xs => .ok (.fix xs) S
  | .str x => .ok (.fix (signsL x)) S
  | .ref n => match S[n]? with
    | some (.lst _) => .ok (.ref n) S
    | some (.dic kvs) => .ok (.fix (kvs.map fun p => keyC p.1)) (S.set n (.fdic kvs))
    | some (.fdic kvs) => .ok (.fix (kvs.map fun p => keyC p.1)) S
    | _ => .bad
  | _ => .bad
section
variable {X : Cx} {tg e : Expr}
theorem it_one {pins : List (Addr × Obj)} {σ : L2.St} {H H1 : Hp} {η η1 : List Addr} {s : Shared} {src : Src} {S1 : Sto} {J : It} {tn : Nat → Heap → Prop} {tk : Nat} (I : Inv X pins σ H1 s) (htk : τ.lo ≤ tk) (g1 : Grow η H η1 H1) (st : StoOk τ X.K η1 H1 S1) (o : Obj)
    (T : Turn X.prog X.w X.K tg J [s.heap.objs.size] s.heap.objs.size tn) (h0 : tn 0 (s.heap.push o)) (dr : Drv τ X.K J src η1 H1) : IterOk τ X pins σ η H tg src S1 (.ref s.heap.objs.size) { s with heap := s.heap.push o, toks := tk } := by
  refine ⟨htk, η1, H1, s.heap.objs.size, [s.heap.objs.size], tn, J, rfl, I.kept fun b ob e => Heap.get?_push_of_some _ e, g1, st, T, h0, fun b hb => ?_, dr⟩
  have e : b = s.heap.objs.size := by simpa using hb
  subst e
  exact I.fpOk (Nat.le_refl _) (I.hok.fresh (Nat.le_refl _))
theorem pid_seq {g : Env → M D} (h : PD τ X e g) : PID τ X tg e (fun ρ => g ρ >>= seqSrc) := by
  intro pins s σ H ρ η S src S1 I tk sr st q
  have q : (g ρ >>= seqSrc) S = .ok src S1 := q
  rw [bind_run] at q
  have key := h pins s σ H ρ η S I tk sr st
  cases q1 : g ρ S with
  | bad => rw [q1] at q; cases q
  | ok d S2 =>
    rw [q1] at q key
    refine wpAny_mono (key (fun _ _ => False)) (fun v s1 z => ?_) fun _ _ z => z
    obtain ⟨tk1, σ1, η1, H1, I1, g1, st1, e1, x, rx, rd⟩ := z
    subst e1
    cases rd with
    | tup h1 h2 =>
      cases q
      cases rx
      obtain ⟨its, rv, p, hz⟩ := I1.tuple h1.sq
      exact wpAny_pyIter_tuple (show s1.heap.IsTuple _ its.toArray from p) (it_one I1 tk1 g1 st1 _ (turn_tuple _ _) ⟨_, Heap.get?_push_size _ rfl, rfl, rfl⟩ (drv_tup h1 h2))
    | lst h1 h2 =>
      cases q
      cases rx
      obtain ⟨its, rv, p, hz⟩ := I1.list (LstAt.sq (K := X.K) h1)
      exact wpAny_pyIter_list p.isList (it_one I1 tk1 g1 st1 _ (turn_list _ _) ⟨_, Heap.get?_push_size _ rfl, rfl, rfl⟩ (drv_lst h1 h2))
    | @ref n a h1 =>
      have q : (match S2[n]? with | some (O.lst _) => R.ok (Src.ref n) S2 | some (O.dic kvs) => R.ok (Src.fix (kvs.map fun (p : Key × D) => keyC p.1)) (S2.set n (.fdic kvs)) | some (O.fdic kvs) => R.ok (Src.fix (kvs.map fun (p : Key × D) => keyC p.1)) S2 | _ => R.bad) = .ok src S1 := q
      cases rx
      cases qn : S2[n]? with
      | none => rw [qn] at q; cases q
      | some oo =>
        rw [qn] at q
        cases oo with
        | lst ds =>
          cases q
          obtain ⟨vs, ha, _⟩ := st1.look n _ a qn h1
          obtain ⟨its, rv, p, hz⟩ := I1.list (SqL.of (K := X.K) ha)
          exact wpAny_pyIter_list p.isList (it_one I1 tk1 g1 st1 _ (turn_list _ _) ⟨_, Heap.get?_push_size _ rfl, rfl, rfl⟩ (drv_ref h1))
        | dic kds =>
          cases q
          obtain ⟨vs, ha, hk⟩ := st1.look n _ a qn h1
          obtain ⟨od, I2⟩ := I1.lock ha trivial
          have nf := nofrzD ha
          have g2 := grow_set (u := .frz od (.dK vs)) st1 (List.mem_of_getElem? h1) nf
          have st2 : StoOk τ X.K η1 (upd H1 a (.frz od (.dK vs))) (S2.set n (.fdic kds)) := st1.setO h1 nf ⟨od, vs, upd_same, hk.grow g2⟩
          obtain ⟨hs, hgd, hx, es, ep, vs', hdt, hsz, kv, hm⟩ := I2.frzK (upd_same (a := a))
          refine iter_keys hs hgd hx hdt (it_one I2 tk1 (g1.trans g2) st2 _ (turn_keys _ hdt) ⟨_, Heap.get?_push_size _ rfl, rfl, ?_⟩ (drv_keys upd_same (repk_vals hk).2))
          rw [hsz] <;> rfl
        | fdic kds =>
          cases q
          obtain ⟨od, vs, ha, hk⟩ := st1.look n _ a qn h1
          obtain ⟨hs, hgd, hx, es, ep, vs', hdt, hsz, kv, hm⟩ := I1.frzK ha
          refine iter_keys hs hgd hx hdt (it_one I1 tk1 g1 st1 _ (turn_keys _ hdt) ⟨_, Heap.get?_push_size _ rfl, rfl, ?_⟩ (drv_keys ha (repk_vals hk).2))
          rw [hsz] <;> rfl
        | exc _ _ => cases q
    | str y =>
      cases q
      obtain ⟨t, rfl⟩ := rx
      cases ha : y.cps.all (· < 128)
      · exact wpAny_pyIter_wide ha (it_one I1 tk1 g1 st1 _ (turn_str _ y t "str_iterator" (.inr rfl)) ⟨_, Heap.get?_push_size _ rfl, rfl, rfl⟩ (drv_str y))
      · exact wpAny_pyIter_ascii ha (it_one I1 tk1 g1 st1 _ (turn_str _ y t "str_ascii_iterator" (.inl rfl)) ⟨_, Heap.get?_push_size _ rfl, rfl, rfl⟩ (drv_str y))
    | _ => cases q
end
end MP

/-! MP12: range, for. -/
namespace MP
open PySem L2
/-! ### range -/
def rngSrc (ds : List D) : M Src := fun S => match ds with
  | [.int j] => if -(2 ^ 62) ≤ j ∧ j < 2 ^ 62 then .ok (.fix (rangeL 0 j.toNat)) S else .bad
  | [.int i, .int j] => if (-(2 ^ 62) ≤ i ∧ i < 2 ^ 62) ∧ -(2 ^ 62) ≤ j ∧ j < 2 ^ 62 then .ok (.fix (rangeL i (j - i).toNat)) S else .bad
  | _ => .bad
section
variable {X : Cx} {tg : Expr}
theorem rng_one {pins : List (Addr × Obj)} {σ : L2.St} {H H1 : Hp} {η η1 : List Addr} {s : Shared} {S1 : Sto} {E : Value → Shared → Prop} {lo hi : Int} {t u v : Tok} {tk : Nat} (I : Inv X pins σ H1 s) (htk : τ.lo ≤ tk) (g1 : Grow η H η1 H1) (st : StoOk τ X.K η1 H1 S1) (h1 : -(2 ^ 62) ≤ lo) (h2 : lo < 2 ^ 62) (h3 : -(2 ^ 62) ≤ hi) (h4 : hi < 2 ^ 62) :
    wpAny (model X.prog X.w) X.A (pyIter (.ref s.heap.objs.size)) (IterOk τ X pins σ η H tg (.fix (rangeL lo (hi - lo).toNat)) S1) E { s with heap := s.heap.push { cls := .type "range", data := .fields #[.int lo t, .int hi u, .int 1 v] }, toks := tk } := by
  refine wpAny_pyIter_range (IsRange.new ..) (small_one h1 h2 h3 h4) ?_
  have I1 : Inv X pins σ H1 { s with heap := s.heap.push { cls := .type "range", data := .fields #[.int lo t, .int hi u, .int 1 v] }, toks := tk } := I.kept fun b o e => Heap.get?_push_of_some _ e
  refine it_one (tk := tk) I1 htk g1 st _ (turn_range _ lo (hi - lo).toNat) ?_ (drv_rng lo _)
  have e1 : lo + ((0 : Nat) : Int) * 1 = lo := by simp
  have e2 : (((hi - lo).toNat : Nat) : Int) - ((0 : Nat) : Int) = Builtin.Range.rangeSize lo hi 1 := by rw [rangeSize_one]; split <;> omega
  show IsRangeIter _ _ (lo + ((0 : Nat) : Int) * 1) ((((hi - lo).toNat : Nat) : Int) - ((0 : Nat) : Int)) 1
  rw [e1, e2]
  exact Heap.get?_push_size _ rfl
theorem pid_range {e : Expr} {es : List Expr} {gl : Env → M (List D)} {p pos : Pos} (hg : Gl X "range") (hm : X.mg "range" = none) (ha : PDL τ X (e :: es) gl) (he : starEach (e :: es) X.env = (false, eval e X.env) :: starEach es X.env) (hpl : (backTo pos (starEach es X.env)).any (·.1) = false) :
    PID τ X tg (.Call (.Name "range" p) (e :: es) [] pos) (fun ρ => gl ρ >>= rngSrc) := by
  intro pins s σ H ρ η S src S1 I tk sr st q
  have q : (gl ρ >>= rngSrc) S = .ok src S1 := q
  rw [bind_run] at q
  have key := ha pos pins s σ H ρ η S I tk sr st
  cases q1 : gl ρ S with
  | bad => rw [q1] at q; cases q
  | ok ds S2 =>
    rw [q1] at q key
    refine wpAny_Call_Name_kw (ld_blt (u := .type "range") I hg hm (by decide +kernel) (PyProof.Rows.callWith_type1 (wpAny_mono (key (fun _ _ => False)) (fun us s1 z => ?_) fun _ _ z => z) he hpl))
    obtain ⟨tk1, σ1, η1, H1, I1, g1, st1, e1, vs, rv, rd⟩ := z
    subst e1
    cases rd with
    | nil => cases q
    | cons r1 rr =>
      cases rr with
      | nil =>
        cases rv with
        | cons v1 vr =>
          cases vr
          cases r1 <;> try cases q
          rename_i j
          obtain ⟨t, rfl⟩ := v1
          have q : (if -(2 ^ 62) ≤ j ∧ j < 2 ^ 62 then R.ok (Src.fix (rangeL 0 j.toNat)) S2 else .bad) = .ok src S1 := q
          split at q
          · rename_i hj
            cases q
            have := fun (t u v : Tok) (tk : Nat) (h : τ.lo ≤ tk) => rng_one (X := X) (tg := tg) (E := fun _ _ => False) (lo := 0) (hi := j) (t := t) (u := u) (v := v) (tk := tk) I1 h g1 st1 (by omega) (by omega) hj.1 hj.2
            simp only [Int.sub_zero] at this
            exact call_range_1 (this _ _ _ _ (Nat.le_trans tk1 (by first | exact Nat.le_refl _ | omega)))
          · cases q
      | cons r2 rr =>
        cases rr with
        | nil =>
          cases rv with
          | cons v1 vr =>
            cases vr with
            | cons v2 vr =>
              cases vr
              cases r1 <;> try cases q
              cases r2 <;> try cases q
              rename_i i j
              obtain ⟨t, rfl⟩ := v1
              obtain ⟨t', rfl⟩ := v2
              have q : (if (-(2 ^ 62) ≤ i ∧ i < 2 ^ 62) ∧ -(2 ^ 62) ≤ j ∧ j < 2 ^ 62 then R.ok (Src.fix (rangeL i (j - i).toNat)) S2 else .bad) = .ok src S1 := q
              split at q
              · rename_i hj
                cases q
                exact call_range_2 (rng_one I1 (Nat.le_trans tk1 (Nat.le_add_right _ _)) g1 st1 hj.1.1 hj.1.2 hj.2.1 hj.2.2)
              · cases q
        | cons r3 rr =>
          cases r1 <;> try cases q
          cases r2 <;> cases q

/-! ### for -/
def loopF (src : Src) (asg : D → Env → M Env) (body : Env → M Fl) : Nat → Nat → Env → M Fl
  | 0, _, _ => M.fail
  | k + 1, i, ρ => fun S => match src.at S i with
    | none => .bad
    | some none => .ok (.next ρ) S
    | some (some d) => (asg d ρ >>= fun ρ1 => body ρ1 >>= fun fl => match fl with
      | .next ρ2 => loopF src asg body k (i + 1) ρ2
      | .cont ρ2 => loopF src asg body k (i + 1) ρ2
      | .brk ρ2 => pure (.next ρ2)
      | .ret d => pure (.ret d)) S
def forF (asg : D → Env → M Env) (body : Env → M Fl) (ρ : Env) (src : Src) : M Fl := fun S => loopF src asg body (src.len S + 1) 0 ρ S
theorem psd_for {iter : Expr} {body : List Stmt} {pos : Pos} {gi : Env → M Src} {ga : D → Env → M Env} {gb : Env → M Fl} (hc : X.calm = true) (hi : PID τ X tg iter gi) (hg : PGD τ X tg ga) (hb : PSDs τ X body gb)
    (hs : ∀ x, foldedSetIterable iter X.env x = pure x) : PSD τ X (.For tg iter body [] pos) (fun ρ => gi ρ >>= forF ga gb ρ) := by
  intro pins s σ H ρ η S I tk sr st
  refine Out.never fun fl S' q => ?_
  have q : (gi ρ >>= forF ga gb ρ) S = .ok fl S' := q
  rw [bind_run] at q
  cases q1 : gi ρ S with
  | bad => rw [q1] at q; cases q
  | ok src S1 =>
    rw [q1] at q
    have q : loopF src ga gb (src.len S1 + 1) 0 ρ S1 = .ok fl S' := q
    revert q
    generalize src.len S1 + 1 = fuel
    intro q
    refine wpAny_For (wpAny_mono (hi pins s σ H ρ η S src S1 I tk sr st q1) (fun v s1 h1 => wpAny_mono h1 (fun itv s2 h2 => ?_) fun _ _ z => z.elim) fun _ _ z => z.elim) hs
    obtain ⟨tk2, η2, H2, it, fp, tn, J, e, I2, g2, st2, T, tn2, f2, dr⟩ := h2
    subst e
    have stat : ∀ {H' : Hp}, (∀ b ∈ fp, H' b = none) → ∀ b ∈ fp, FpOk X pins H' b := fun hn b hb => ⟨hn b hb, (f2 b hb).2⟩
    refine codeAny_forLoop_any (fun n s' => τ.lo ≤ s'.toks ∧ ∃ i σ' η' H' ρ' S2, Inv X pins σ' H' s' ∧ tn i s'.heap ∧ (∀ b ∈ fp, H' b = none) ∧ Grow η2 H2 η' H' ∧ StoOk τ X.K η' H' S2 ∧ SRel τ X.K X.base η' H' σ' ρ' ∧ loopF src ga gb n i ρ' S2 = .ok fl S') ?_ fuel ⟨tk2, 0, σ, η2, H2, ρ, S1, I2, tn2, fun b hb => (f2 b hb).1, .refl _ _, st2, sr.grow g2, q⟩
    rintro n s3 ⟨tk3, i, σ3, η3, H3, ρ3, S3, I3, tn3, fr3, g3, st3, sr3, q3⟩
    cases n with
    | zero => cases q3
    | succ k =>
      unfold loopF at q3
      rcases qa : src.at S3 i with _ | _ | d
      · rw [qa] at q3
        cases q3
      · rw [qa] at q3
        cases q3
        refine wpAny_mono (PySem.wpAny_toks (T.done X rfl rfl rfl hc i pins s3 σ3 H3 _ I3 (stat fr3) tn3 (dr.stop g3 st3 qa))) (fun r s4 z => ?_) fun _ _ z => z.2
        obtain ⟨tk4, hr, I4⟩ := z
        subst hr
        exact wpAny_execs_nil ⟨Nat.le_trans tk3 tk4, σ3, η3, H3, I4, g2.trans g3, st3, sr3⟩
      · rw [qa] at q3
        refine wpAny_mono (PySem.wpAny_toks (T.item X rfl rfl rfl hc i pins s3 σ3 H3 _ I3 (stat fr3) tn3 (dr.go g3 st3 qa))) (fun r s4 z => ?_) fun _ _ z => z.2
        obtain ⟨tk4, u, hr, h4⟩ := z
        subst hr
        refine wpAny_mono (PySem.wpAny_toks h4) (fun _ s5 z => ?_) fun _ _ z => z.2
        obtain ⟨tk5, x, H5, I5, r5, y5, tn5, fr5⟩ := z
        have tk5 : τ.lo ≤ s5.toks := Nat.le_trans tk3 (Nat.le_trans tk4 tk5)
        obtain ⟨g5, st5, rd5⟩ := dr.yld g3 st3 qa y5
        have I5' := I5.pinned (stat fr5) (T.obj _ _ tn5)
        simp only [bind_run] at q3
        have keyA := hg _ s5 σ3 H5 ρ3 η3 S3 x u d I5' tk5 (sr3.grow g5) st5 r5 rd5
        cases qb : ga d ρ3 S3 with
        | bad => rw [qb] at q3; cases q3
        | ok ρ6 S6 =>
          rw [qb] at q3 keyA
          refine wpAny_mono (keyA _) (fun _ s6 z => ?_) fun _ _ z => z
          obtain ⟨tk6, σ6, η6, H6, I6, g6, st6, sr6⟩ := z
          have keyB := hb _ s6 σ6 H6 ρ6 η6 S6 I6 tk6 sr6 st6
          simp only [bind_run] at q3
          cases qc : gb ρ6 S6 with
          | bad => rw [qc] at q3; cases q3
          | ok fl7 S7 =>
            rw [qc] at q3 keyB
            refine wpAny_mono (keyB _) (fun f s7 z => ?_) fun _ _ z => z
            obtain ⟨tk7, σ7, η7, H7, I7, g7, st7, r7⟩ := z
            have gg : Grow η2 H2 η7 H7 := g3.trans (g5.trans (g6.trans g7))
            have again : ∀ {ρ7 : Env}, SRel τ X.K X.base η7 H7 σ7 ρ7 → loopF src ga gb k (i + 1) ρ7 S7 = .ok fl S' → ∃ m, m < k + 1 ∧ τ.lo ≤ s7.toks ∧ ∃ i σ' η' H' ρ' S2, Inv X pins σ' H' s7 ∧ tn i s7.heap ∧ (∀ b ∈ fp, H' b = none) ∧ Grow η2 H2 η' H' ∧ StoOk τ X.K η' H' S2 ∧ SRel τ X.K X.base η' H' σ' ρ' ∧ loopF src ga gb m i ρ' S2 = .ok fl S' := fun {ρ7} sr7 q7 => by
              refine ⟨k, Nat.lt_succ_self _, tk7, i + 1, σ7, η7, H7, ρ7, S7, I7.unpinned, T.keep _ _ _ tn5 fun b hb o e => (I7.pin (b, o) (List.mem_append_right _ (List.mem_append_right _ (mem_pinsAt hb e)))).1, fun b hb => ?_, gg, st7, sr7, q7⟩
              obtain ⟨o, e, d⟩ := T.obj _ _ tn5 b hb
              exact (I7.pin (b, o) (List.mem_append_right _ (List.mem_append_right _ (mem_pinsAt hb e)))).2.1
            cases fl7 with
            | next ρ7 =>
              cases f with
              | next => exact again r7 q3
              | _ => exact r7.elim
            | cont ρ7 =>
              cases f with
              | cont => exact again r7 q3
              | _ => exact r7.elim
            | brk ρ7 =>
              cases f with
              | brk =>
                cases q3
                exact ⟨tk7, σ7, η7, H7, I7.unpinned, g2.trans gg, st7, r7⟩
              | _ => exact r7.elim
            | ret d7 =>
              cases f with
              | ret u7 =>
                cases q3
                exact ⟨tk7, σ7, η7, H7, I7.unpinned, g2.trans gg, st7, r7⟩
              | _ => exact r7.elim
end
/-! ### the loop over a fixed list, as a recursion -/
def forL (asg : D → Env → M Env) (body : Env → M Fl) : List D → Env → M Fl
  | [], ρ => pure (.next ρ)
  | d :: ds, ρ => asg d ρ >>= fun ρ1 => body ρ1 >>= fun fl => match fl with
    | .next ρ2 => forL asg body ds ρ2
    | .cont ρ2 => forL asg body ds ρ2
    | .brk ρ2 => pure (.next ρ2)
    | .ret d => pure (.ret d)
theorem loopF_fix (asg : D → Env → M Env) (body : Env → M Fl) (xs : List D) : ∀ (k i : Nat) (ρ : Env), i ≤ xs.length → xs.length < i + k → loopF (.fix xs) asg body k i ρ = forL asg body (xs.drop i) ρ
  | 0, i, ρ, h0, h => by omega
  | k + 1, i, ρ, h0, h => by
    funext S
    unfold loopF
    show (match (some xs[i]? : Option (Option D)) with | none => _ | some none => _ | some (some d) => _) = _
    by_cases hi : i < xs.length
    · rw [List.getElem?_eq_getElem hi, List.drop_eq_getElem_cons hi]
      simp only [forL, fun ρ2 => loopF_fix asg body xs k (i + 1) ρ2 (by omega) (by omega)]
    · rw [List.getElem?_eq_none (by omega), List.drop_eq_nil_of_le (by omega)]
      rfl
theorem forF_fix (asg : D → Env → M Env) (body : Env → M Fl) (xs : List D) (ρ : Env) : forF asg body ρ (.fix xs) = forL asg body xs ρ := by
  funext S
  unfold forF
  rw [loopF_fix asg body xs _ _ _ (by omega) (by simp [Src.len])]
  rfl
end MP

/-! MP13: list comprehensions. -/
namespace MP
open PySem L2
/-! ### tests of a clause -/
def PTD (τ : Tau) (X : Cx) (ifs : List Expr) (g : Env → M Bool) : Prop := ∀ (pins : List (Addr × Obj)) (s : Shared) (σ : L2.St) (H : Hp) (ρ : Env) (η : List Addr) (S : Sto),
  Inv X pins σ H s → τ.lo ≤ s.toks → SRel τ X.K X.base η H σ ρ → StoOk τ X.K η H S → Out τ X pins η H (relB σ) (g ρ S) (sem X (forIn ifs true fun c r => if r = true then do let ok ← isTrue c X.env (eval c X.env); pure (ForInStep.yield ok) else pure (ForInStep.yield r))) s
theorem ptd_nil {X : Cx} : PTD τ X [] (fun _ => pure true) := fun pins s σ H ρ η S I tk sr st E => wpAny_tests_nil ⟨tk, σ, η, H, I, .refl _ _, st, rfl, rfl⟩
theorem ptd_one {X : Cx} {c : Expr} {g : Env → M Bool} (h : PDB τ X c g) : PTD τ X [c] g := fun pins s σ H ρ η S I tk sr st => by
  have := h pins s σ H ρ η S I tk sr st
  cases q : g ρ S with
  | bad => exact trivial
  | ok b S1 =>
    rw [q] at this
    exact fun E => wpAny_tests_one (this E)
def wipeE (ρ : Env) : List Nat → Env
  | [] => ρ
  | v :: vs => (wipeE ρ vs).set v none
theorem wipeE_length (ρ : Env) : ∀ vs : List Nat, (wipeE ρ vs).length = ρ.length
  | [] => rfl
  | v :: vs => by unfold wipeE; rw [List.length_set, wipeE_length ρ vs]
theorem wipeE_some {ρ : Env} {i : Nat} {d : D} : ∀ {vs : List Nat}, (wipeE ρ vs)[i]? = some (some d) → ρ[i]? = some (some d) ∧ i ∉ vs
  | [], h => ⟨h, by simp⟩
  | v :: vs, h => by
    unfold wipeE at h
    by_cases hi : v = i
    · subst hi
      by_cases hv : v < (wipeE ρ vs).length
      · rw [List.getElem?_set_self hv] at h; cases h
      · rw [List.getElem?_eq_none (by rw [List.length_set]; omega)] at h; cases h
    · rw [List.getElem?_set_ne hi] at h
      obtain ⟨h1, h2⟩ := wipeE_some h
      exact ⟨h1, fun m => by exact (List.mem_cons.mp m).elim (fun z => hi z.symm) h2⟩
theorem wipeE_set (ρ : Env) (v : Nat) : ∀ vs : List Nat, wipeE (ρ.set v none) vs = (wipeE ρ vs).set v none
  | [] => rfl
  | w :: vs => by
    unfold wipeE
    rw [wipeE_set ρ v vs]
    by_cases h : v = w
    · subst h; rfl
    · exact List.set_comm none none h
theorem wipeE_idem (ρ : Env) : ∀ vs : List Nat, wipeE (wipeE ρ vs) vs = wipeE ρ vs
  | [] => rfl
  | w :: vs => by
    show (wipeE ((wipeE ρ vs).set w none) vs).set w none = (wipeE ρ vs).set w none
    rw [wipeE_set, wipeE_idem ρ vs]
    simp
section
variable {τ : Tau} {K : PySem.W.Frag} {B : Heap} {η : List Addr} {H : Hp} {σ : L2.St} {ρ : Env}
theorem SRel.wipe (h : SRel τ K B η H σ ρ) (vs : List Nat) : SRel τ K B η H (L2.wipe σ vs) (wipeE ρ vs) := by
  refine ⟨by rw [wipe_length, wipeE_length, h.len], fun i d e => ?_⟩
  obtain ⟨e1, e2⟩ := wipeE_some e
  obtain ⟨v, h1, h2⟩ := h.lookC i d e1
  exact ⟨v, by rw [wipe_out e2]; exact h1, h2⟩
theorem SRel.wipeR (h : SRel τ K B η H σ ρ) (vs : List Nat) : SRel τ K B η H σ (wipeE ρ vs) := by
  refine ⟨by rw [wipeE_length, h.len], fun i d e => h.lookC i d (wipeE_some e).1⟩
end
def lcF (src : Src) (ga : D → Env → M Env) (gt : Env → M Bool) (ge : Env → M D) (ρw : Env) : Nat → Nat → List D → M (List D)
  | 0, _, _ => M.fail
  | k + 1, i, acc => fun S => match src.at S i with
    | none => .bad
    | some none => .ok acc S
    | some (some d) => (ga d ρw >>= fun ρ1 => gt ρ1 >>= fun b => if b = true then ge ρ1 >>= fun y => if acc.length < SL then lcF src ga gt ge ρw k (i + 1) (acc ++ [y]) else M.fail else lcF src ga gt ge ρw k (i + 1) acc) S
def lcS (m : Bool) (ga : D → Env → M Env) (gt : Env → M Bool) (ge : Env → M D) (ρw : Env) (src : Src) : M D := fun S => (lcF src ga gt ge ρw (src.len S + 1) 0 [] >>= fun acc => newL m acc) S
theorem thnG {α : Type} {t : Sem α} {Q Q' : α → Shared → Prop} {M : Model} {A : Around} {P : Shared → Prop} {E : Value → Shared → Prop} {s : Shared} (h : wpAny M A t Q (fun _ s => P s ∧ False) s) (hQ : ∀ a s, Q a s → Q' a s) : wpAny M A t Q' E s := wpAny_mono h hQ fun _ _ z => False.elim z.2
def LRec (h : Heap) (D : Addr) (its : List Value) : Prop := ∃ n, h.get? D = some { cls := .type "list", dict := none, data := .seq its.toArray n, slots := #[] }
section
variable {X : Cx}
theorem lcd_core {pins : List (Addr × Obj)} {s : Shared} {σ : L2.St} {H : Hp} {ρ : Env} {η : List Addr} {S S' : Sto} {d : D} {elt tg iter : Expr} {ifs : List Expr} {scope : Scope} {own : List (Str × Nat)} {pos pos' : Pos} {m : Bool} {gi : Env → M Src} {ga : D → Env → M Env} {gt : Env → M Bool} {ge : Env → M D} {use : Option (Value → Sem Unit)} {Qf E : Value → Shared → Prop}
    (hc : X.calm = true) (hN : X.N.Nodup) (I : Inv X pins σ H s) (tk : τ.lo ≤ s.toks) (sr : SRel τ X.K X.base η H σ ρ) (st : StoOk τ X.K η H S) (hi : PID τ X tg iter gi) (ok : BlkOk X.N X.env.scope scope own)
    (hg : ∀ (s : Shared) (H : Hp) (C : Addr) (cl : List (Str × Addr)) (fp : List Addr), PGD τ (X.blk s H scope (compEnvC scope cl C X.env) fp) tg ga)
    (hw : ∀ d ρ S ρ' S', ga d ρ S = .ok ρ' S' → wipeE ρ' (own.map (·.2)) = wipeE ρ (own.map (·.2)))
    (ht : ∀ (s : Shared) (H : Hp) (C : Addr) (cl : List (Str × Addr)) (fp : List Addr), PTD τ (X.blk s H scope (compEnvC scope cl C X.env) fp) ifs gt)
    (he : ∀ (s : Shared) (H : Hp) (C : Addr) (cl : List (Str × Addr)) (fp : List Addr), PD τ (X.blk s H scope (compEnvC scope cl C X.env) fp) elt ge) (hs : ∀ x, foldedSetIterable iter X.env x = pure x)
    (q : (gi ρ >>= lcS m ga gt ge (wipeE ρ (own.map (·.2)))) S = .ok d S')
    (hRR : ∀ L C s' mm η' H', Inv X pins σ H' s' → τ.lo ≤ s'.toks → Grow η H η' H' → StoOk τ X.K η' H' S' → Rep X.K η' H' d (.ref L) → s'.heap.Ns C mm → FpOk X pins H' C → compPost (model X.prog X.w) X.A E use Qf (.ref L) C (.ok .next) s') :
    wpAny (model X.prog X.w) X.A (comprehension (.ListComp elt [⟨tg, iter, ifs, 0⟩] scope pos) scope X.env pos' (newList []) false (eval iter X.env) use) Qf E s := by
  have hfree : ∀ y ∈ scope.names, y.2 = .free → ∃ c, X.env.cells.lookup y.1 = some c := fun y hy e => by
    rcases ok.free y hy e with k | k
    · exact I.ok.has _ (.inl k)
    · exact I.ok.has _ (.inr k)
  rw [bind_run] at q
  cases q1 : gi ρ S with
  | bad => rw [q1] at q; cases q
  | ok src S1 =>
    rw [q1] at q
    have q : (lcF src ga gt ge (wipeE ρ (own.map (·.2))) (src.len S1 + 1) 0 [] >>= fun acc => newL m acc) S1 = .ok d S' := q
    revert q
    generalize src.len S1 + 1 = fuel
    intro q
    refine wpAny_comprehension_free (use := use) rfl hs (closure_ok hfree) ok.kind (fun y hy e => by rw [ok.uniq y hy, e])
      (wpAny_mono (hi pins s σ H ρ η S src S1 I tk sr st q1) (fun xv s1 hx => wpAny_mono hx (fun itv s2 h2 => ?_) fun _ _ z => z.elim) fun _ _ z => z.elim)
    obtain ⟨tk2, η2, H2, it, fp, tn, J, e, I2, g2, st2, T, tn2, f2, dr⟩ := h2
    subst e
    refine wpAny_newObj_type (newEnv_comp ?_) (by show 0 ≤ sizeLine; decide)
    generalize hD : s2.heap.objs.size = L
    have hDn : H2 L = none := I2.hok.fresh (Nat.le_of_eq hD)
    generalize hs3 : ({ s2 with heap := s2.heap.push { cls := .type "list", data := .seq ([] : List Value).toArray } } : Shared) = s3
    have tk3 : τ.lo ≤ s3.toks := by rw [← hs3]; exact tk2
    have I3 : Inv X pins σ H2 s3 := by
      rw [← hs3]
      exact I2.kept (t' := s2.toks) (fun b o e => Heap.get?_push_of_some _ e)
    have h3 : s3.heap = s2.heap.push { cls := .type "list", data := .seq ([] : List Value).toArray } := by rw [← hs3]
    have rec3 : LRec s3.heap L [] := ⟨0, by rw [h3, ← hD]; exact Heap.get?_push_size _ rfl⟩
    have sz : ∀ b ∈ fp, b < s2.heap.objs.size := fun b hb => by
      obtain ⟨o, e, _⟩ := T.obj _ _ tn2 b hb
      exact Heap.lt_size e
    have f3 : ∀ b ∈ fp ++ [L], FpOk X pins H2 b ∧ b < s3.heap.objs.size := fun b hb => by
      rcases List.mem_append.mp hb with hb | hb
      · exact ⟨f2 b hb, by rw [h3, Heap.size_push]; exact Nat.lt_succ_of_lt (sz b hb)⟩
      · have e : b = L := by simpa using hb
        subst e
        exact ⟨I2.fpOk (Nat.le_of_eq hD) hDn, by rw [h3, Heap.size_push, hD]; exact Nat.lt_succ_self _⟩
    have hLfp : L ∉ fp := fun hb => by have := sz L hb; rw [hD] at this; exact Nat.lt_irrefl _ this
    have tn3 : tn 0 s3.heap := T.keep _ _ _ tn2 fun b _ o e => by rw [h3]; exact Heap.get?_push_of_some _ e
    have I4 := block_start I3 ok hN f3
    have pg := hg s3 H2 s3.heap.objs.size (cellsFrom (s3.heap.objs.size + 1) scope.names (cloFrom X.env.cells scope.names [])) (fp ++ [L])
    have pt := ht s3 H2 s3.heap.objs.size (cellsFrom (s3.heap.objs.size + 1) scope.names (cloFrom X.env.cells scope.names [])) (fp ++ [L])
    have pe := he s3 H2 s3.heap.objs.size (cellsFrom (s3.heap.objs.size + 1) scope.names (cloFrom X.env.cells scope.names [])) (fp ++ [L])
    show codeAny _ _ (.compStart (.ListComp elt [⟨tg, iter, ifs, 0⟩] scope pos) 0 (.ref it) (.ref L) (compEnvC scope (cellsFrom (s3.heap.objs.size + 1) scope.names (cloFrom X.env.cells scope.names [])) s3.heap.objs.size X.env)) (compPost (model X.prog X.w) X.A E use Qf (.ref L) s3.heap.objs.size) { s3 with heap := pushCells (s3.heap.push { cls := .type "dict", data := .dict #[] }) scope.names }
    generalize hce : compEnvC scope (cellsFrom (s3.heap.objs.size + 1) scope.names (cloFrom X.env.cells scope.names [])) s3.heap.objs.size X.env = ce at I4 pg pt pe ⊢
    have cL : ce.locals = s3.heap.objs.size := by subst hce; rfl
    generalize hs4 : ({ s3 with heap := pushCells (s3.heap.push { cls := .type "dict", data := .dict #[] }) scope.names } : Shared) = s4 at I4 ⊢
    have k4 : ∀ b o, s3.heap.get? b = some o → s4.heap.get? b = some o := fun b o e => by rw [← hs4]; exact pushCells_keeps _ _ _ _ (Heap.get?_push_of_some _ e)
    have tk4 : τ.lo ≤ s4.toks := by rw [← hs4]; exact tk3
    have tn4 : tn 0 s4.heap := T.keep _ _ _ tn3 fun b _ o e => k4 b o e
    have rec4 : LRec s4.heap L [] := let ⟨n, e⟩ := rec3; ⟨n, k4 _ _ e⟩
    generalize hfs : fp ++ [L] = fq at I4 pg pt pe f3
    have inq : ∀ {b}, b ∈ fp → b ∈ fq := fun hb => by rw [← hfs]; exact List.mem_append_left _ hb
    have inL : L ∈ fq := by rw [← hfs]; exact List.mem_append_right _ (by simp)
    have inv : ∀ {b}, b ∈ fq → b ∈ fp ∨ b = L := fun {b} hb => by
      rw [← hfs] at hb
      rcases List.mem_append.mp hb with hb | hb
      · exact .inl hb
      · exact .inr (by simpa using hb)
    have stat : ∀ {σ' : L2.St} {H' : Hp} {s' : Shared}, Inv (X.blk s3 H2 scope ce fq) [] σ' H' s' → (∀ b ∈ fq, H' b = none) → ∀ b ∈ fq, FpOk (X.blk s3 H2 scope ce fq) [] H' b := fun {σ' H' s'} I' hn b hb =>
      ⟨hn b hb, (I'.ok.exf b hb).1, I'.ok.exfs b hb, .inl hb, fun x c e => (I'.ok.exf b hb).2 x c e, fun p hp => absurd (show p ∈ ([] : List (Addr × Obj)) ++ [] from hp) (by simp)⟩
    have loop : codeAny (model X.prog X.w) X.A (.compLoop (.ListComp elt [⟨tg, iter, ifs, 0⟩] scope pos) 0 (.ref it) (.ref L) ce) (compPost (model X.prog X.w) X.A E use Qf (.ref L) s3.heap.objs.size) s4 := by
      refine compLoop_any (fun n s' => τ.lo ≤ s'.toks ∧ ∃ i σ' η' H' S2 acc vs its, Inv (X.blk s3 H2 scope ce fq) [] σ' H' s' ∧ tn i s'.heap ∧ (∀ b ∈ fq, H' b = none) ∧ Grow η2 H2 η' H' ∧ StoOk τ X.K η' H' S2 ∧ SRel τ X.K X.base η' H' σ' (wipeE ρ (own.map (·.2))) ∧ LRec s'.heap L its ∧ Vals vs its ∧ Reps X.K η' H' acc vs ∧ acc.length ≤ SL ∧
        (lcF src ga gt ge (wipeE ρ (own.map (·.2))) n i acc >>= fun acc => newL m acc) S2 = .ok d S') ?_ fuel ⟨tk4, 0, _, η2, H2, S1, [], [], [], I4, tn4, fun b hb => (f3 b hb).1.1, .refl _ _, st2, (sr.grow g2).wipe _, rec4, .nil, .nil, Nat.zero_le _, q⟩
      rintro n s5 ⟨tk5, i, σ5, η5, H5, S5, acc, vs, its, I5, tn5, n5, g5, st5, sr5, rec5, rv5, rd5, ln5, q5⟩
      -- the new list's record is pinned through the turn
      have obj5 : ∀ b ∈ [L], ∃ o, s5.heap.get? b = some o ∧ ∀ v, o.data ≠ .cell v := fun b hb => by
        have e : b = L := by simpa using hb
        subst e
        obtain ⟨n, e⟩ := rec5
        exact ⟨_, e, fun v h => by cases h⟩
      have Ip5 := I5.pinned (fp := [L]) (fun b hb => by
        have e : b = L := by simpa using hb
        subst e
        exact stat I5 n5 b inL) obj5
      have fp5 : ∀ b ∈ fp, FpOk (X.blk s3 H2 scope ce fq) ([] ++ pinsAt [L] s5.heap) H5 b := fun b hb => by
        obtain ⟨a1, a2, a3, a4, a5, a6⟩ := stat I5 n5 b (inq hb)
        refine ⟨a1, a2, a3, a4, a5, fun p hp => ?_⟩
        have hp : p ∈ pinsAt [L] s5.heap := by simpa using hp
        have : p.1 = L := by simpa using (of_pinsAt hp).1
        rw [this]
        exact fun z => hLfp (by rw [z]; exact hb)
      have recOf : ∀ {s' : Shared} {σ' : L2.St} {H' : Hp}, Inv (X.blk s3 H2 scope ce fq) ([] ++ pinsAt [L] s5.heap) σ' H' s' → LRec s'.heap L its := fun {s' σ' H'} I' => by
        obtain ⟨n, e⟩ := rec5
        exact ⟨n, (I'.pin (L, _) (List.mem_append_right _ (List.mem_append_right _ (mem_pinsAt (by simp) e)))).1⟩
      have noneOf : ∀ {s' : Shared} {σ' : L2.St} {H' : Hp}, Inv (X.blk s3 H2 scope ce fq) ([] ++ pinsAt [L] s5.heap) σ' H' s' → H' L = none := fun {s' σ' H'} I' => by
        obtain ⟨n, e⟩ := rec5
        exact (I'.pin (L, _) (List.mem_append_right _ (List.mem_append_right _ (mem_pinsAt (by simp) e)))).2.1
      cases n with
      | zero => cases q5
      | succ k =>
        rw [bind_run] at q5
        unfold lcF at q5
        rcases qa : src.at S5 i with _ | _ | d5
        · rw [qa] at q5
          cases q5
        · rw [qa] at q5
          have q5 : newL m acc S5 = .ok d S' := q5
          refine thnG (PySem.wpAny_toks (T.done (X.blk s3 H2 scope ce fq) rfl rfl rfl hc i _ s5 _ H5 (fun _ _ => False) Ip5 fp5 tn5 (dr.stop g5 st5 qa))) fun r s6 z => ?_
          obtain ⟨tk6, hr, I6⟩ := z
          subst hr
          have rec6 := recOf I6
          have hL5 : H5 L = none := n5 L inL
          obtain ⟨nn, e6⟩ := rec6
          have hokD : HOk X.prog X.w (upd H5 L (.lst vs)) s6.heap := fun b u e => by
            by_cases hb : b = L
            · subst hb
              rw [upd_same] at e
              cases e
              exact ⟨sl_le (by rw [← rd5.length]; exact ln5), its, nn, rv5, e6⟩
            · rw [upd_ne hb] at e
              exact (I6.hok b u e).stay (fun c v _ q => q) (fun c q => by rw [upd_ne (ne_of_none q hL5)]; exact q) fun c xs q => by rw [upd_ne (ne_of_none q hL5)]; exact q
          have unD : Un (frs X.stack) fq H2 (upd H5 L (.lst vs)) s3.heap s6.heap :=
            { keep := I6.base.keep
              slot := I6.base.slot
              free := fun b o e n hx => by rw [upd_ne (fun z => hx (by rw [z]; exact inL))]; exact I6.base.free b o e n hx
              there := I6.base.there
              tups := fun b xs e => by rw [upd_ne (ne_of_none (I6.base.tups b xs e) hL5)]; exact I6.base.tups b xs e
              frzs := fun b o u e => by rw [upd_ne (ne_of_none (I6.base.frzs b o u e) hL5)]; exact I6.base.frzs b o u e
              tbls := fun b ps e => by
                obtain ⟨mo, z⟩ := I6.base.tbls b ps e
                exact ⟨mo, by rw [upd_ne (ne_of_none z hL5)]; exact z⟩ }
          have I7 : Inv X pins σ (upd H5 L (.lst vs)) s6 := I3.call' (ch := fq) I6.os unD hokD I6.bare fun b hb => ⟨(f3 b hb).1.2.2.2.1, (f3 b hb).1.2.1, (f3 b hb).1.2.2.2.2.1, (f3 b hb).1.2.2.2.2.2⟩
          obtain ⟨η7, g7, st7, r7⟩ := good_newL st5 rd5 hL5 q5
          have nC : (upd H5 L (.lst vs)) s3.heap.objs.size = none := by
            have z : H5 ce.locals = none := I6.free
            rw [cL] at z
            rw [upd_ne (fun e => by have := (f3 L inL).2; rw [e] at this; exact Nat.lt_irrefl _ this)]
            exact z
          obtain ⟨mm, hn, _⟩ := I6.loc
          have hn : s6.heap.Ns ce.locals mm := hn
          rw [cL] at hn
          exact hRR L s3.heap.objs.size s6 mm η7 _ I7 (Nat.le_trans tk5 tk6) (g2.trans (g5.trans g7)) st7 r7 hn (I3.fpOk (Nat.le_refl _) nC)
        · rw [qa] at q5
          refine thnG (PySem.wpAny_toks (T.item (X.blk s3 H2 scope ce fq) rfl rfl rfl hc i _ s5 _ H5 (fun _ _ => False) Ip5 fp5 tn5 (dr.go g5 st5 qa))) fun r s6 z => ?_
          obtain ⟨tk6, u, hr, h6⟩ := z
          subst hr
          refine thnG (PySem.wpAny_toks h6) fun _ s7 z => ?_
          obtain ⟨tk7, x, H7, I7, r7, y7, tn7, n7⟩ := z
          have tk7 : τ.lo ≤ s7.toks := Nat.le_trans tk5 (Nat.le_trans tk6 tk7)
          obtain ⟨g7, st7, rd7⟩ := dr.yld g5 st5 qa y7
          have rec7 := recOf I7
          have nL7 : H7 L = none := noneOf I7
          have n7q : ∀ b ∈ fq, H7 b = none := fun b hb => by
            rcases inv hb with hb | rfl
            · exact n7 b hb
            · exact nL7
          have I7u := (I7.unpinned (pins := []))
          have obj7 : ∀ b ∈ fq, ∃ o, s7.heap.get? b = some o ∧ ∀ v, o.data ≠ .cell v := fun b hb => by
            rcases inv hb with hb | rfl
            · exact T.obj _ _ tn7 b hb
            · obtain ⟨n, e⟩ := rec7
              exact ⟨_, e, fun v h => by cases h⟩
          have I7' := I7u.pinned (stat I7u n7q) obj7
          simp only [bind_run] at q5
          have keyA := pg _ s7 σ5 H7 (wipeE ρ (own.map (·.2))) η5 S5 x u d5 I7' tk7 (sr5.grow g7) st7 r7 rd7
          cases qb : ga d5 (wipeE ρ (own.map (·.2))) S5 with
          | bad => rw [qb] at q5; cases q5
          | ok ρ8 S8 =>
            have hw8 := hw _ _ _ _ _ qb
            rw [qb] at q5 keyA
            refine wpAny_mono (keyA _) (fun _ s8 z => ?_) fun _ _ z => z
            obtain ⟨tk8, σ8, η8, H8, I8, g8, st8, sr8⟩ := z
            have keyT := pt _ s8 σ8 H8 ρ8 η8 S8 I8 tk8 sr8 st8
            simp only [bind_run] at q5
            cases qt : gt ρ8 S8 with
            | bad => rw [qt] at q5; cases q5
            | ok b S9 =>
              rw [qt] at q5 keyT
              refine wpAny_mono (keyT _) (fun b9 s9 z => ?_) fun _ _ z => z
              obtain ⟨tk9, σ9, η9, H9, I9, g9, st9, e9, eb⟩ := z
              subst e9 eb
              have sr9 : ∀ {η' : List Addr} {H' : Hp}, Grow η8 H8 η' H' → SRel τ X.K X.base η' H' σ9 (wipeE ρ (own.map (·.2))) := fun g => by
                have := (sr8.grow g).wipeR (own.map (·.2))
                rw [hw8, wipeE_idem] at this
                exact this
              have pin' : ∀ {s' : Shared} {σ' : L2.St} {H' : Hp}, Inv (X.blk s3 H2 scope ce fq) ([] ++ pinsAt fq s7.heap) σ' H' s' → ∀ b ∈ fq, ∀ o, s7.heap.get? b = some o → s'.heap.get? b = some o ∧ H' b = none := fun {s' σ' H'} I' b hb o e =>
                let z := I'.pin (b, o) (List.mem_append_right _ (List.mem_append_right _ (mem_pinsAt hb e)))
                ⟨z.1, z.2.1⟩
              cases b with
              | false =>
                simp only [Bool.false_eq_true, if_false] at q5 ⊢
                refine ⟨k, Nat.lt_succ_self _, tk9, i + 1, σ9, η9, H9, S9, acc, vs, its, I9.unpinned (pins := []), T.keep _ _ _ tn7 fun b hb o e => (pin' I9 b (inq hb) o e).1, fun b hb => ?_, g5.trans (g7.trans (g8.trans g9)), st9, sr9 g9, ?_, rv5, rd5.grow (g7.trans (g8.trans g9)), ln5, ?_⟩
                · obtain ⟨o, e, _⟩ := obj7 b hb
                  exact (pin' I9 b hb o e).2
                · obtain ⟨n, e⟩ := rec7
                  exact ⟨n, (pin' I9 L inL _ e).1⟩
                · rw [bind_run]; exact q5
              | true =>
                simp only [if_true] at q5 ⊢
                have keyE := pe _ s9 σ9 H9 ρ8 η9 S9 I9 tk9 (sr8.grow g9) st9
                simp only [bind_run] at q5
                cases qe : ge ρ8 S9 with
                | bad => rw [qe] at q5; cases q5
                | ok y S10 =>
                  rw [qe] at q5 keyE
                  refine wpAny_mono (keyE _) (fun z10 s10 z => ?_) fun _ _ z => z
                  obtain ⟨tk10, σ10, η10, H10, I10, g10, st10, e10, yv, ry, rdy⟩ := z
                  subst e10
                  obtain ⟨n7r, e7⟩ := rec7
                  have eL := pin' I10 L inL _ e7
                  by_cases hln : acc.length < SL
                  · simp only [hln, if_true] at q5
                    have hlv : its.length = acc.length := by rw [rd5.length, rv5.length]
                    refine PyProof.Rows.append_at (hsz := by rw [List.size_toArray, hlv]; exact Nat.le_of_lt (sl_lt hln)) eL.1 fun h' sb ho' => ?_
                    have I10u := I10.unpinned (pins := [])
                    have n10 : ∀ b ∈ fq, H10 b = none := fun b hb => by
                      obtain ⟨o, e, _⟩ := obj7 b hb
                      exact (pin' I10 b hb o e).2
                    obtain ⟨f0, f1, f2', f3', f4, f5⟩ := stat I10u n10 L inL
                    have I11 := I10u.turned (t' := s10.toks) (fun b o hb e => (sb.2 b hb).trans e) f0 f1 f3' f4 f5
                    refine ⟨k, Nat.lt_succ_self _, tk10, i + 1, _, η10, H10, S10, acc ++ [y], vs ++ [yv], its ++ [z10], I11, T.keep _ _ _ tn7 fun b hb o e => ?_, n10, g5.trans (g7.trans (g8.trans (g9.trans g10))), st10, sr9 (g9.trans g10), ⟨n7r + 1, ?_⟩, rv5.append (.cons ry .nil), (rd5.grow (g7.trans (g8.trans (g9.trans g10)))).append (.cons rdy .nil), by rw [List.length_append]; exact hln, ?_⟩
                    · exact (sb.2 b (fun z => hLfp (by rw [← z]; exact hb))).trans (pin' I10 b (inq hb) o e).1
                    · rw [ho']; simp
                    · rw [bind_run]; exact q5
                  · simp only [hln, if_false] at q5
                    cases q5
    exact codeAny_compStart_list loop (T.self X.A 0 _ _ _ tn4 loop)
/-- as a value -/
theorem pd_lc {elt tg iter : Expr} {ifs : List Expr} {scope : Scope} {own : List (Str × Nat)} {pos : Pos} {m : Bool} {gi : Env → M Src} {ga : D → Env → M Env} {gt : Env → M Bool} {ge : Env → M D} (hc : X.calm = true) (hN : X.N.Nodup) (hi : PID τ X tg iter gi) (ok : BlkOk X.N X.env.scope scope own)
    (hg : ∀ (s : Shared) (H : Hp) (C : Addr) (cl : List (Str × Addr)) (fp : List Addr), PGD τ (X.blk s H scope (compEnvC scope cl C X.env) fp) tg ga)
    (hw : ∀ d ρ S ρ' S', ga d ρ S = .ok ρ' S' → wipeE ρ' (own.map (·.2)) = wipeE ρ (own.map (·.2)))
    (ht : ∀ (s : Shared) (H : Hp) (C : Addr) (cl : List (Str × Addr)) (fp : List Addr), PTD τ (X.blk s H scope (compEnvC scope cl C X.env) fp) ifs gt)
    (he : ∀ (s : Shared) (H : Hp) (C : Addr) (cl : List (Str × Addr)) (fp : List Addr), PD τ (X.blk s H scope (compEnvC scope cl C X.env) fp) elt ge) (hs : ∀ x, foldedSetIterable iter X.env x = pure x) :
    PD τ X (.ListComp elt [⟨tg, iter, ifs, 0⟩] scope pos) (fun ρ => gi ρ >>= lcS m ga gt ge (wipeE ρ (own.map (·.2)))) := by
  intro pins s σ H ρ η S I tk sr st
  refine Out.never fun d S' q => ?_
  have q : (gi ρ >>= lcS m ga gt ge (wipeE ρ (own.map (·.2)))) S = .ok d S' := q
  generalize (fun (_ : Value) (_ : Shared) => False) = E
  show wpAny _ _ (eval _ _) _ _ _
  · rw [eval_ListComp]
    refine lcd_core hc hN I tk sr st hi ok hg hw ht he hs q fun L C s' mm η' H' I' tk' g' st' r' hn f => ⟨mm, hn, fun h'' sb => ?_⟩
    obtain ⟨f0, f1, f2, f3, f4, f5⟩ := f
    exact ⟨tk', σ, η', H', I'.turned (t' := s'.toks) (fun b o hb e => (sb.2 b hb).trans e) f0 f1 f3 f4 f5, g', st', rfl, V.ref L, rfl, r'⟩
/-- name = [..] on one line, the name a local -/
theorem psd_setLc {i : Nat} {y : Str} {py : Pos} {elt tg iter : Expr} {ifs : List Expr} {scope : Scope} {own : List (Str × Nat)} {pos spos : Pos} {m : Bool} {gi : Env → M Src} {ga : D → Env → M Env} {gt : Env → M Bool} {ge : Env → M D} (hc : X.calm = true) (hN : X.N.Nodup) (hy : X.N[i]? = some y) (hyl : X.env.scope.names.lookup y = some .local)
    (hsw : swapsWith (.ListComp elt [⟨tg, iter, ifs, 0⟩] scope pos) (some (.Name y py)) spos.line X.env = pure true) (hi : PID τ X tg iter gi) (ok : BlkOk X.N X.env.scope scope own)
    (hg : ∀ (s : Shared) (H : Hp) (C : Addr) (cl : List (Str × Addr)) (fp : List Addr), PGD τ (X.blk s H scope (compEnvC scope cl C X.env) fp) tg ga)
    (hw : ∀ d ρ S ρ' S', ga d ρ S = .ok ρ' S' → wipeE ρ' (own.map (·.2)) = wipeE ρ (own.map (·.2)))
    (ht : ∀ (s : Shared) (H : Hp) (C : Addr) (cl : List (Str × Addr)) (fp : List Addr), PTD τ (X.blk s H scope (compEnvC scope cl C X.env) fp) ifs gt)
    (he : ∀ (s : Shared) (H : Hp) (C : Addr) (cl : List (Str × Addr)) (fp : List Addr), PD τ (X.blk s H scope (compEnvC scope cl C X.env) fp) elt ge) (hs : ∀ x, foldedSetIterable iter X.env x = pure x) :
    PSD τ X (.Assign [.Name y py] (.ListComp elt [⟨tg, iter, ifs, 0⟩] scope pos) spos) (fun ρ => (gi ρ >>= lcS m ga gt ge (wipeE ρ (own.map (·.2)))) >>= fun d => pure (.next (ρ.set i (some d)))) := by
  intro pins s σ H ρ η S I tk sr st
  show Out τ X pins η H (relF τ X.K X.base) (((gi ρ >>= lcS m ga gt ge (wipeE ρ (own.map (·.2)))) >>= fun d => pure (.next (ρ.set i (some d)))) S) _ s
  rw [bind_run]
  cases q : (gi ρ >>= lcS m ga gt ge (wipeE ρ (own.map (·.2)))) S with
  | bad => exact trivial
  | ok d S' =>
    intro E
    show wpAny _ _ (exec _ _) _ _ _
    rw [exec_Assign_Name_used _ _ _ _ hsw]
    refine wpAny_bind (wpAny_standAt (wpAny_bind ?_))
    show wpAny _ X.A (do let _ ← comprehension (.ListComp elt [⟨tg, iter, ifs, 0⟩] scope pos) scope X.env (firstIterPos [⟨tg, iter, ifs, 0⟩] pos) (newList []) false (eval iter X.env) (some (assign (.Name y py) X.env))) _ _ s
    refine wpAny_bind (thn (lcd_core (Qf := fun _ s' => τ.lo ≤ s'.toks ∧ ∃ σ' η' H', Inv X pins σ' H' s' ∧ Grow η H η' H' ∧ StoOk τ X.K η' H' S' ∧ SRel τ X.K X.base η' H' σ' (ρ.set i (some d))) hc hN I tk sr st hi ok hg hw ht he hs q fun L C s' mm η' H' I' tk' g' st' r' hn f => ?_) fun _ s' hq => wpAny_pure (wpAny_pure hq))
    show wpAny _ _ (assign (.Name y py) X.env (.ref L)) _ _ _
    refine wpAny_assign_Name (wpAny_mono (PySem.wpAny_toks (store_ok2 (Q := fun _ s2 => Inv X pins (σ.set i (some (V.ref L))) H' s2 ∧ (∃ a, Heap.SameBut a s'.heap s2.heap ∧ (a = X.env.locals ∨ X.env.cells.lookup y = some a))) (v := V.ref L) I' hN hy (.inl hyl) rfl (fun s2 I2 z => ⟨I2, z⟩) (.inr hyl))) (fun _ s2 z => ?_) fun _ _ z => z.2)
    obtain ⟨tk2, I2, a, sb, ha⟩ := z
    obtain ⟨f0, f1, f2, f3, f4, f5⟩ := f
    have haC : C ≠ a := by
      rcases ha with z | z
      · rw [z]; exact f1
      · exact fun e => f4 y a z e.symm
    refine ⟨mm, hn.sameBut sb haC, fun h3 sb3 => ?_⟩
    exact ⟨Nat.le_trans tk' tk2, _, η', H', I2.turned (t' := s2.toks) (fun b o hb e => (sb3.2 b hb).trans e) f0 f1 f3 f4 f5, g', st', (sr.grow g').set r' i⟩
end
end MP

/-! MP14: several targets. -/
namespace MP
open PySem L2
def seqI (S : Sto) : D → Option (List D)
  | .tup xs => some xs
  | d => itemsR S d
theorem seqI_at {K : PySem.W.Frag} {η : List Addr} {H : Hp} {S : Sto} {d : D} {ds : List D} {x : V} (st : StoOk τ K η H S) (r : Rep K η H d x) (h : seqI S d = some ds) : ∃ a vs, x = .ref a ∧ (SqL K H a vs ∨ SqT K H a vs) ∧ Reps K η H ds vs := by
  cases r with
  | tup h1 h2 => cases h; exact ⟨_, _, rfl, .inr h1.sq, h2⟩
  | non => cases h
  | bl => cases h
  | int => cases h
  | str => cases h
  | dic => cases h
  | lst h1 h2 => obtain ⟨a, vs, e, h3, h4⟩ := itemsR_at st (.lst h1 h2) h; exact ⟨a, vs, e, .inl h3, h4⟩
  | frz h1 h2 => obtain ⟨a, vs, e, h3, h4⟩ := itemsR_at st (.frz h1 h2) h; exact ⟨a, vs, e, .inl h3, h4⟩
  | ref h1 => obtain ⟨a, vs, e, h3, h4⟩ := itemsR_at st (.ref h1) h; exact ⟨a, vs, e, .inl h3, h4⟩
def unpackD (n : Nat) (star : Option (Nat × Bool)) (d : D) : M (List D) := fun S => match seqI S d with
  | none => .bad
  | some xs => match star with
    | none => if xs.length = n then .ok xs S else .bad
    | some (i, m) => if i < n ∧ n ≤ xs.length + 1 then (newL m ((xs.drop i).take (xs.length + 1 - n)) >>= fun l => pure (xs.take i ++ [l] ++ (xs.drop i).drop (xs.length + 1 - n))) S else .bad
theorem unpackD_len {n : Nat} {star : Option (Nat × Bool)} {d : D} {S S' : Sto} {ds : List D} (h : unpackD n star d S = .ok ds S') : ds.length = n := by
  unfold unpackD at h
  cases q : seqI S d with
  | none => rw [q] at h; cases h
  | some xs =>
    rw [q] at h
    cases star with
    | none =>
      dsimp only at h
      split at h
      · cases h; assumption
      · cases h
    | some p =>
      obtain ⟨i, m⟩ := p
      dsimp only at h
      split at h
      · rename_i hh
        rw [bind_run] at h
        unfold newL at h
        cases m <;> simp at h <;> (obtain ⟨h, _⟩ := h; subst h; simp; omega)
      · cases h
section
variable {X : Cx}
theorem Vals.take' {vs : List V} {us : List Value} (h : Vals vs us) : ∀ n : Nat, Vals (vs.take n) (us.take n) := by
  induction h with
  | nil => intro n; simp; exact .nil
  | cons a b ih =>
    intro n
    cases n with
    | zero => exact .nil
    | succ n => exact .cons a (ih n)
theorem Vals.drop' {vs : List V} {us : List Value} (h : Vals vs us) : ∀ n : Nat, Vals (vs.drop n) (us.drop n) := by
  induction h with
  | nil => intro n; simp; exact .nil
  | cons a b ih =>
    intro n
    cases n with
    | zero => exact .cons a b
    | succ n => exact ih n
/-- the items drawn, one list made of those between -/
theorem star_items {A : Around} {E : Value → Shared → Prop} {s : Shared} {l : Addr} {items : Array Value} {n i : Nat} {Q : List Value → Shared → Prop} (hl : s.heap.IsList l items ∨ PyProof.Rows.IsTup s.heap l items) (hh : A.handled = none) (hi : i < n) (hn : n ≤ items.size + 1) (hz : items.size ≤ sizeLine)
    (h : ∀ h' tk, Heap.ExtBut s.heap.objs.size s.heap h' →
      Q (items.toList.take i ++ [.ref h'.objs.size] ++ (items.toList.drop i).drop (items.size + 1 - n)) { s with heap := h'.push { cls := .type "list", data := .seq ((items.toList.drop i).take (items.size + 1 - n)).toArray }, toks := tk }) :
    wpAny (model X.prog X.w) A (unpackItems (.ref l) n (some i)) Q E s := by
  have hll : l < s.heap.objs.size := by rcases hl with ⟨o, ho, _⟩ | ⟨o, ho, _⟩ <;> exact Heap.lt_size ho
  have hlt : l ≠ s.heap.objs.size := Nat.ne_of_lt hll
  have hrl : (items.toList.drop i).length = items.size - i := by rw [List.length_drop, Array.length_toList]
  have hmid : (items.toList.drop i).length - (n - 1 - i) = items.size + 1 - n := by rw [hrl]; omega
  have hfl : (items.toList.take i).length = i := by rw [List.length_take, Array.length_toList]; omega
  have fin : ∀ (h₂ : Heap) (tk : Nat), Heap.ExtBut s.heap.objs.size s.heap h₂ →
      wpAny (model X.prog X.w) A (newList ((items.toList.drop i).take (items.size + 1 - n)) >>= fun d => pure (items.toList.take i ++ [d] ++ (items.toList.drop i).drop (items.size + 1 - n))) Q E { s with heap := h₂, toks := tk } := fun h₂ tk he =>
    wpAny_bind (wpAny_newObj_type (wpAny_pure (h h₂ tk he)) (by show (List.take _ _).length ≤ _; rw [List.length_take, hrl]; omega))
  unfold unpackItems
  refine wpAny_bind ?_
  unfold notIterableAtAll
  rcases hl with hl | hl
  · refine wpAny_bind (wpAny_specialOf hl.typeIs slot_list_iter.lookup ?_)
    refine wpAny_pure ?_
    simp only [Bool.false_eq_true, if_false]
    refine wpAny_bind (wpAny_holding (wpAny_pyIter_list hl ?_))
    refine wpAny_bind (wpAny_holding (PySem.W.kun_draw hlt i 0 _ _ ⟨_, Heap.get?_push_size _ rfl, rfl, rfl⟩ (hl.push _) (by omega) fun h₁ hit₁ hs₁ => ?_))
    have hl₁ : h₁.IsList l items := (hl.push _).extBut hs₁.extBut hlt
    rw [Nat.zero_add] at hit₁
    have hit₁' := hit₁
    obtain ⟨oi, hoi, _⟩ := hit₁'
    have hl₁' := hl₁
    obtain ⟨ol, hol, _⟩ := hl₁'
    rw [List.drop_zero]
    rw [if_neg (show ¬ ((items.toList.take i).length < i) by rw [hfl]; omega)]
    refine wpAny_bind (wpAny_holding (PySem.W.kun_collect (s := { s with heap := h₁ }) (T := "list_iterator") (.inr (.inr (.inl rfl))) (Walks.list (A := A.in1) hh s.heap.objs.size l hlt items) (fun j u st => st.1.typeIs) (k := i) (by omega) ⟨hit₁, hl₁⟩ (Heap.lt_size hoi) (Heap.lt_size hol) (fun h₂ tk hk => ?_) hz))
    show wpAny _ _ (if (items.toList.drop i).length < n - 1 - i then _ else _) _ _ _
    rw [if_neg (by rw [hrl]; omega)]
    show wpAny _ _ (newList ((items.toList.drop i).take ((items.toList.drop i).length - (n - 1 - i))) >>= fun d => pure (items.toList.take i ++ [d] ++ (items.toList.drop i).drop ((items.toList.drop i).length - (n - 1 - i)))) _ _ _
    rw [hmid]
    exact fin h₂ tk (fun b o hb e => hk b o hb (hs₁.extBut b o hb (Heap.get?_push_of_some _ e)))
  · refine wpAny_bind (wpAny_specialOf hl.typeIs PyProof.Rows.slot_tuple_iter.lookup ?_)
    refine wpAny_pure ?_
    simp only [Bool.false_eq_true, if_false]
    refine wpAny_bind (wpAny_holding (PyProof.Rows.iter_tuple hl ?_))
    refine wpAny_bind (wpAny_holding (PyProof.Rows.draw_tuple hlt i 0 _ _ ⟨_, Heap.get?_push_size _ rfl, rfl, rfl⟩ (hl.push _) (by omega) fun h₁ hit₁ hs₁ => ?_))
    have hl₁ : PyProof.Rows.IsTup h₁ l items := (hl.push _).extBut hs₁.extBut hlt
    rw [Nat.zero_add] at hit₁
    have hit₁' := hit₁
    obtain ⟨oi, hoi, _⟩ := hit₁'
    have hl₁' := hl₁
    obtain ⟨ol, hol, _⟩ := hl₁'
    rw [List.drop_zero]
    rw [if_neg (show ¬ ((items.toList.take i).length < i) by rw [hfl]; omega)]
    refine wpAny_bind (wpAny_holding (PySem.W.kun_collect (s := { s with heap := h₁ }) (T := "tuple_iterator") (.inr (.inr (.inr rfl))) (Walks.tuple (A := A.in1) hh s.heap.objs.size l hlt items) (fun j u st => st.1.typeIs) (k := i) (by omega) ⟨hit₁, hl₁⟩ (Heap.lt_size hoi) (Heap.lt_size hol) (fun h₂ tk hk => ?_) hz))
    show wpAny _ _ (if (items.toList.drop i).length < n - 1 - i then _ else _) _ _ _
    rw [if_neg (by rw [hrl]; omega)]
    show wpAny _ _ (newList ((items.toList.drop i).take ((items.toList.drop i).length - (n - 1 - i))) >>= fun d => pure (items.toList.take i ++ [d] ++ (items.toList.drop i).drop ((items.toList.drop i).length - (n - 1 - i)))) _ _ _
    rw [hmid]
    exact fin h₂ tk (fun b o hb e => hk b o hb (hs₁.extBut b o hb (Heap.get?_push_of_some _ e)))
/-- unpacking, as an operation -/
theorem unpack_ok {pins : List (Addr × Obj)} {s : Shared} {σ : L2.St} {H : Hp} {η : List Addr} {S : Sto} {v : V} {u : Value} {d : D} {n : Nat} {star : Option (Nat × Bool)} (hc : X.calm = true) (I : Inv X pins σ H s) (tk : τ.lo ≤ s.toks) (st : StoOk τ X.K η H S) (r : RelV v u) (rd : Rep X.K η H d v) :
    Out τ X pins η H (relL X.K σ) (unpackD n star d S) (sem X (unpackItems u n (star.map (·.1)))) s := by
  unfold unpackD
  cases q : seqI S d with
  | none => trivial
  | some xs =>
    obtain ⟨a, vs, rfl, hq, hr⟩ := seqI_at st rd q
    cases r
    have hseq : ∃ its : List Value, Vals vs its ∧ (s.heap.IsList a its.toArray ∨ PyProof.Rows.IsTup s.heap a its.toArray) ∧ vs.length ≤ sizeLine := by
      rcases hq with hq | hq
      · obtain ⟨its, rv, p, hz⟩ := I.list hq
        exact ⟨its, rv, .inl p.isList, hz⟩
      · obtain ⟨its, rv, p, hz⟩ := I.tuple hq
        exact ⟨its, rv, .inr p, hz⟩
    obtain ⟨its, rv, hl, hz⟩ := hseq
    have hlen : its.length = xs.length := by rw [hr.length, rv.length]
    cases star with
    | none =>
      dsimp only
      by_cases hn : xs.length = n
      · rw [if_pos hn]
        subst hn
        intro E
        show wpAny _ _ (unpackItems (.ref a) xs.length none) _ _ _
        have e : xs.length = its.toArray.size := by rw [List.size_toArray, hlen]
        rw [e]
        have fin : ∀ h', Heap.ExtBut s.heap.objs.size s.heap h' → τ.lo ≤ s.toks ∧ ∃ σ' η' H', Inv X pins σ' H' { s with heap := h' } ∧ Grow η H η' H' ∧ StoOk τ X.K η' H' S ∧ relL X.K σ σ' η' H' xs its.toArray.toList := fun h' hx => by
          refine ⟨tk, σ, η, H, I.kept (t' := s.toks) fun b o e => hx b o (Nat.ne_of_lt (Heap.lt_size e)) e, .refl _ _, st, rfl, vs, ?_, hr⟩
          simpa using rv
        rcases hl with hl | hl
        · exact PySem.W.kun_itemsOf (I.ok.hd hc) hl fin
        · exact PyProof.Rows.unpackItems_tuple (I.ok.hd hc) hl fin
      · rw [if_neg hn]; trivial
    | some p =>
      obtain ⟨i, m⟩ := p
      dsimp only
      by_cases hn : i < n ∧ n ≤ xs.length + 1
      · rw [if_pos hn, bind_run]
        cases q2 : newL m ((xs.drop i).take (xs.length + 1 - n)) S with
        | bad => trivial
        | ok l S' =>
          intro E
          show wpAny _ _ (unpackItems (.ref a) n (some i)) _ _ _
          refine wpAny_mono (PySem.wpAny_toks (Q := fun us s' => ∃ σ' η' H', Inv X pins σ' H' s' ∧ Grow η H η' H' ∧ StoOk τ X.K η' H' S' ∧ relL X.K σ σ' η' H' (xs.take i ++ [l] ++ (xs.drop i).drop (xs.length + 1 - n)) us) (star_items hl (I.ok.hd hc) hn.1 (by rw [List.size_toArray, hlen]; exact hn.2) (by rw [List.size_toArray, ← rv.length]; exact hz) fun h' tk' hx => ?_)) (fun us s' z => ⟨Nat.le_trans tk z.1, z.2⟩) fun _ _ z => z.2
          have I1 : Inv X pins σ H { s with heap := h', toks := tk' } := I.kept fun b o e => hx b o (Nat.ne_of_lt (Heap.lt_size e)) e
          have hp := I1.hok.fresh (Nat.le_refl h'.objs.size)
          have e : its.toArray.size = xs.length := by rw [List.size_toArray, hlen]
          rw [e]
          have rm : Reps X.K η H ((xs.drop i).take (xs.length + 1 - n)) ((vs.drop i).take (xs.length + 1 - n)) := (hr.drop i).take _
          obtain ⟨η1, g1, st1, r1⟩ := good_newL st rm hp q2
          refine ⟨σ, η1, _, I1.laid (t' := tk') (o := .lst ((vs.drop i).take (xs.length + 1 - n))) (fun b ob q => Heap.get?_push_of_some _ q) (Nat.le_refl _) ⟨?_, _, 0, Vals.take' (Vals.drop' rv i) _, Heap.get?_push_size _ rfl⟩, g1, st1, rfl, vs.take i ++ [.ref h'.objs.size] ++ (vs.drop i).drop (xs.length + 1 - n), ?_, ?_⟩
          · rw [List.length_take, List.length_drop]
            exact Nat.le_trans (Nat.min_le_right _ _) (Nat.le_trans (Nat.sub_le _ _) hz)
          · exact ((Vals.take' rv i).append (.cons (show RelV (.ref h'.objs.size) (.ref h'.objs.size) from rfl) .nil)).append (Vals.drop' (Vals.drop' rv i) _)
          · exact ((hr.grow g1).take i |>.append (.cons r1 .nil)).append (((hr.grow g1).drop i).drop _)
      · rw [if_neg hn]; trivial
/-! ### targets in a row -/
theorem pgds_nil : PGDs τ X [] (asgs []) := by
  intro pins s σ H ρ η S vs us ds I tk sr st rv rd
  cases rd with
  | nil => cases rv; exact fun E => PyProof.Rows.assignInOrder_nil ⟨tk, σ, η, H, I, .refl _ _, st, sr⟩
  | cons _ _ => trivial
theorem pgds_cons {t : Expr} {ts : List Expr} {b : Bool} {g : D → Env → M Env} {gs : List (D → Env → M Env)} {t' : Expr} (ht : PGD τ X t' g) (hts : PGDs τ X ts (asgs gs)) (he : assignEach (t :: ts) X.env = (b, assign t' X.env) :: assignEach ts X.env) : PGDs τ X (t :: ts) (asgs (g :: gs)) := by
  intro pins s σ H ρ η S vs us ds I tk sr st rv rd
  rw [he]
  cases rd with
  | nil => trivial
  | cons r1 rr =>
    cases rv with
    | cons v1 vr =>
      refine Out.seq (t1 := assign t' X.env _) (W2 := fun _ => sem X (PySem.assignInOrder ((assignEach ts X.env).map (·.2)) _)) (fun Q E h => PyProof.Rows.assignInOrder_cons h) (ht pins s σ H ρ η S _ _ _ I tk sr st v1 r1) ?_
      intro _ s1 σ1 η1 H1 ρ1 S1 _ tk1 I1 g1 st1 sr1
      exact Out.back (mono_sem _) g1 (hts pins s1 σ1 H1 ρ1 η1 S1 _ _ _ I1 tk1 sr1 st1 vr (rr.grow g1))
theorem assign_tup_any {M : Model} {A : Around} {env : PySem.Env} {ts : List Expr} {k : Nat} {pos : Pos} {u : Value} {n : Nat} {o : Option Nat} {Q : Unit → Shared → Prop} {E : Value → Shared → Prop} {s : Shared} (hn : (assignEach ts env).length = n) (hst : (assignEach ts env).findIdx? (·.1) = o)
    (h : wpAny M A (unpackItems u n o) (fun us s' => wpAny M A (PySem.assignInOrder ((assignEach ts env).map (·.2)) us) Q E s') E s) : wpAny M A (assign (.Tuple ts k pos) env u) Q E s := by
  rw [PyProof.Rows.assign_Tuple]
  refine wpAny_bind (wpAny_standAt ?_)
  unfold unpack
  rw [hn, hst]
  exact wpAny_bind (wpAny_holding h)
/-- (a, b, ..) = .. -/
theorem pgd_tup {ts : List Expr} {k : Nat} {pos : Pos} {n : Nat} {star : Option (Nat × Bool)} {gs : List (D → Env → M Env)} (hc : X.calm = true) (hts : PGDs τ X ts (asgs gs)) (hn : (assignEach ts X.env).length = n) (hst : (assignEach ts X.env).findIdx? (·.1) = star.map (·.1)) :
    PGD τ X (.Tuple ts k pos) (fun d ρ => unpackD n star d >>= fun ds => asgs gs ds ρ) := by
  intro pins s σ H ρ η S v u d I tk sr st r rd
  have h1 := unpack_ok (n := n) (star := star) hc I tk st r rd
  have h2 : ∀ us s1 σ1 η1 H1 ds S1, unpackD n star d S = .ok ds S1 → τ.lo ≤ s1.toks → Inv X pins σ1 H1 s1 → Grow η H η1 H1 → StoOk τ X.K η1 H1 S1 → relL X.K σ σ1 η1 H1 ds us → Out τ X pins η H (relE τ X.K X.base) (asgs gs ds ρ S1) (sem X (PySem.assignInOrder ((assignEach ts X.env).map (·.2)) us)) s1 := by
    intro us s1 σ1 η1 H1 ds S1 _ tk1 I1 g1 st1 z
    obtain ⟨e1, vs, rv, rds⟩ := z
    rw [e1] at I1
    exact Out.back (mono_sem _) g1 (hts pins s1 _ H1 ρ η1 S1 vs us ds I1 tk1 (sr.grow g1) st1 rv rds)
  show Out τ X pins η H (relE τ X.K X.base) ((unpackD n star d >>= fun ds => asgs gs ds ρ) S) (sem X (assign (.Tuple ts k pos) X.env u)) s
  generalize unpackD n star d = m at h1 h2 ⊢
  exact Out.seq (fun Q E h => assign_tup_any hn hst h) h1 h2
end
end MP

/-! MP15: xs[::-1], replace, dict displays, globals, several names at once. -/
namespace MP
open PySem L2
/-! ### [::-1] -/
def revE (m : Bool) (d : D) : M D := match d with
  | .tup xs => pure (.tup xs.reverse)
  | d => fun S => match itemsR S d with
    | some xs => newL m xs.reverse S
    | none => .bad
section
variable {prog : Program} {w : World} {A : Around} {E : Value → Shared → Prop} {s : Shared}
theorem rev_pick (xs : Array Value) : ((List.range xs.size).filterMap fun (m : Nat) => xs[(((xs.size : Int) - 1) + (m : Int) * -1).toNat]?).toArray = xs.toList.reverse.toArray := by
  have h := PySem.W.krv_pick xs
  unfold slicePick at h
  rw [PySem.W.krv_bounds] at h
  have h : ((sliceRange ((xs.size : Int) - 1) (-1) (-1)).filterMap (xs[·]?)).toArray = xs.toList.reverse.toArray := h
  rw [PySem.W.krv_sliceRange, List.filterMap_map] at h
  rw [← h]
  congr 1
  have go : ∀ l : List Nat, (∀ k ∈ l, k < xs.size) → (l.filterMap fun (m : Nat) => xs[(((xs.size : Int) - 1) + (m : Int) * -1).toNat]?) = l.filterMap ((fun x => xs[x]?) ∘ fun k => xs.size - 1 - k) := by
    intro l
    induction l with
    | nil => intro _; rfl
    | cons k l ih =>
      intro hl
      have hk := hl k (by simp)
      have e : (((xs.size : Int) - 1) + (k : Int) * -1).toNat = xs.size - 1 - k := by omega
      simp only [List.filterMap_cons, Function.comp, e]
      rw [ih fun x hx => hl x (by simp [hx])]
  exact go _ fun k hk => List.mem_range.mp hk
theorem getItem_tuple_rev {t sl : Addr} {items : Array Value} {vs : Value} {Q : Value → Shared → Prop} (ht : PyProof.Rows.IsTup s.heap t items) (hs : s.heap.IsSliceOf sl .none .none vs) (ps : IsPart vs (some (-1)))
    (h : Q (.ref s.heap.objs.size) { s with heap := s.heap.push { cls := .type "tuple", data := .seq items.toList.reverse.toArray } })
    (hsz : items.size ≤ sizeLine) : wpAny (model prog w) A (getItem (.ref t) (.ref sl)) Q E s := by
  have htake : sizeOk (.seq items.toList.reverse.toArray) := by
    show items.toList.reverse.toArray.size ≤ sizeLine
    rw [List.size_toArray, List.length_reverse, Array.length_toList]
    exact hsz
  obtain ⟨os, hos, hcs, hds⟩ := id hs
  have hTs : s.TypeIs (.ref sl) "slice" := ⟨os, hos, hcs⟩
  cases ps with
  | int i tt =>
  unfold getItem
  try with_reducible refine wpAny_holding ?_
  first | refine wpAny_bind (wpAny_pure ?_) | skip
  refine wpAny_bind (wpAny_sequenceKey ht.typeIs (by decide) ?_)
  refine wpAny_bind (wpAny_callSpecial?_slot (name := Str.ofString "__getitem__") ht.typeIs PyProof.Rows.slot_tuple_getitem
    (wpAny_call_entry PyProof.Rows.slot_tuple_getitem ht.typeIs PyProof.Rows.entry_tuple_getitem ?_ (PyProof.Rows.args_tuple_getitem _ _)))
  show wpAny _ _ (Builtin.Tuple.tupleItemsOf (.ref t) >>= _) _ _ s
  refine wpAny_bind (PyProof.Rows.tupleItemsOf_ ht ?_)
  refine wpAny_bind (wpAny_typeOf hTs ?_)
  rw [if_pos (by decide)]
  refine wpAny_bind ?_
  unfold Builtin.Slice.sliceApplied Builtin.Slice.sliceFields
  refine wpAny_bind (wpAny_bind (wpAny_field hos hds (x := .none) rfl (wpAny_bind (wpAny_field hos hds (x := .none) rfl (wpAny_bind (wpAny_field hos hds (x := .int (-1) tt) rfl (wpAny_pure ?_)))))))
  refine wpAny_bind (PyProof.Rows.slicePart_int ?_)
  show wpAny _ _ (if ((-1 : Int) == 0) = true then _ else _) _ _ s
  rw [if_neg (by decide)]
  refine wpAny_bind (PyProof.Rows.slicePart_none (wpAny_bind (PyProof.Rows.slicePart_none (wpAny_bind (wpAny_pure ?_)))))
  have ea : Builtin.Slice.sliceAdjust none none (-1) (items.size : Int) = ((items.size : Int) - 1, -1) := rfl
  show wpAny _ _ (match Builtin.Slice.sliceAdjust none none (-1) (items.size : Int) with | (lo, hi) => pure (lo, (-1 : Int), Builtin.Slice.slicePlaces lo hi (-1))) _ _ s
  rw [ea]
  have ep : Builtin.Slice.slicePlaces ((items.size : Int) - 1) (-1) (-1) = items.size := by
    unfold Builtin.Slice.slicePlaces
    have h1 : ¬ ((-1 : Int) > 0) := by decide
    simp only [h1, if_false]
    by_cases hz : (items.size : Int) - 1 > -1
    · simp only [hz, if_true]
      rw [show (- -1 : Int) = 1 by decide, Int.ediv_one]
      omega
    · simp only [hz, if_false]
      omega
  show wpAny _ _ (pure ((items.size : Int) - 1, (-1 : Int), Builtin.Slice.slicePlaces ((items.size : Int) - 1) (-1) (-1))) _ _ s
  rw [ep]
  refine wpAny_pure ?_
  have hno : ¬ ((((items.size : Int) - 1) == 0 && (-1 : Int) == 1 && items.size == items.size) = true) := by
    have : ((-1 : Int) == 1) = false := by decide
    rw [this, Bool.and_false, Bool.false_and]
    exact Bool.false_ne_true
  show wpAny _ _ (if (((items.size : Int) - 1) == 0 && (-1 : Int) == 1 && items.size == items.size) = true then _ else _) _ _ s
  rw [if_neg hno, rev_pick]
  first
    | exact wpAny_bind (m := Builtin.Tuple.tupleExact _) (wpAny_newObj_type (wpAny_pure ⟨_, rfl, wpAny_pure h⟩) htake)
    | exact wpAny_bind (m := Builtin.Tuple.tupleExact _) (wpAny_newObj_type (wpAny_bind (wpAny_pure (wpAny_pure ⟨_, rfl, wpAny_pure h⟩))) htake)
    | exact wpAny_bind (wpAny_bind (m := Builtin.Tuple.tupleExact _) (wpAny_newObj_type (wpAny_pure (wpAny_pure ⟨_, rfl, wpAny_pure h⟩)) htake))
    | exact wpAny_bind (wpAny_bind (m := Builtin.Tuple.tupleExact _) (wpAny_newObj_type (wpAny_pure ⟨_, rfl, wpAny_pure h⟩) htake))
end
section
variable {X : Cx} {e : Expr} {pos p1 p2 p3 : Pos}
theorem pd_rev {m : Bool} {ge : Env → M D} {k : Nat} (he : PD τ X e ge) : PD τ X (.Subscript e (.Slice none none (some (.UnaryOp .USub (.Constant (.int 1) k p1) p2)) p3) pos) (fun ρ => ge ρ >>= revE m) := by
  intro pins s σ H ρ η S I tk sr st
  refine Out.seq (t1 := eval e X.env) (W2 := fun v Q E s1 => wpAny (model X.prog X.w) X.A (evalPart none X.env) (fun vl s2 => wpAny (model X.prog X.w) X.A (evalPart none X.env) (fun vu s3 => wpAny (model X.prog X.w) X.A (evalPart (some (.UnaryOp .USub (.Constant (.int 1) k p1) p2)) X.env) (fun vs s4 =>
    wpAny (model X.prog X.w) X.A (PyProof.Rows.subscriptTail e (.Slice none none (some (.UnaryOp .USub (.Constant (.int 1) k p1) p2)) p3) v (.ref s4.heap.objs.size)) Q E { s4 with heap := s4.heap.push { cls := .type "slice", data := .fields #[vl, vu, vs] } }) E s3) E s2) E s1)
    (fun Q E h => PyProof.Rows.Subscript_ (wpAny_mono h (fun v s1 z => wpAny_Slice z) fun _ _ z => z)) (he pins s σ H ρ η S I tk sr st) ?_
  rintro v s1 σ1 η1 H1 d S1 _ tk1 I1 g1 st1 ⟨rfl, x, rx, rd⟩
  cases q : revE m d S1 with
  | bad => trivial
  | ok d' S' =>
    intro E
    rw [evalPart_none]
    refine wpAny_pure ?_
    refine wpAny_pure ?_
    have hst : PO (X.wish E) (some (.UnaryOp .USub (.Constant (.int 1) k p1) p2)) (tPart (tUn (rU fun i => .int (-i)) (tC (.int 1)))) := po_some (pe_un un_neg pe_int)
    refine wpAny_mono (PySem.wpAny_toks (hst.run pins s1 σ1 H1 (fun o H4 => o = some (-1) ∧ H4 = H1) (I1.wish E) ⟨1, rfl, -1, rfl, rfl, rfl⟩)) (fun vs s4 z => ?_) fun _ _ z => z.2
    obtain ⟨tk4, o, H4, I4, ps, eo, e4⟩ := z
    subst eo e4
    have I4 := I4.unwish
    have I5 : Inv X pins σ1 H4 { s4 with heap := s4.heap.push { cls := .type "slice", data := .fields #[.none, .none, vs] } } := I4.kept (t' := s4.toks) fun b ob q => Heap.get?_push_of_some _ q
    have seq : ∀ {p : Addr} {ds : List D} {us : List V}, x = .ref p → SqL X.K H4 p us → Reps X.K η1 H4 ds us → newL m ds.reverse S1 = .ok d' S' →
        wpAny (model X.prog X.w) X.A (PyProof.Rows.subscriptTail e (.Slice none none (some (.UnaryOp .USub (.Constant (.int 1) k p1) p2)) p3) v (.ref s4.heap.objs.size)) (fun u s' => τ.lo ≤ s'.toks ∧ ∃ σ' η' H', Inv X pins σ' H' s' ∧ Grow η H η' H' ∧ StoOk τ X.K η' H' S' ∧ relV X.K σ1 σ' η' H' d' u) E { s4 with heap := s4.heap.push { cls := .type "slice", data := .fields #[.none, .none, vs] } } := by
      intro p ds us ex hx hr hn
      subst ex
      cases rx
      obtain ⟨its, r, ht, hz⟩ := I5.list hx
      have hlen := r.length
      refine PyProof.Rows.tail_any (ops := [.ref p, .ref s4.heap.objs.size]) ht.isList.typeIs (PySem.slot_list_getitem.lookup) ?_ (by with_unfolding_all rfl)
      refine wpAny_getItem_list_slice ht.isList (Heap.IsSliceOf.new _ .none .none vs) .none .none ps (by decide) ?_ (by rw [List.size_toArray]; omega)
      rw [PySem.W.krv_pick]
      have hp := I5.hok.fresh (Nat.le_refl _)
      obtain ⟨η6, g6, st6, r6⟩ := good_newL st1 hr.reverse hp hn
      exact ⟨Nat.le_trans tk1 tk4, σ1, η6, _, I5.laid (t' := s4.toks) (o := .lst us.reverse) (fun b ob q => Heap.get?_push_of_some _ q) (Nat.le_refl _) ⟨by rw [List.length_reverse]; exact hz, _, 0, r.reverse, Heap.get?_push_size _ rfl⟩, g1.trans g6, st6, rfl, V.ref _, rfl, r6⟩
    cases rd with
    | @tup a us ds h1 h2 =>
      cases q
      cases rx
      obtain ⟨its, r, ht, hz⟩ := I5.tuple h1.sq
      refine PyProof.Rows.tail_any (ops := [.ref a, .ref s4.heap.objs.size]) ht.typeIs (PyProof.Rows.slot_tuple_getitem.lookup) ?_ (by with_unfolding_all rfl)
      refine getItem_tuple_rev ht (Heap.IsSliceOf.new _ .none .none vs) ps ?_ (by rw [List.size_toArray, ← r.length]; exact hz)
      have hp := I5.hok.fresh (Nat.le_refl _)
      obtain ⟨η6, g6, st6, r6⟩ := good_newT (S := S1) st1 h2.reverse hp
      exact ⟨Nat.le_trans tk1 tk4, σ1, η6, _, I5.laid (t' := s4.toks) (o := .tup us.reverse) (fun b ob q => Heap.get?_push_of_some _ q) (Nat.le_refl _) ⟨by rw [List.length_reverse]; exact hz, _, r.reverse, PyProof.Rows.IsTup.new _ _⟩, g1.trans g6, st6, rfl, V.ref _, rfl, r6⟩
    | lst h1 h2 => exact seq rfl h1.sq h2 q
    | frz h1 h2 => exact seq rfl h1.sq h2 q
    | @ref n a h1 =>
      have q : (match itemsR S1 (.ref n) with | some xs => newL m xs.reverse S1 | none => .bad) = .ok d' S' := q
      cases qa : itemsR S1 (.ref n) with
      | none => rw [qa] at q; cases q
      | some xs =>
        rw [qa] at q
        obtain ⟨a', us, e1, h3, h4⟩ := itemsR_at st1 (.ref h1) qa
        exact seq e1 h3 h4 q
    | _ => cases q
end
end MP

/-! MP16: several names at once, replace, dict displays, globals. -/
namespace MP
open PySem L2
def setsL : List Nat → List D → Env → Env
  | i :: is, d :: ds, ρ => setsL is ds (ρ.set i (some d))
  | _, _, ρ => ρ
def Slots (X : Cx) : List Str → List Nat → Prop
  | [], [] => True
  | x :: xs, i :: is => (X.N[i]? = some x ∧ X.env.scope.names.lookup x = some .local) ∧ Slots X xs is
  | _, _ => False
section
variable {X : Cx} {e : Expr} {pos : Pos}
theorem par_stores {pins : List (Addr × Obj)} {H : Hp} {η : List Addr} {S : Sto} {E : Value → Shared → Prop} (hN : X.N.Nodup) (st : StoOk τ X.K η H S) : ∀ (names : List Str) (is : List Nat) {us : List Value} {vs : List V} {ds : List D} {s : Shared} {σ : L2.St} {ρ : Env}, Slots X names is → Inv X pins σ H s → τ.lo ≤ s.toks → SRel τ X.K X.base η H σ ρ → Vals vs us → Reps X.K η H ds vs →
    wpAny (model X.prog X.w) X.A (PySem.assignInOrder (names.map fun n => bindName X.env n) us) (fun _ s' => τ.lo ≤ s'.toks ∧ ∃ σ', Inv X pins σ' H s' ∧ SRel τ X.K X.base η H σ' (setsL is ds ρ)) E s
  | [], [], us, vs, ds, s, σ, ρ, _, I, tk, sr, _, _ => by
    refine PyProof.Rows.assignInOrder_nil ⟨tk, σ, I, ?_⟩
    cases ds <;> exact sr
  | x :: xs, i :: is, us, vs, ds, s, σ, ρ, hs, I, tk, sr, rv, rd => by
    cases rd with
    | nil =>
      cases rv
      have e : PySem.assignInOrder ((x :: xs).map fun n => bindName X.env n) [] = pure () := rfl
      rw [e]
      exact wpAny_pure ⟨tk, σ, I, sr⟩
    | cons r1 rr =>
      cases rv with
      | cons v1 vr =>
        refine PyProof.Rows.assignInOrder_cons (wpAny_bindName (wpAny_mono (PySem.wpAny_toks (store_ok (Q := fun _ s' => Inv X pins (σ.set i (some _)) H s') I hN hs.1.1 (.inl hs.1.2) v1 (fun s' I' => I') (.inr hs.1.2))) (fun _ s1 z => ?_) fun _ _ z => z.2))
        exact par_stores hN st xs is hs.2 z.2 (Nat.le_trans tk z.1) (sr.set r1 i) vr rr
  | [], _ :: _, _, _, _, _, _, _, hs, _, _, _, _, _ => hs.elim
  | _ :: _, [], _, _, _, _, _, _, hs, _, _, _, _, _ => hs.elim
theorem Vals.reverse' {vs : List V} {us : List Value} (h : Vals vs us) : Vals vs.reverse us.reverse := h.reverse
theorem psd_par {tg value : Expr} {names : List Str} {is : List Nat} {ge : Env → M D} (hc : X.calm = true) (hN : X.N.Nodup) (hsl : Slots X names.reverse is.reverse) (he : PD τ X value ge) (hw : swappedStores [tg] value X.env = pure (some names)) (hs : swapsWithSole [tg] value pos.line X.env = pure false) :
    PSD τ X (.Assign [tg] value pos) (fun ρ => ge ρ >>= fun d => unpackD names.length none d >>= fun ds => pure (.next (setsL is.reverse ds.reverse ρ))) := by
  intro pins s σ H ρ η S I tk sr st
  have eT : ∀ Q E, wpAny (model X.prog X.w) X.A (eval value X.env) (fun v s' => wpAny (model X.prog X.w) X.A (unpackItems v names.length none) (fun us s2 => wpAny (model X.prog X.w) X.A (PySem.assignInOrder (names.reverse.map fun n => bindName X.env n) us.reverse) (fun _ => Q .next) E s2) E s') E s → wpAny (model X.prog X.w) X.A (exec (.Assign [tg] value pos) X.env) Q E s := fun Q E h => by
    rw [exec_Assign_arm]
    refine wpAny_bind (wpAny_standAt ?_)
    rw [hs]
    refine wpAny_bind (wpAny_pure ?_)
    rw [if_neg (by decide)]
    refine wpAny_bind (wpAny_mono h (fun v s1 h1 => ?_) fun _ _ z => z)
    rw [hw]
    refine wpAny_bind (wpAny_pure ?_)
    show wpAny (model X.prog X.w) X.A (do rule "assign.swapped-stores"; let items ← unpackItems v names.length none; PySem.assignInOrder (names.reverse.map fun n => bindName X.env n) items.reverse; pure Flow.next) _ _ _
    exact wpAny_bind (wpAny_rule (wpAny_bind (wpAny_mono h1 (fun us s2 h2 => wpAny_bind (wpAny_mono h2 (fun _ s3 h3 => wpAny_pure h3) fun _ _ z => z)) fun _ _ z => z)))
  refine Out.seq (t1 := eval value X.env) (W2 := fun v Q E s' => wpAny (model X.prog X.w) X.A (unpackItems v names.length none) (fun us s2 => wpAny (model X.prog X.w) X.A (PySem.assignInOrder (names.reverse.map fun n => bindName X.env n) us.reverse) (fun _ => Q .next) E s2) E s') eT (he pins s σ H ρ η S I tk sr st) ?_
  rintro v s1 σ1 η1 H1 d S1 _ tk1 I1 g1 st1 ⟨e1, x, rx, rd⟩
  rw [e1] at I1
  have h1 := unpack_ok (n := names.length) (star := none) hc I1 tk1 st1 rx rd
  show Out τ X pins η H (relF τ X.K X.base) ((unpackD names.length none d >>= fun ds => pure (.next (setsL is.reverse ds.reverse ρ))) S1) _ s1
  generalize unpackD names.length none d = m at h1 ⊢
  refine Out.back (fun Q Q' E s' hQ w => wpAny_mono w (fun _ s2 z => wpAny_mono z (fun _ s3 z => hQ _ _ z) fun _ _ z => z) fun _ _ z => z) g1 ?_
  refine Out.seq (t1 := unpackItems v names.length none) (W2 := fun us Q E s2 => wpAny (model X.prog X.w) X.A (PySem.assignInOrder (names.reverse.map fun n => bindName X.env n) us.reverse) (fun _ => Q .next) E s2) (fun Q E h => h) h1 ?_
  rintro us s2 σ2 η2 H2 ds S2 _ tk2 I2 g2 st2 ⟨e2, vs, rv, rds⟩
  intro E
  rw [e2] at I2
  refine wpAny_mono (par_stores hN st2 names.reverse is.reverse hsl I2 tk2 ((sr.grow g1).grow g2) rv.reverse rds.reverse) (fun _ s3 z => ?_) fun _ _ z => z
  obtain ⟨tk3, σ3, I3, sr3⟩ := z
  exact ⟨tk3, σ3, η2, H2, I3, g2, st2, sr3⟩

/-! ### globals -/
theorem pd_glob {x : Str} {d : D} {v : V} {u : Value} (hg : Gl X x) (hm : X.mg x = some u) (r : RelV v u) (hr : ∀ η H, Rep X.K η H d v) (hd : (x == ("__debug__" : Str)) = false) : PD τ X (.Name x pos) (fun _ => pure d) :=
  pd_const (fun _ _ => rfl) (fun E => pe_glob (X := X.wish E) hg hm r hd) hr

/-! ### replace with literals -/
def replD (y z : Str) (d : D) : M D := match d with
  | .str x => if x.length + (x.length + 1) * z.length ≤ 16777216 then pure (.str (Txt.replace x y z)) else M.fail
  | _ => M.fail
theorem pd_repl {o : Expr} {go : Env → M D} {y z : Str} {j k : Nat} {c0 c1 apos : Pos} (hτ : 1 ≤ τ.lo) (ho : PD τ X o go) (hyz : (y == z) = false) (hbase : attributeBase o "replace" X.env (eval o X.env) = eval o X.env) (hline : (apos.endLine == pos.line) = true) :
    PD τ X (.Call (.Attribute o "replace" apos) [.Constant (.str y) j c0, .Constant (.str z) k c1] [] pos) (fun ρ => go ρ >>= replD y z) := by
  intro pins s σ H ρ η S I tk sr st
  refine Out.never fun d S' q => ?_
  have q : (go ρ >>= replD y z) S = .ok d S' := q
  rw [bind_run] at q
  have key := ho pins s σ H ρ η S I tk sr st
  cases q1 : go ρ S with
  | bad => rw [q1] at q; cases q
  | ok d1 S1 =>
    rw [q1] at q key
    refine PySem.Call_method2 hbase rfl hline (wpAny_mono (key _) (fun v s1 zz => ?_) fun _ _ z => z)
    obtain ⟨tk1, σ1, η1, H1, I1, g1, st1, e1, x', rx, rd⟩ := zz
    subst e1
    cases rd with
    | str x =>
      obtain ⟨tx, e2⟩ := rx
      subst e2
      have q : (if x.length + (x.length + 1) * z.length ≤ 16777216 then pure (D.str (Txt.replace x y z)) else M.fail : M D) S1 = .ok d S' := q
      by_cases hb : x.length + (x.length + 1) * z.length ≤ 16777216
      · rw [if_pos hb] at q
        cases q
        refine ⟨"str", _, PySem.F.plainAttrs_str, PySem.F.slot_str_replace, PySem.F.type_str_replace, typeIs_str _ _ _, (fun _ e => nomatch e), Calls.callWith_builtin rfl (Calls.evalArgs_plain (Calls.spliced_cons ?_))⟩
        refine Calls.Constant_str (Calls.spliced_cons (Calls.Constant_str (Calls.spliced_nil ?_)))
        refine wpAny_mono (PySem.wpAny_toks (PySem.SC.replace (Q := fun u s' => ∃ σ' η' H', Inv X pins σ' H' s' ∧ Grow η H η' H' ∧ StoOk τ X.K η' H' S' ∧ relV X.K σ1 σ' η' H' (D.str (Txt.replace x y z)) u) (by show s1.toks ≠ 0; omega) (by show s1.toks + 1 ≠ 0; omega) (by show s1.toks ≠ s1.toks + 1; omega) hyz hb fun t' k => ⟨σ1, η1, H1, I1.tok k, g1, st1, rfl, .str _, ⟨t', rfl⟩, .str _⟩)) (fun u s' z => ⟨Nat.le_trans ?_ z.1, z.2⟩) fun _ _ z => z.2
        show τ.lo ≤ s1.toks + 1 + 1
        omega
      · rw [if_neg hb] at q; cases q
    | _ => cases q
/-! ### dict displays -/
theorem pd_dict0 : PD τ X (.Dict [] [] pos) (fun _ => pure (.dic [])) := by
  refine pd_of fun E σ H ρ η S d S' sr st q => ?_
  cases q
  exact ⟨_, pe_dnewK, fun p hp => ⟨η, grow_new st hp, st.laid hp, .dic ⟨upd_same, st.fresh hp⟩ .nil⟩⟩
theorem pd_dict1 {i : Nat} {x : Str} {k : Int} {j : Nat} {c0 p : Pos} (hi : i ∉ τ.cp) (hN : X.N[i]? = some x) (hv : Vis X.env.scope x) (hd : (x == ("__debug__" : Str)) = false) (hcd : (x == ("__classdict__" : Str)) = false) :
    PD τ X (.Dict [some (.Constant (.int k) j c0)] [.Name x p] pos) (fun ρ => M.of ((ρ[i]?).bind id) >>= fun d => pure (.dic [(.inl k, d)])) := by
  refine pd_of fun E σ H ρ η S d S' sr st q => ?_
  have q : (M.of ((ρ[i]?).bind id) >>= fun d => pure (.dic [(.inl k, d)]) : M D) S = .ok d S' := q
  rw [bind_run] at q
  cases q0 : ρ[i]? with
  | none => rw [q0] at q; cases q
  | some o =>
    cases o with
    | none => rw [q0] at q; cases q
    | some d0 =>
      rw [q0] at q
      cases q
      obtain ⟨v, h1, h2⟩ := sr.look i d0 hi q0
      refine ⟨_, pe_disp (pps_cons (pe_int (X := X.wish E)) (pe_var (X := X.wish E) hN hv hd hcd) pps_nil) rfl rfl (by simp) (by simp), fun p hp => ?_⟩
      refine ⟨v, h1, upd_same, [(.inl k, v)], rfl, by simp, η, ?_⟩
      have e : upd (upd H p (.dK [])) p (.dK (mergeK [] [(.inl k, v)])) = upd H p (.dK [(.inl k, v)]) := by
        funext a
        unfold upd
        split <;> rfl
      rw [e]
      exact ⟨grow_new st hp, st.laid hp, .dic ⟨upd_same, st.fresh hp⟩ (.cons (h2.grow (grow_new st hp)) .nil)⟩
end
end MP

/-! MP16a: enumerate of a tuple. -/
namespace MP
open PySem L2 PyProof.Rows
/-! ### made -/
abbrev enuO (it : Addr) : Obj := { cls := .type "enumerate", data := .fields #[.none, .bool false, .ref it, rawInt 0, .none, .none] }
abbrev tupItO (t : Addr) : Obj := { cls := .type "tuple_iterator", data := .fields #[.ref t, .int 0 0] }
theorem enu_newT (t : Addr) (items : Array Value) :
    Meets (Builtin.«enumerate.__new__» ⟨[.type "enumerate", .ref t], []⟩) (fun _ R s => (∃ o, s.heap.get? t = some o ∧ o.cls = .type "tuple" ∧ ∃ n, o.data = .seq items n) ∧
      R (.ok (.ret (.ref (s.heap.objs.size + 1)))) { s with heap := (s.heap.push (tupItO t)).push (enuO s.heap.objs.size) }) := by
  refine .of_wp fun prog w A R s h => ?_
  obtain ⟨hp, g, d, tk, os⟩ := s
  obtain ⟨ht, h⟩ := h
  have hT : Heap.IsTuple (Shared.heap ⟨hp, g, d, tk, os⟩) t items := ht
  have hz : (hp.push (tupItO t)).objs.size = hp.objs.size + 1 := Heap.size_push ..
  obtain ⟨⟨oc, od, dt, sl⟩, ho, hc, n, hd⟩ := ht
  have hc : oc = .type "tuple" := hc
  have hd : dt = .seq items n := hd
  subst hc hd
  have hsub := sub_enumerate
  wp_walk using AutoSeq1.wpAny_loadPart' ho
  refine wpAny_stack_any fun st => wpAny_pure ?_
  split
  · rename_i c _ _ _ _ _
    cases (c == Value.type "enumerate")
    · wp_walk using AutoSeq1.wpAny_loadPart' ho, wpAny_pyIter_tuple hT
      exact ⟨_, rfl, by rw [hz]; exact h⟩
    · wp_walk using AutoSeq1.wpAny_loadPart' ho, wpAny_pyIter_tuple hT
      exact ⟨_, rfl, by rw [hz]; exact h⟩
  · wp_walk using AutoSeq1.wpAny_loadPart' ho, wpAny_pyIter_tuple hT
    exact ⟨_, rfl, by rw [hz]; exact h⟩
theorem call_enumerate_tuple {prog : Program} {w : World} {A : Around} {E : Value → Shared → Prop} {s : Shared} {t : Addr} {items : Array Value} {Q : Value → Shared → Prop} (hT : s.heap.IsTuple t items)
    (h : ∀ h', IsEnum h' (s.heap.objs.size + 1) s.heap.objs.size 0 .none → h'.IsTupleIter s.heap.objs.size t 0 → (∀ b o, s.heap.get? b = some o → h'.get? b = some o) → Q (.ref (s.heap.objs.size + 1)) { s with heap := h' }) :
    wpAny (model prog w) A (call (.type "enumerate") [.ref t]) Q E s := by
  have hz : (s.heap.push (tupItO t)).objs.size = s.heap.objs.size + 1 := Heap.size_push ..
  have he : IsEnum ((s.heap.push (tupItO t)).push (enuO s.heap.objs.size)) (s.heap.objs.size + 1) s.heap.objs.size 0 .none := by
    have := Heap.get?_push_size (s.heap.push (tupItO t)) (o := enuO s.heap.objs.size) rfl
    rw [hz] at this
    exact this
  refine callType_new F.called_enumerate (by decide) (F.typeCall_enumerate_1 _) (F.newCall_enumerate_1 _) (fun obj => F.args_object_init_2 obj _) F.entry_enumerate_new (enu_newT t items) ⟨hT, ⟨_, he, rfl⟩, h _ he ⟨_, Heap.get?_push_of_some _ (Heap.get?_push_size _ rfl), rfl, rfl⟩ fun b o z => Heap.get?_push_of_some _ (Heap.get?_push_of_some _ z)⟩
/-! ### walked -/
def Itet (K : PySem.W.Frag) (a : Addr) : It :=
  ⟨fun i H => ∃ (xs : List V) (x : V), SqT K H a xs ∧ xs[i]? = some x, fun i H v H' => ∃ T x, v = .ref T ∧ H T = none ∧ H' = upd H T (.tup [.int (i : Nat), x]) ∧ ∀ xs, SqT K H a xs → xs[i]? = some x, fun i H => ∃ xs : List V, SqT K H a xs ∧ xs.length ≤ i⟩
theorem turn_enut {P : Program} {w : World} {K : PySem.W.Frag} {elts : List Expr} {kk : Nat} {tpos : Pos} (a e it : Addr) :
    Turn P w K (.Tuple elts kk tpos) (Itet K a) [e, it] e (fun i h => (∃ old, IsEnum h e it ((i : Nat) : Int) old) ∧ h.IsTupleIter it a i ∧ e ≠ it) where
  mem := by simp
  obj := fun i h ⟨⟨old, he⟩, ⟨o, ho, _, hd⟩, _⟩ b hb => by
    rcases List.mem_cons.mp hb with rfl | hb
    · exact ⟨_, he, fun v q => nomatch q⟩
    · obtain rfl := List.mem_singleton.mp hb
      exact ⟨o, ho, fun v q => by rw [hd] at q; cases q⟩
  keep := fun i h h' ⟨⟨old, he⟩, hi, hne⟩ k => ⟨⟨old, k e (by simp) _ he⟩, hi.at fun o q => k it (by simp) o q, hne⟩
  item := by
    intro X hP hw hK hc i pins s σ H E I hf st hg
    subst hP hw hK
    obtain ⟨⟨old, he⟩, hit, hne⟩ := st
    obtain ⟨xs, x, hq, hx⟩ := hg
    obtain ⟨its, rv, p, hz⟩ := I.tuple hq
    obtain ⟨u, hu, ru⟩ := rv.get hx
    have hel : e < s.heap.objs.size := Heap.lt_size he
    have hil : it < s.heap.objs.size := by
      obtain ⟨_, q, _⟩ := hit
      exact Heap.lt_size q
    have hlt : i < its.length := (List.getElem?_eq_some_iff.mp hu).1
    have iTup : s.heap.IsTuple a its.toArray := p
    have hai : a ≠ it := fun z => by
      obtain ⟨o1, q1, c1, _⟩ := iTup
      obtain ⟨o2, q2, c2, _⟩ := hit
      rw [z, q2] at q1
      cases q1
      rw [c1] at c2
      injection c2 with c2
      exact absurd c2 (by decide)
    have hae : e ≠ a := fun z => by
      obtain ⟨o1, q1, c1, _⟩ := iTup
      rw [← z, show s.heap.get? e = _ from he] at q1
      cases q1
      injection c1 with c1
      exact absurd c1 (by decide)
    refine wpAny_pyNext_enum_itemD (Draws.tuple (A := X.A.in1) (I.ok.hd hc) it a hai its.toArray) he ⟨hit, iTup⟩ (by simpa using hlt) hne (by simp [hne, hae]) fun y h' tk hy ho hst hT hsz hk => ?_
    have hy : its[i]? = some y := by simpa using hy
    rw [hu] at hy
    cases hy
    refine ⟨_, rfl, wpAny_letOwnedTupleGo_enum (s := { s with heap := h', toks := tk + 1 }) ho fun h'' he' sb => ?_⟩
    have hT2 : h''.get? s.heap.objs.size = some { cls := .type "tuple", data := .seq #[.int i tk, u] } := (sb.2 _ (Nat.ne_of_gt hel)).trans hT
    have I1 : Inv X pins σ (upd H s.heap.objs.size (.tup [.int (i : Nat), x])) { s with heap := h'', toks := tk + 1 } :=
      I.turnedNew (ch := [e, it]) (fun b ob hb q => by
        have n1 : b ≠ e := fun z => hb (by simp [z])
        exact (sb.2 b n1).trans (hk b ob n1 (fun z => hb (by simp [z])) q)) hf (Nat.le_refl _) ⟨by show 2 ≤ sizeLine; decide, [.int i tk, u], .cons ⟨_, rfl⟩ (.cons ru .nil), ⟨_, hT2, rfl, _, rfl⟩⟩
    refine ⟨.ref s.heap.objs.size, _, I1, rfl, ⟨_, x, rfl, I.hok.fresh (Nat.le_refl _), rfl, fun ys hy => by rw [I.tuple_inj hy hq]; exact hx⟩, ⟨⟨u, by rw [show ((i + 1 : Nat) : Int) = (i : Int) + 1 by omega]; exact he'⟩, hst.1.at fun o q => (sb.2 it (Ne.symm hne)).trans q, hne⟩, fun b hb => ?_⟩
    have hb' : b < s.heap.objs.size := by
      rcases List.mem_cons.mp hb with rfl | hb
      · exact hel
      · rw [List.mem_singleton.mp hb]; exact hil
    rw [upd_ne (Nat.ne_of_lt hb')]
    exact (hf b hb).1
  done := by
    intro X hP hw hK hc i pins s σ H E I hf st hg
    subst hP hw hK
    obtain ⟨⟨old, he⟩, hit, hne⟩ := st
    obtain ⟨xs, hq, hx⟩ := hg
    obtain ⟨its, rv, p, hz⟩ := I.tuple hq
    obtain ⟨f0, f1, f2, f3, f4, f5⟩ := hf it (by simp)
    have iTup : s.heap.IsTuple a its.toArray := p
    have hl := rv.length
    have D : Draws X.prog X.w X.A.in1 it [it, a] i (fun _ _ => True) (fun j h => j = i ∧ h.IsTupleIter it a i ∧ h.IsTuple a its.toArray) :=
      { live := fun _ _ z => let ⟨o, ho, _⟩ := z.2.1; ⟨o, ho⟩
        frame := fun _ _ _ z k => ⟨z.1, z.2.1.at fun o q => k it (by simp) o q, z.2.2.at fun o q => k a (by simp) o q⟩
        item := fun j _ _ _ hj z _ => absurd z.1 (by omega)
        done := fun _ _ _ z hE => wpAny_nextOf_tuple_end (A := X.A.in1) (I.ok.hd hc) z.2.1 z.2.2 (by simp; omega) hE }
    exact wpAny_pyNext_enum_endD D he ⟨rfl, hit, iTup⟩ fun h' eb => ⟨rfl, I.turned (t' := s.toks) (fun b o hb q => eb b o hb q) f0 f1 f3 f4 f5⟩
  self := fun A i s Q E st h => let ⟨⟨_, he⟩, _⟩ := st; wpAny_pyIter_enum he h
end MP

/-! MP16b: written dicts, constant displays, list * int, enumerate. -/
namespace MP
open PySem L2
section
variable {X : Cx} {n : Nat} {a b c e : Expr} {ga gb gc : Env → M D} {pos : Pos}
/-! ### written dicts -/
def KdAt (K : PySem.W.Frag) (w : World) (mg : Str → Option Value) (x : Str) (kds : List (Key × D)) : Prop := ∃ a es n, mg x = some (.ref a) ∧ KDict K w a es n ∧ ∀ z, match lookK kds (.inr z) with
  | some d => ∃ u v, PySem.W.nsIn K a z = some (some u) ∧ RelV v u ∧ ∀ η H, Rep K η H d v
  | none => PySem.W.nsIn K a z = some none
def KdOk (X : Cx) (x : Str) (kds : List (Key × D)) : Prop := KdAt X.K X.w X.mg x kds
def ginD (neg : Bool) (kds : List (Key × D)) : D → M D
  | .str z => pure (.bl (xor neg (lookK kds (.inr z)).isSome))
  | _ => M.fail
def gixD (kds : List (Key × D)) : D → M D
  | .str z => M.of (lookK kds (.inr z))
  | _ => M.fail
def inOp : Bool → CmpOp
  | false => .In
  | true => .NotIn
theorem name_dict {x : Str} {p : Pos} {ad : Addr} {pins : List (Addr × Obj)} {s : Shared} {σ : L2.St} {H : Hp} {E : Value → Shared → Prop} {Q : Value → Shared → Prop} (I : Inv X pins σ H s) (hg : Gl X x) (hm : X.mg x = some (.ref ad)) (hd : (x == ("__debug__" : Str)) = false)
    (h : ∀ s', s.toks ≤ s'.toks → Inv X pins σ H s' → Q (.ref ad) s') : wpAny (model X.prog X.w) X.A (eval (.Name x p) X.env) Q E s := by
  have k := (pe_glob (X := X.wish E) (pos := p) hg hm (v := .ref ad) rfl hd).run pins s σ H (fun v' H' => v' = .ref ad ∧ H' = H) (I.wish E) ⟨rfl, rfl⟩
  refine wpAny_mono (PySem.wpAny_toks k) (fun u s' z => ?_) fun _ _ z => z.2
  obtain ⟨tk, v, H', I', r, e1, e2⟩ := z
  subst e1 e2
  cases r
  exact h s' tk I'.unwish
theorem gin_op {neg : Bool} {x : Str} {kds : List (Key × D)} {ad : Addr} {es : Array DictEntry} {m : Nat} (kd : KDict X.K X.w ad es m) (hz : ∀ z, match lookK kds (.inr z) with
  | some d => ∃ u v, PySem.W.nsIn X.K ad z = some (some u) ∧ RelV v u ∧ ∀ η H, Rep X.K η H d v
  | none => PySem.W.nsIn X.K ad z = some none) {pins : List (Addr × Obj)} {s : Shared} {σ : L2.St} {H : Hp} {η : List Addr} {S : Sto} {x : V} {v : Value} {d : D} (I : Inv X pins σ H s) (tk : τ.lo ≤ s.toks) (st : StoOk τ X.K η H S) (rx : RelV x v) (rd : Rep X.K η H d x) :
    Out τ X pins η H (relV X.K σ) (ginD neg kds d S) (sem X (compareOp (inOp neg) v (.ref ad))) s := by
  cases rd with
  | str z =>
    have hz := hz z
    show Out τ X pins η H (relV X.K σ) (.ok (.bl (xor neg (lookK kds (.inr z)).isSome)) S) _ s
    refine out_ok tk fun E => ?_
    obtain ⟨r, hr, hb⟩ : ∃ r, PySem.W.nsIn X.K ad z = some r ∧ r.isSome = (lookK kds (.inr z)).isSome := by
      cases q : lookK kds (.inr z) with
      | none => rw [q] at hz; exact ⟨none, hz, rfl⟩
      | some d => rw [q] at hz; obtain ⟨u, v, h1, _⟩ := hz; exact ⟨some u, h1, rfl⟩
    rw [← hb]
    cases neg with
    | false =>
      rw [Bool.false_xor]
      exact op_in_kd (X := X.wish E) kd pins s σ H _ _ v _ _ (I.wish E) rx (show RelV (.ref ad) (.ref ad) from rfl) ⟨z, r, rfl, rfl, hr, good_here st (.bl _)⟩
    | true =>
      rw [Bool.true_xor]
      exact op_notIn_kd (X := X.wish E) kd pins s σ H _ _ v _ _ (I.wish E) rx (show RelV (.ref ad) (.ref ad) from rfl) ⟨z, r, rfl, rfl, hr, good_here st (.bl _)⟩
  | _ => trivial
theorem out_toks {β : Type} {t : Sem β} {Q : β → Shared → Prop} {E : Value → Shared → Prop} {s : Shared} (h : wpAny (model X.prog X.w) X.A t (fun u s' => s.toks ≤ s'.toks → Q u s') E s) : wpAny (model X.prog X.w) X.A t Q E s :=
  wpAny_mono (PySem.wpAny_toks h) (fun _ _ z => z.2 z.1) fun _ _ z => z.2
theorem pd_gin {neg : Bool} {x : Str} {p : Pos} {kds : List (Key × D)} (hk : KdOk X x kds) (hg : Gl X x) (hd : (x == ("__debug__" : Str)) = false) (ha : PD τ X a ga) (hm : behindInMarks (inOp neg) (.Name x p) = false) :
    PD τ X (.Compare a [inOp neg] [.Name x p] pos) (fun ρ => ga ρ >>= ginD neg kds) := by
  intro pins s σ H ρ η S I tk sr st
  obtain ⟨ad, es, m, hmg, kd, hz⟩ := hk
  refine Out.seq (t1 := eval a X.env) (W2 := fun v Q E s1 => wpAny (model X.prog X.w) X.A (eval (.Name x p) X.env) (fun u s2 => wpAny (model X.prog X.w) X.A (compareOp (inOp neg) v u) Q E s2) E s1) (fun Q E h => wpAny_Compare1 h hm) (ha pins s σ H ρ η S I tk sr st) ?_
  rintro v s1 σ1 η1 H1 d S1 _ tk1 I1 g1 st1 ⟨rfl, y, ry, rd⟩
  cases q : ginD neg kds d S1 with
  | bad => trivial
  | ok d' S' =>
    intro E
    refine name_dict I1 hg hmg hd fun s2 tk2 I2 => ?_
    have key := Out.back (mono_sem _) g1 (gin_op (x := x) (neg := neg) kd hz I2 (Nat.le_trans tk1 tk2) st1 ry rd)
    rw [q] at key
    exact key E
theorem pdb_gin {neg : Bool} {x : Str} {p : Pos} {kds : List (Key × D)} (hk : KdOk X x kds) (hg : Gl X x) (hd : (x == ("__debug__" : Str)) = false) (ha : PD τ X a ga) (hm : behindInMarks (inOp neg) (.Name x p) = false) :
    PDB τ X (.Compare a [inOp neg] [.Name x p] pos) (fun ρ => ga ρ >>= fun d => ginD neg kds d >>= asB) := by
  intro pins s σ H ρ η S I tk sr st
  obtain ⟨ad, es, m, hmg, kd, hz⟩ := hk
  refine Out.seq (t1 := eval a X.env) (W2 := fun v Q E s1 => wpAny (model X.prog X.w) X.A (eval (.Name x p) X.env) (fun u s2 => wpAny (model X.prog X.w) X.A (compareOp (inOp neg) v u) (fun z s3 => wpAny (model X.prog X.w) X.A (truthy z) Q E s3) E s2) E s1)
    (fun Q E h => wpAny_isTrue_Compare1 h hm) (ha pins s σ H ρ η S I tk sr st) ?_
  rintro v s1 σ1 η1 H1 d S1 _ tk1 I1 g1 st1 ⟨rfl, y, ry, rd⟩
  have key : ∀ s2, s1.toks ≤ s2.toks → Inv X pins σ1 H1 s2 → Out τ X pins η H (relB σ1) ((ginD neg kds d >>= asB) S1) (fun Q E s2 => wpAny (model X.prog X.w) X.A (compareOp (inOp neg) v (.ref ad)) (fun z s3 => wpAny (model X.prog X.w) X.A (truthy z) Q E s3) E s2) s2 := by
    intro s2 tk2 I2
    refine Out.back (mono_then _ fun z => mono_sem _) g1 ?_
    refine Out.seq (t1 := compareOp (inOp neg) v (.ref ad)) (W2 := fun z => sem X (truthy z)) (fun Q E h => h) (gin_op (x := x) (neg := neg) kd hz I2 (Nat.le_trans tk1 tk2) st1 ry rd) ?_
    rintro z s3 σ3 η3 H3 d3 S3 _ tk3 I3 g3 st3 ⟨rfl, y3, r3, re3⟩
    exact Out.back (mono_sem _) g3 (asB_ok I3 tk3 st3 r3 re3)
  cases q : (ginD neg kds d >>= asB) S1 with
  | bad => trivial
  | ok d' S' =>
    rw [q] at key
    intro E
    exact name_dict I1 hg hmg hd fun s2 tk2 I2 => key s2 tk2 I2 E
theorem gix_op {value slice : Expr} (hs : ∀ o i, subscripted slice false o i = operate [o, i] (getItem o i)) {kds : List (Key × D)} {ad : Addr} {es : Array DictEntry} {m : Nat} (kd : KDict X.K X.w ad es m) (hz : ∀ z, match lookK kds (.inr z) with
  | some d => ∃ u v, PySem.W.nsIn X.K ad z = some (some u) ∧ RelV v u ∧ ∀ η H, Rep X.K η H d v
  | none => PySem.W.nsIn X.K ad z = some none) {pins : List (Addr × Obj)} {s : Shared} {σ : L2.St} {H : Hp} {η : List Addr} {S : Sto} {x : V} {v : Value} {d : D} (I : Inv X pins σ H s) (tk : τ.lo ≤ s.toks) (st : StoOk τ X.K η H S) (rx : RelV x v) (rd : Rep X.K η H d x) :
    Out τ X pins η H (relV X.K σ) (gixD kds d S) (sem X (PyProof.Rows.subscriptTail value slice (.ref ad) v)) s := by
  cases rd with
  | str z =>
    have hz := hz z
    show Out τ X pins η H (relV X.K σ) (M.of (lookK kds (.inr z)) S) _ s
    cases q : lookK kds (.inr z) with
    | none => trivial
    | some d =>
      rw [q] at hz
      obtain ⟨u, w, h1, h2, h3⟩ := hz
      exact out_ok tk fun E => tail_dict hs (kd_type kd I) (op_item_kd (X := X.wish E) kd pins s σ H _ _ _ v _ (I.wish E) (show RelV (.ref ad) (.ref ad) from rfl) rx ⟨z, u, w, rfl, rfl, h1, h2, good_here st (h3 _ _)⟩)
  | _ => trivial
theorem pd_gix {x : Str} {p : Pos} {kds : List (Key × D)} (hk : KdOk X x kds) (hg : Gl X x) (hd : (x == ("__debug__" : Str)) = false) (hb : PD τ X b gb) (hs : ∀ o i, subscripted b false o i = operate [o, i] (getItem o i)) :
    PD τ X (.Subscript (.Name x p) b pos) (fun ρ => gb ρ >>= gixD kds) := by
  intro pins s σ H ρ η S I tk sr st
  obtain ⟨ad, es, m, hmg, kd, hz⟩ := hk
  have key : ∀ s1, s.toks ≤ s1.toks → Inv X pins σ H s1 → Out τ X pins η H (relV X.K σ) ((gb ρ >>= gixD kds) S) (fun Q E s1 => wpAny (model X.prog X.w) X.A (eval b X.env) (fun u s2 => wpAny (model X.prog X.w) X.A (PyProof.Rows.subscriptTail (.Name x p) b (.ref ad) u) Q E s2) E s1) s1 := by
    intro s1 tk1 I1
    refine Out.seq (t1 := eval b X.env) (W2 := fun u => sem X (PyProof.Rows.subscriptTail (.Name x p) b (.ref ad) u)) (fun Q E h => h) (hb pins s1 σ H ρ η S I1 (Nat.le_trans tk tk1) sr st) ?_
    rintro u s2 σ2 η2 H2 e S2 _ tk2 I2 g2 st2 ⟨rfl, y, ry, re⟩
    exact Out.back (mono_sem _) g2 (gix_op hs kd hz I2 tk2 st2 ry re)
  show Out τ X pins η H (relV X.K σ) ((gb ρ >>= gixD kds) S) _ s
  cases q : (gb ρ >>= gixD kds) S with
  | bad => trivial
  | ok d' S' =>
    rw [q] at key
    intro E
    exact PyProof.Rows.Subscript_ (name_dict I hg hmg hd fun s1 tk1 I1 => key s1 tk1 I1 E)
/-! ### new dicts -/
def newD (m : Bool) (kvs : List (Key × D)) : M D := fun S => if m then .ok (.ref S.length) (S ++ [.dic kvs]) else .ok (.dic kvs) S
theorem good_newD {K : PySem.W.Frag} {η : List Addr} {H : Hp} {S : Sto} {m : Bool} {ds : List (Key × D)} {vs : List (Key × V)} {p : Addr} {d : D} {S' : Sto} (st : StoOk τ K η H S) (hr : Repk K η H ds vs) (hp : H p = none) (h : newD m ds S = .ok d S') : Good τ K η H S' d (.ref p) (upd H p (.dK vs)) := by
  unfold newD at h
  cases m with
  | true =>
    rw [if_pos rfl] at h
    cases h
    refine ⟨η ++ [p], grow_push st hp, st.pushO hp ⟨vs, upd_same, hr.grow (grow_push (u := .dK vs) st hp)⟩, .ref ?_⟩
    rw [← st.len, List.getElem?_append_right (Nat.le_refl _)]
    simp
  | false =>
    rw [if_neg Bool.false_ne_true] at h
    cases h
    exact ⟨η, grow_new st hp, st.laid hp, .dic ⟨upd_same, st.fresh hp⟩ (hr.grow (grow_new st hp))⟩
theorem pd_dict0m {m : Bool} : PD τ X (.Dict [] [] pos) (fun _ => newD m []) := by
  refine pd_of fun E σ H ρ η S d S' sr st q => ?_
  exact ⟨_, pe_dnewK, fun p hp => good_newD st .nil hp q⟩
def mergeD (kvs more : List (Key × D)) : List (Key × D) := more.foldl (fun acc kv => putD acc kv.1 kv.2) kvs
theorem repk_merge {K : PySem.W.Frag} {η : List Addr} {H : Hp} : ∀ {more : List (Key × D)} {ws : List (Key × V)} {kds : List (Key × D)} {kvs : List (Key × V)}, Repk K η H more ws → Repk K η H kds kvs → Repk K η H (mergeD kds more) (mergeK kvs ws)
  | _, _, _, _, .nil, h => h
  | _, _, kds, kvs, .cons (k := k) (d := d) (v := v) (ds := ds) (vs := vs) r t, h => by
    show Repk K η H (mergeD (putD kds k d) ds) (mergeK (putK kvs k v) vs)
    exact repk_merge t (repk_put r h)
def chkC : Key → Expr → Bool
  | .inl i, .Constant (.int j) _ _ => i == j
  | .inr z, .Constant (.str y) _ _ => z == y
  | _, _ => false
def chkCs : List (Key × Key) → List (Option Expr) → List Expr → Bool
  | [], [], [] => true
  | p :: ps, some k :: ks, v :: vs => chkC p.1 k && chkC p.2 v && chkCs ps ks vs
  | _, _, _ => false
theorem pe_C {k : Key} {e : Expr} (h : chkC k e = true) : PE X e (tC (kV k)) := by
  cases k with
  | inl i =>
    cases e <;> try exact (Bool.false_ne_true h).elim
    rename_i v _ _
    cases v <;> try exact (Bool.false_ne_true h).elim
    obtain rfl := eq_of_beq (show (i == _) = true from h)
    exact pe_int
  | inr z =>
    cases e <;> try exact (Bool.false_ne_true h).elim
    rename_i v _ _
    cases v <;> try exact (Bool.false_ne_true h).elim
    obtain rfl := eq_of_beq (show (z == _) = true from h)
    exact pe_str
theorem pps_C : ∀ (ps : List (Key × Key)) (ks : List (Option Expr)) (vs : List Expr), chkCs ps ks vs = true → PPs X pos ks vs (ps.map fun p => (tC (kV p.1), tC (kV p.2))) ∧ ks.all (·.isSome) = true ∧ ks.length = ps.length ∧ vs.length = ps.length
  | [], [], [], _ => ⟨pps_nil, rfl, rfl, rfl⟩
  | p :: ps, k :: ks, v :: vs, h => by
    cases k with
    | none => exact (Bool.false_ne_true h).elim
    | some k =>
      have h : (chkC p.1 k && chkC p.2 v && chkCs ps ks vs) = true := h
      rw [Bool.and_eq_true, Bool.and_eq_true] at h
      obtain ⟨i1, i2, i3, i4⟩ := pps_C ps ks vs h.2
      exact ⟨pps_cons (pe_C h.1.1) (pe_C h.1.2) i1, by simp [i2], by simp [i3], by simp [i4]⟩
  | [], [], _ :: _, h => (Bool.false_ne_true h).elim
  | [], _ :: _, _, h => (Bool.false_ne_true h).elim
  | _ :: _, [], _, h => (Bool.false_ne_true h).elim
  | _ :: _, k :: _, [], h => by cases k <;> exact (Bool.false_ne_true h).elim
theorem tPairs_C {σ : L2.St} : ∀ (ps : List (Key × Key)) (H : Hp) (Q : List (V × V) → Hp → Prop), Q (ps.map fun p => (kV p.1, kV p.2)) H → tPairs (ps.map fun p => (tC (kV p.1), tC (kV p.2))) σ H Q
  | [], H, Q, h => h
  | p :: ps, H, Q, h => tPairs_C ps H (fun ws H3 => Q ((kV p.1, kV p.2) :: ws) H3) h
theorem repk_C {K : PySem.W.Frag} {η : List Addr} {H : Hp} : ∀ (ps : List (Key × Key)), Repk K η H (ps.map fun p => (p.1, keyC p.2)) (ps.map fun p => (p.1, kV p.2))
  | [] => .nil
  | p :: ps => .cons (rep_C p.2) (repk_C ps)
theorem pd_dispC {m : Bool} {ps : List (Key × Key)} {ks : List (Option Expr)} {vs : List Expr} (h : chkCs ps ks vs = true) (h0 : ps ≠ []) (h15 : ps.length ≤ 15) : PD τ X (.Dict ks vs pos) (fun _ => newD m (mergeD [] (ps.map fun p => (p.1, keyC p.2)))) := by
  refine pd_of fun E σ H ρ η S d S' sr st q => ?_
  obtain ⟨i1, i2, i3, i4⟩ := pps_C (X := X.wish E) (pos := pos) ps ks vs h
  refine ⟨_, pe_disp i1 i2 (i3.trans i4.symm) (fun z => h0 (by rw [z] at i3; exact List.eq_nil_of_length_eq_zero i3.symm)) (by omega), fun p hp => ?_⟩
  refine tPairs_C ps _ _ ⟨upd_same, ps.map fun p => (p.1, kV p.2), by simp, by simpa using h15, ?_⟩
  have e : upd (upd H p (.dK [])) p (.dK (mergeK [] (ps.map fun p => (p.1, kV p.2)))) = upd H p (.dK (mergeK [] (ps.map fun p => (p.1, kV p.2)))) := by
    funext a
    unfold upd
    split <;> rfl
  rw [e]
  exact good_newD st (repk_merge (repk_C ps) .nil) hp q
/-! ### list * int -/
def mulM (m : Bool) (d e : D) : M D := fun S => match items S d, e with
  | some xs, .int k => if 0 ≤ k ∧ k ≤ 1000000 ∧ xs.length * k.toNat ≤ SL then newL m (List.replicate k.toNat xs).flatten S else .bad
  | _, _ => mulD d e S
theorem op_mulM (m : Bool) : Op2 τ X (binaryOp .Mult) (mulM m) := by
  intro pins s σ H η S x y v u d e I tk st rx ry rd re
  have old := op_mulD pins s σ H η S x y v u d e I tk st rx ry rd re
  unfold mulM
  cases q1 : items S d with
  | none => exact old
  | some xs =>
    cases re with
    | int k =>
      dsimp only
      by_cases hz : 0 ≤ k ∧ k ≤ 1000000 ∧ xs.length * k.toNat ≤ SL
      · rw [if_pos hz]
        obtain ⟨a, vs, rfl, h1, h2⟩ := items_at st rd q1
        cases q3 : newL m (List.replicate k.toNat xs).flatten S with
        | bad => trivial
        | ok d' S' =>
          exact out_ok tk fun E => op_rep (X := X.wish E) pins s σ H _ _ v u _ (I.wish E) rx ry ⟨a, k, vs, rfl, rfl, h1, by omega, by omega, sl_le (by rw [← h2.length]; exact hz.2.2), fun p hp => good_newL st (h2.replicate _) hp q3⟩
      · rw [if_neg hz]; trivial
    | _ => exact old
/-! ### enumerate -/
def enumL (xs : List D) : List D := xs.zipIdx.map fun p => D.tup [.int (p.2 : Nat), p.1]
theorem enumL_get (xs : List D) (i : Nat) : (enumL xs)[i]? = xs[i]?.map fun d => D.tup [.int (i : Nat), d] := by
  unfold enumL
  rw [List.getElem?_map, List.getElem?_zipIdx, Option.map_map]
  congr 1
  funext d
  simp
theorem drv_enl {K : PySem.W.Frag} {η1 : List Addr} {H1 : Hp} {a : Addr} {ds : List D} {vs : List V} (h : LstAt η1 H1 a vs) (hr : Reps K η1 H1 ds vs) : Drv τ K (Ite K a) (.fix (enumL ds)) η1 H1 := by
  have nw : ∀ {η : List Addr} {H : Hp}, Grow η1 H1 η H → LstAt η H a vs := fun g => ⟨g.keep _ _ h.2 nt_lst h.1, g.notin h.1 h.2⟩
  refine ⟨fun {η H S i d} g st e => ?_, fun {η H H' S i d x} g st e y => ?_, fun {η H S i} g st e => ?_⟩
  · have e : (enumL ds)[i]? = some d := Option.some.inj e
    rw [enumL_get] at e
    obtain ⟨d', e', _⟩ := Option.map_eq_some_iff.mp e
    obtain ⟨v, h1, _⟩ := (hr.grow g).get e'
    exact ⟨vs, v, (nw g).sq, h1⟩
  · have e : (enumL ds)[i]? = some d := Option.some.inj e
    rw [enumL_get] at e
    obtain ⟨d', e', rfl⟩ := Option.map_eq_some_iff.mp e
    obtain ⟨T, z, e1, hT, eH, y⟩ := y
    obtain ⟨v, h1, h2⟩ := (hr.grow g).get e'
    have := y vs (nw g).sq
    rw [h1] at this
    cases this
    exact enu_yld st hT eH e1 h2
  · have e : (enumL ds)[i]? = none := Option.some.inj e
    rw [enumL_get] at e
    exact ⟨vs, (nw g).sq, by rw [← hr.length]; exact List.getElem?_eq_none_iff.mp (Option.map_eq_none_iff.mp e)⟩
theorem drv_ent {K : PySem.W.Frag} {η1 : List Addr} {H1 : Hp} {a : Addr} {ds : List D} {vs : List V} (h : TupAt K η1 H1 a vs) (hr : Reps K η1 H1 ds vs) : Drv τ K (Itet K a) (.fix (enumL ds)) η1 H1 := by
  have nw : ∀ {η : List Addr} {H : Hp}, Grow η1 H1 η H → SqT K H a vs := fun g => by
    rcases h with h | h
    · exact .inl (.inl (g.keep _ _ h.2 nt_tup h.1))
    · exact .inr h
  refine ⟨fun {η H S i d} g st e => ?_, fun {η H H' S i d x} g st e y => ?_, fun {η H S i} g st e => ?_⟩
  · have e : (enumL ds)[i]? = some d := Option.some.inj e
    rw [enumL_get] at e
    obtain ⟨d', e', _⟩ := Option.map_eq_some_iff.mp e
    obtain ⟨v, h1, _⟩ := (hr.grow g).get e'
    exact ⟨vs, v, nw g, h1⟩
  · have e : (enumL ds)[i]? = some d := Option.some.inj e
    rw [enumL_get] at e
    obtain ⟨d', e', rfl⟩ := Option.map_eq_some_iff.mp e
    obtain ⟨T, z, e1, hT, eH, y⟩ := y
    obtain ⟨v, h1, h2⟩ := (hr.grow g).get e'
    have := y vs (nw g)
    rw [h1] at this
    cases this
    exact enu_yld st hT eH e1 h2
  · have e : (enumL ds)[i]? = none := Option.some.inj e
    rw [enumL_get] at e
    exact ⟨vs, nw g, by rw [← hr.length]; exact List.getElem?_eq_none_iff.mp (Option.map_eq_none_iff.mp e)⟩
def enuSrc (d : D) : M Src := fun S => match d with
  | .lst xs => .ok (.fix (enumL xs)) S
  | .tup xs => .ok (.fix (enumL xs)) S
  | .ref n => match S[n]? with
    | some (.lst _) => .ok (.enr n) S
    | _ => .bad
  | _ => .bad
def enuL : List D → M Src
  | [d] => enuSrc d
  | _ => M.fail
theorem pid_enum {elts : List Expr} {kk : Nat} {tpos p : Pos} {gl : Env → M (List D)} (hg : Gl X "enumerate") (hm : X.mg "enumerate" = none) (h : PDL τ X [e] gl) (hs : starEach [e] X.env = [(false, eval e X.env)]) : PID τ X (.Tuple elts kk tpos) (.Call (.Name "enumerate" p) [e] [] pos) (fun ρ => gl ρ >>= enuL) := by
  intro pins s σ H ρ η S src S1 I tk sr st q
  have q : (gl ρ >>= enuL) S = .ok src S1 := q
  rw [bind_run] at q
  have key := h pos pins s σ H ρ η S I tk sr st
  cases q1 : gl ρ S with
  | bad => rw [q1] at q; cases q
  | ok ds S2 =>
    rw [q1] at q key
    refine PyProof.Rows.Call_ (ld_blt I hg hm PyProof.Rows.boot_enumerate (PyProof.Rows.callWith_type1 (wpAny_mono (key (fun _ _ => False)) (fun us s1 z => ?_) fun _ _ z => z) hs rfl))
    obtain ⟨tk1, σ1, η1, H1, I1, g1, st1, e1, xs, rxs, rds⟩ := z
    subst e1
    have q : enuL ds S2 = .ok src S1 := q
    cases rds with
    | nil => cases q
    | @cons d x _ _ rd rr =>
    cases rr with
    | cons _ _ => cases q
    | nil =>
    cases rxs with
    | cons rx rxx =>
    cases rxx
    rename_i v
    have q : enuSrc d S2 = .ok src S1 := q
    have fin : ∀ {a : Addr} {vs : List V}, x = .ref a → SqL X.K H1 a vs → Drv τ X.K (Ite X.K a) src η1 H1 → S2 = S1 → wpAny (model X.prog X.w) X.A (call (.type "enumerate") [v]) (fun v s1 => wpAny (model X.prog X.w) X.A (pyIter v) (IterOk τ X pins σ1 η H (.Tuple elts kk tpos) src S1) (fun _ _ => False) s1) (fun _ _ => False) s1 := by
      intro a vs ex hq dr eS
      subst ex eS
      cases rx
      obtain ⟨its, rv, p', hz⟩ := I1.list hq
      refine call_enumerate_list p'.isList fun h' he hit hsz hk => wpAny_pyIter_enum he ?_
      have I2 : Inv X pins σ1 H1 { s1 with heap := h' } := I1.kept (t' := s1.toks) hk
      refine ⟨tk1, η1, H1, s1.heap.objs.size + 1, [s1.heap.objs.size + 1, s1.heap.objs.size], _, _, rfl, I2, g1, st1, turn_enum a (s1.heap.objs.size + 1) s1.heap.objs.size, ⟨⟨.none, he⟩, hit, Nat.succ_ne_self _⟩, fun b hb => ?_, dr⟩
      have e' : b = s1.heap.objs.size + 1 ∨ b = s1.heap.objs.size := by simpa using hb
      have hle : s1.heap.objs.size ≤ b := by
        rcases e' with z | z
        · rw [z]; exact Nat.le_add_right _ _
        · rw [z]; exact Nat.le_refl _
      exact I1.fpOk hle (I1.hok.fresh hle)
    cases rd with
    | lst h1 h2 =>
      cases q
      exact fin rfl (LstAt.sq h1) (drv_enl h1 h2) rfl
    | @tup a vs ds h1 h2 =>
      cases q
      cases rx
      obtain ⟨its, rv, p', hz⟩ := I1.tuple h1.sq
      refine call_enumerate_tuple (show s1.heap.IsTuple a its.toArray from p') fun h' he hit hk => wpAny_pyIter_enum he ?_
      have I2 : Inv X pins σ1 H1 { s1 with heap := h' } := I1.kept (t' := s1.toks) hk
      refine ⟨tk1, η1, H1, s1.heap.objs.size + 1, [s1.heap.objs.size + 1, s1.heap.objs.size], _, _, rfl, I2, g1, st1, turn_enut a (s1.heap.objs.size + 1) s1.heap.objs.size, ⟨⟨.none, he⟩, hit, Nat.succ_ne_self _⟩, fun b hb => ?_, drv_ent h1 h2⟩
      have e' : b = s1.heap.objs.size + 1 ∨ b = s1.heap.objs.size := by simpa using hb
      have hle : s1.heap.objs.size ≤ b := by
        rcases e' with z | z
        · rw [z]; exact Nat.le_add_right _ _
        · rw [z]; exact Nat.le_refl _
      exact I1.fpOk hle (I1.hok.fresh hle)
    | @ref n a h1 =>
      have q : (match S2[n]? with | some (.lst _) => R.ok (Src.enr n) S2 | _ => .bad) = .ok src S1 := q
      obtain ⟨ds, qn⟩ : ∃ ds, S2[n]? = some (.lst ds) := by
        cases qn : S2[n]? with
        | none => rw [qn] at q; cases q
        | some oo => cases oo with
          | lst ds => exact ⟨ds, rfl⟩
          | dic _ => rw [qn] at q; cases q
          | fdic _ => rw [qn] at q; cases q
          | exc _ _ => rw [qn] at q; cases q
      rw [qn] at q
      cases q
      obtain ⟨vs, ha, _⟩ := st1.look n _ a qn h1
      exact fin rfl (SqL.of ha) (drv_enr h1) rfl
    | _ => cases q
end
end MP

/-! MP16c: dict(list(zip(range(n), t))), at the library's level. -/
namespace MP
open PySem L2 PyProof.Rows
theorem begins_range {r : Addr} {a b c : Int} {t u v : Tok} (hs : Builtin.Range.small a b c = true) : Begins (.ref r) { cls := .type "range_iterator", data := .fields #[rawInt a, rawInt (Builtin.Range.rangeSize a b c), rawInt c] } fun h => IsRange h r a b c t u v where
  iter := fun prog w A E s Q h q => wpAny_pyIter_range h hs q
  keeps := fun h h' x hk => hk r _ x
  free := rfl
section
variable {prog : Program} {w : World} {A : Around} {E : Value → Shared → Prop} {s : Shared}
theorem nextOf_range_item {it : Addr} {x left step : Int} {Q : Value → Shared → Prop} (hit : IsRangeIter s.heap it x left step) (hleft : 0 < left)
    (hQ : ∀ h', IsRangeIter h' it (x + step) (left - 1) step → Heap.SameBut it s.heap h' → Q (.int x s.toks) { s with heap := h', toks := s.toks + 1 }) :
    wpAny (model prog w) A (Builtin.SmallTypes.nextOf (.ref it)) Q E s := by
  have hT : s.TypeIs (.ref it) "range_iterator" := ⟨_, hit, rfl⟩
  unfold Builtin.SmallTypes.nextOf
  refine wpAny_bind (wpAny_callSpecial?_slot (name := Str.ofString "__next__") hT F.slot_range_iterator_next
    (call_meets F.slot_range_iterator_next hT F.entry_range_iterator_next (F.args_range_iterator_next_1 _) (AutoRange.range_iterator___next___range_iterator_1 it x left step (by omega)) ⟨hit, ?_⟩))
  exact wpAny_pure (hQ _ (Heap.get?_update_self _ (Heap.get?_update_self _ hit rfl) rfl) ((Heap.SameBut.update ..).trans (Heap.SameBut.update ..)))
theorem nextOf_range_end {it : Addr} {x left step : Int} {Q : Value → Shared → Prop} (hh : A.handled = none) (hit : IsRangeIter s.heap it x left step) (hleft : left ≤ 0)
    (hE : ∀ h' e, Heap.ExtBut it s.heap h' → (∃ o, h'.get? e = some o ∧ o.cls = .type "StopIteration") → E (.ref e) { s with heap := h' }) : wpAny (model prog w) A (Builtin.SmallTypes.nextOf (.ref it)) Q E s := by
  have hT : s.TypeIs (.ref it) "range_iterator" := ⟨_, hit, rfl⟩
  unfold Builtin.SmallTypes.nextOf
  refine wpAny_bind (wpAny_callSpecial?_slot (name := Str.ofString "__next__") hT F.slot_range_iterator_next
    (wpAny_call_entry F.slot_range_iterator_next hT F.entry_range_iterator_next ?_ (F.args_range_iterator_next_1 _)))
  show wpAny _ _ (field (.ref it) 0 >>= _) _ _ s
  refine wpAny_bind (wpAny_field hit rfl (x := rawInt x) rfl ?_)
  show wpAny _ _ (field (.ref it) 1 >>= _) _ _ s
  refine wpAny_bind (wpAny_field hit rfl (x := rawInt left) rfl ?_)
  show wpAny _ _ (field (.ref it) 2 >>= _) _ _ s
  refine wpAny_bind (wpAny_field hit rfl (x := rawInt step) rfl ?_)
  show wpAny _ _ (if left ≤ 0 then _ else _) _ _ s
  rw [if_pos hleft]
  refine wpAny_bind (wpAny_rule ?_)
  refine wpAny_bind ?_
  show wpAny _ _ (newExc (.type "StopIteration") [] >>= _) _ _ _
  refine wpAny_bind ?_
  simp only [newExc, newTuple]
  refine wpAny_bind (wpAny_newObj_type ?_ (by size_fits))
  refine wpAny_bind (m := firstArgMember _ _) (wpAny_of_eq (a := Value.none) (by first | rfl | (simp only [firstArgMember]; rfl)) ?_)
  refine wpAny_newObj_type ?_ (by size_fits)
  simp only [raiseNew]
  refine wpAny_bind (wpAny_handled ?_)
  first | rw [show A.in1.handled = none from hh] | rw [hh]
  refine wpAny_bind (wpAny_pure (wpAny_throw ?_))
  exact hE _ _ (((Heap.ExtBut.refl it s.heap).push _).push _) ⟨_, Heap.get?_push_size _ rfl, rfl⟩
end
theorem Draws.range {prog : Program} {w : World} {A : Around} (hh : A.handled = none) (it : Addr) (n : Nat) :
    Draws prog w A it [it] n (fun i v => ∃ t, v = .int (i : Int) t) (fun i h => IsRangeIter h it (i : Int) ((n : Int) - (i : Nat)) 1) where
  live := fun _ _ st => ⟨_, st⟩
  frame := fun _ _ _ st hk => hk it (by simp) _ st
  item := fun i s Q E hi st hQ => by
    refine nextOf_range_item st (by omega) fun h' hit' hs' => ?_
    refine hQ _ h' _ ⟨_, rfl⟩ ?_ hs'
    have e1 : ((i + 1 : Nat) : Int) = (i : Int) + 1 := by omega
    rw [e1]
    have e2 : (n : Int) - ((i : Int) + 1) = (n : Int) - i - 1 := by omega
    rw [e2]
    exact hit'
  done := fun s Q E st hE => nextOf_range_end hh st (by omega) hE
/-! ### next of a zip whose first tuple is still there -/
section
variable {prog : Program} {w : World} {A : Around} {E : Value → Shared → Prop} {s : Shared} {z TI TO i1 i2 : Addr} {fp1 fp2 : List Addr} {n1 n2 i : Nat} {P1 P2 : Nat → Value → Prop} {St1 St2 : Nat → Heap → Prop} {a1 a2 : Value}
theorem zipH_next_item {T0 : Addr} {f : Bool} {oT : Obj} {Q : Value → Shared → Prop} (S : ZipSep2 z TI TO i1 i2 fp1 fp2) (D1 : Draws prog w A i1 fp1 n1 P1 St1) (D2 : Draws prog w A i2 fp2 n2 P2 St2)
    (hz : IsZipHeld s.heap z TI TO T0 f) (hT : s.heap.get? T0 = some oT) (hTI : IsTupOf2 s.heap TI (.ref i1) (.ref i2)) (st1 : St1 i s.heap) (st2 : St2 i s.heap) (hlt1 : i < n1) (hlt2 : i < n2)
    (hQ : ∀ x1 x2 h' tk, P1 i x1 → P2 i x2 → IsZipHeld h' z TI TO T0 true → St1 (i + 1) h' → St2 (i + 1) h' → IsTupOf2 h' s.heap.objs.size x1 x2 → h'.objs.size = s.heap.objs.size + 1 →
      (∀ c o, c ≠ z → c ≠ i1 → c ≠ i2 → s.heap.get? c = some o → h'.get? c = some o) → Q (.ref s.heap.objs.size) { s with heap := h', toks := tk }) :
    wpAny (model prog w) A (Builtin.«zip.__next__» ⟨[.ref z], []⟩) (fun fin s' => ∃ v, fin = .done (.ret v) ∧ Q v s') E s := by
  obtain ⟨hp, g, d, tk0, os⟩ := s
  show wpAny _ _ (field (.ref z) 2 >>= _) _ _ _
  refine wpAny_bind (wpAny_field hz rfl (x := .bool false) rfl ?_)
  show wpAny _ _ (field (.ref z) 3 >>= _) _ _ _
  refine wpAny_bind (wpAny_field hz rfl (x := .ref TI) rfl ?_)
  refine wpAny_bind (wpAny_seqItems hTI rfl ?_)
  show wpAny _ _ (Builtin.SmallTypes.ownedTupleIsFree (.ref z) >>= _) _ _ _
  refine wpAny_bind (wpAny_tupleHeld_zip hz hT fun h₁ hz₁ hs₁ => ?_)
  replace hs₁ : Heap.SameBut z hp h₁ := hs₁
  simp only [Bool.false_eq_true, if_false]
  refine wpAny_bind ?_
  rw [← Array.forIn_toList]
  simp only [List.forIn_cons, List.forIn_nil]
  refine wpAny_bind (wpAny_bind (wpAny_holding ?_))
  show wpAny _ _ (Builtin.SmallTypes.nextOf (.ref i1) >>= _) _ _ ⟨h₁, g, d, tk0, os⟩
  refine wpAny_bind (D1.item i _ _ _ hlt1 (D1.over st1 hs₁ S.zf1) fun x1 p1 tk1 hx1 sn1 hp1 => wpAny_pure ?_)
  replace hp1 : Heap.SameBut i1 h₁ p1 := hp1
  refine wpAny_pure ?_
  refine wpAny_bind (wpAny_bind (wpAny_holding ?_))
  show wpAny _ _ (Builtin.SmallTypes.nextOf (.ref i2) >>= _) _ _ ⟨p1, g, d, tk1, os⟩
  refine wpAny_bind (D2.item i _ _ _ hlt2 (D2.over (D2.over st2 hs₁ S.zf2) hp1 S.sep1_2) fun x2 p2 tk2 hx2 sn2 hp2 => wpAny_pure ?_)
  replace hp2 : Heap.SameBut i2 p1 p2 := hp2
  refine wpAny_pure (wpAny_pure ?_)
  show wpAny _ _ (newTuple [x1, x2] >>= _) _ _ _
  refine wpAny_bind (wpAny_newTuple ?_)
  have hsz : p2.objs.size = hp.objs.size := by rw [hp2.1, hp1.1, hs₁.1]
  have hk : ∀ c o, c ≠ z → c ≠ i1 → c ≠ i2 → hp.get? c = some o → p2.get? c = some o := fun c o c1 c2 c3 e => hp2.extBut _ _ c3 (hp1.extBut _ _ c2 (hs₁.extBut _ _ c1 e))
  have hz₃ : IsZipHeld p2 z TI TO T0 true := hp2.extBut _ _ S.zi2 (hp1.extBut _ _ S.zi1 hz₁)
  have hj1 : St1 (i + 1) p2 := D1.over sn1 hp2 S.sep2_1
  refine wpAny_pure ⟨_, rfl, ?_⟩
  show Q (.ref p2.objs.size) ⟨p2.push { cls := .type "tuple", data := .seq #[x1, x2] }, g, d, tk2, os⟩
  have hp : IsTupOf2 (p2.push { cls := .type "tuple", data := .seq #[x1, x2] }) p2.objs.size x1 x2 := Heap.get?_push_size _ rfl
  have hz4 : (p2.push { cls := .type "tuple", data := .seq #[x1, x2] }).objs.size = p2.objs.size + 1 := Heap.size_push ..
  rw [hsz] at hp hz4 ⊢
  exact hQ x1 x2 _ tk2 hx1 hx2 (Heap.get?_push_of_some _ hz₃) (D1.frame _ _ _ hj1 fun b _ o e => Heap.get?_push_of_some _ e) (D2.frame _ _ _ sn2 fun b _ o e => Heap.get?_push_of_some _ e) hp hz4 fun c o c1 c2 c3 e => Heap.get?_push_of_some _ (hk c o c1 c2 c3 e)
theorem zipH_next_end {T0 : Addr} {f : Bool} {oT : Obj} {Q : Fin → Shared → Prop} (S : ZipSep2 z TI TO i1 i2 fp1 fp2) (D1 : Draws prog w A i1 fp1 n1 P1 St1)
    (hz : IsZipHeld s.heap z TI TO T0 f) (hT : s.heap.get? T0 = some oT) (hTI : IsTupOf2 s.heap TI (.ref i1) (.ref i2)) (st1 : St1 n1 s.heap)
    (hE : ∀ h' e, (∀ c o, c ≠ z → c ≠ i1 → c ≠ i2 → s.heap.get? c = some o → h'.get? c = some o) → (∃ o, h'.get? e = some o ∧ o.cls = .type "StopIteration") → E (.ref e) { s with heap := h' }) :
    wpAny (model prog w) A (Builtin.«zip.__next__» ⟨[.ref z], []⟩) Q E s := by
  show wpAny _ _ (field (.ref z) 2 >>= _) _ _ _
  refine wpAny_bind (wpAny_field hz rfl (x := .bool false) rfl ?_)
  show wpAny _ _ (field (.ref z) 3 >>= _) _ _ _
  refine wpAny_bind (wpAny_field hz rfl (x := .ref TI) rfl ?_)
  refine wpAny_bind (wpAny_seqItems hTI rfl ?_)
  show wpAny _ _ (Builtin.SmallTypes.ownedTupleIsFree (.ref z) >>= _) _ _ _
  refine wpAny_bind (wpAny_tupleHeld_zip hz hT fun h₁ hz₁ hs₁ => ?_)
  simp only [Bool.false_eq_true, if_false]
  refine wpAny_bind ?_
  rw [← Array.forIn_toList]
  simp only [List.forIn_cons, List.forIn_nil]
  refine wpAny_bind (wpAny_bind (wpAny_holding ?_))
  show wpAny _ _ (Builtin.SmallTypes.nextOf (.ref i1) >>= _) _ _ _
  refine wpAny_bind (D1.done (s := { s with heap := h₁ }) _ _ (D1.over st1 hs₁ S.zf1) fun h₂ e hs₂ he => ?_)
  exact hE h₂ e (fun c o c1 c2 _ x => hs₂ _ _ c2 (hs₁.extBut _ _ c1 x)) he
end
section
variable {prog : Program} {w : World} {A : Around} {E : Value → Shared → Prop} {s : Shared} {z TI TO i1 i2 : Addr} {fp1 fp2 : List Addr} {n1 n2 i : Nat} {P1 P2 : Nat → Value → Prop} {St1 St2 : Nat → Heap → Prop} {a1 a2 : Value}
theorem pyNext_zipH_item {T0 : Addr} {f : Bool} {oT : Obj} {Q : Option Value → Shared → Prop} (S : ZipSep2 z TI TO i1 i2 fp1 fp2) (D1 : Draws prog w A.in1 i1 fp1 n1 P1 St1) (D2 : Draws prog w A.in1 i2 fp2 n2 P2 St2)
    (hz : IsZipHeld s.heap z TI TO T0 f) (hT : s.heap.get? T0 = some oT) (hTI : IsTupOf2 s.heap TI (.ref i1) (.ref i2)) (st1 : St1 i s.heap) (st2 : St2 i s.heap) (hlt1 : i < n1) (hlt2 : i < n2)
    (hQ : ∀ x1 x2 h' tk, P1 i x1 → P2 i x2 → IsZipHeld h' z TI TO T0 true → St1 (i + 1) h' → St2 (i + 1) h' → IsTupOf2 h' s.heap.objs.size x1 x2 → h'.objs.size = s.heap.objs.size + 1 →
      (∀ c o, c ≠ z → c ≠ i1 → c ≠ i2 → s.heap.get? c = some o → h'.get? c = some o) → Q (some (.ref s.heap.objs.size)) { s with heap := h', toks := tk }) :
    wpAny (model prog w) A (pyNext (.ref z)) Q E s := by
  have hTy : s.TypeIs (.ref z) "zip" := ⟨_, hz, rfl⟩
  unfold pyNext
  exact wpAny_bind (wpAny_attempt (wpAny_callSpecial?_slot (name := Str.ofString "__next__") hTy F.slot_zip_next
    (wpAny_call_entry F.slot_zip_next hTy F.entry_zip_next
      (zipH_next_item S D1 D2 hz hT hTI st1 st2 hlt1 hlt2 fun x1 x2 h' tk y1 y2 b1 d1 d2 b5 b6 b7 => wpAny_pure (hQ x1 x2 h' tk y1 y2 b1 d1 d2 b5 b6 b7)) (F.args_zip_next_1 _))))
theorem pyNext_zipH_end {T0 : Addr} {f : Bool} {oT : Obj} {Q : Option Value → Shared → Prop} (S : ZipSep2 z TI TO i1 i2 fp1 fp2) (D1 : Draws prog w A.in1 i1 fp1 n1 P1 St1)
    (hz : IsZipHeld s.heap z TI TO T0 f) (hT : s.heap.get? T0 = some oT) (hTI : IsTupOf2 s.heap TI (.ref i1) (.ref i2)) (st1 : St1 n1 s.heap)
    (hQ : ∀ h', (∀ c o, c ≠ z → c ≠ i1 → c ≠ i2 → s.heap.get? c = some o → h'.get? c = some o) → Q none { s with heap := h' }) : wpAny (model prog w) A (pyNext (.ref z)) Q E s := by
  have hTy : s.TypeIs (.ref z) "zip" := ⟨_, hz, rfl⟩
  unfold pyNext
  refine wpAny_bind (wpAny_attempt (wpAny_callSpecial?_slot (name := Str.ofString "__next__") hTy F.slot_zip_next
    (wpAny_call_entry F.slot_zip_next hTy F.entry_zip_next (zipH_next_end S D1 hz hT hTI st1 fun h' e hk he => ?_) (F.args_zip_next_1 _))))
  obtain ⟨o, ho, hc⟩ := he
  refine wpAny_bind (wpAny_isInstance (T := "StopIteration") (b := true) ⟨o, ho, hc⟩ isSubtype_stop ?_)
  exact wpAny_pure (hQ _ hk)
end
end MP

/-! MP16d: list(zip(range(n), t)), at the library's level. -/
namespace MP
open PySem L2 PyProof.Rows
theorem zip_no_len : typeLookup (.type "zip") "__len__" = pure none := by rw [typeLookup_type, builtinLookup_eq_fast]; kernel_rfl
theorem zip_no_hint : typeLookup (.type "zip") "__length_hint__" = pure none := by rw [typeLookup_type, builtinLookup_eq_fast]; kernel_rfl
/-- pairs of numbers and items, made behind N0 -/
def Made (h : Heap) (items acc : Array Value) (i N0 : Nat) : Prop := acc.size = i ∧ ∀ j, j < i → ∃ T u x, acc[j]? = some (.ref T) ∧ N0 ≤ T ∧ IsTupOf2 h T (.int (j : Int) u) x ∧ items[j]? = some x
theorem Made.keep {h h' : Heap} {items acc : Array Value} {i N0 : Nat} (m : Made h items acc i N0) (hk : ∀ b o, N0 ≤ b → h.get? b = some o → h'.get? b = some o) : Made h' items acc i N0 :=
  ⟨m.1, fun j hj => let ⟨T, u, x, h1, h2, h3, h4⟩ := m.2 j hj; ⟨T, u, x, h1, h2, hk _ _ h2 h3, h4⟩⟩
theorem Made.push {h : Heap} {items acc : Array Value} {i N0 T : Nat} {u : Tok} {x : Value} (m : Made h items acc i N0) (hT : N0 ≤ T) (ht : IsTupOf2 h T (.int (i : Int) u) x) (hx : items[i]? = some x) : Made h items (acc.push (.ref T)) (i + 1) N0 := by
  refine ⟨by rw [Array.size_push, m.1], fun j hj => ?_⟩
  by_cases e : j = i
  · subst e
    exact ⟨T, u, x, by rw [← m.1, Array.getElem?_push_size], hT, ht, hx⟩
  · obtain ⟨T', u', x', h1, h2, h3, h4⟩ := m.2 j (by omega)
    refine ⟨T', u', x', ?_, h2, h3, h4⟩
    rw [Array.getElem?_push, if_neg (by rw [m.1]; exact e), h1]
section
variable {prog : Program} {w : World} {A : Around} {s : Shared} {R : Result → Shared → Prop}
theorem ext_zip_loop (hh : A.handled = none) {z TI TO i1 i2 t S N0 T0 : Addr} {items : Array Value} (Sp : ZipSep2 z TI TO i1 i2 [i1] [i2, t]) (hz0 : z < S) (h10 : i1 < S) (h20 : i2 < S) (hTI0 : TI < S) (ht0 : t < S) (hN : N0 = S + 1) (hT0 : N0 ≤ T0) (htz : t ≠ z) (hti2 : t ≠ i2) (hn : items.size ≤ sizeLine) (res : Value) :
    ∀ (k i : Nat) (s : Shared) (acc : Array Value) (c : Nat) (f : Bool), items.size - i = k → i ≤ items.size → IsZipHeld s.heap z TI TO T0 f → (∃ o, s.heap.get? T0 = some o) → IsTupOf2 s.heap TI (.ref i1) (.ref i2) → IsRangeIter s.heap i1 (i : Int) ((items.size : Int) - (i : Nat)) 1 → (s.heap.IsTupleIter i2 t i ∧ s.heap.IsTuple t items) →
      s.heap.get? S = some { cls := .type "list", dict := none, data := .seq acc c, slots := #[] } → Made s.heap items acc i N0 → N0 ≤ s.heap.objs.size →
      (∀ h' tk acc' c', (∀ b o, b ≠ S → b ≠ z → b ≠ i1 → b ≠ i2 → s.heap.get? b = some o → h'.get? b = some o) → h'.get? S = some { cls := .type "list", dict := none, data := .seq acc' c', slots := #[] } → Made h' items acc' items.size N0 → R (.ok (.ret res)) { s with heap := h', toks := tk }) →
      codeAny (model prog w) A (.builtin "list.extend.loop" ⟨[.ref S, .ref z, res], []⟩) R s := by
  have big : ∀ b, N0 ≤ b → b ≠ S ∧ b ≠ z ∧ b ≠ i1 ∧ b ≠ i2 := by
    intro b hb
    subst hN
    refine ⟨fun q => ?_, fun q => ?_, fun q => ?_, fun q => ?_⟩ <;> subst q <;> first | exact absurd hb (Nat.not_succ_le_self _) | (have hb' : S + 1 ≤ _ := hb; exact absurd (Nat.lt_of_lt_of_le (Nat.lt_of_succ_le hb') (Nat.le_of_lt (by assumption))) (Nat.lt_irrefl _))
  intro k
  induction k with
  | zero =>
    intro i s acc c f hk hi hz hT hTI st1 st2 hS hm hsz hR
    have hin : i = items.size := by omega
    subst hin
    obtain ⟨oT, hoT⟩ := hT
    refine codeAny_builtin F.entry_extend_loop ?_
    rw [Around.under_plainId F.plain_extend_loop _]
    show wpAny _ A.in1 (pyNext (.ref z) >>= _) _ _ s
    refine wpAny_bind (pyNext_zipH_end Sp (Draws.range (A := A.in1.in1) hh i1 items.size) hz hoT hTI st1 fun h' hk => ?_)
    exact wpAny_pure (hR h' s.toks acc c (fun b o b1 b2 b3 b4 e => hk b o b2 b3 b4 e) (hk S _ (Nat.ne_of_gt hz0) (Nat.ne_of_gt h10) (Nat.ne_of_gt h20) hS) (hm.keep fun b o hb e => hk b o (big b hb).2.1 (big b hb).2.2.1 (big b hb).2.2.2 e))
  | succ k ih =>
    intro i s acc c f hk hi hz hT hTI st1 st2 hS hm hsz hR
    have hlt : i < items.size := by omega
    obtain ⟨oT, hoT⟩ := hT
    refine codeAny_builtin F.entry_extend_loop ?_
    rw [Around.under_plainId F.plain_extend_loop _]
    show wpAny _ A.in1 (pyNext (.ref z) >>= _) _ _ s
    refine wpAny_bind (pyNext_zipH_item Sp (Draws.range (A := A.in1.in1) hh i1 items.size) (Draws.tuple (A := A.in1.in1) hh i2 t hti2 items) hz hoT hTI st1 st2 hlt hlt fun x1 x2 h' tk p1 p2 hz' st1' st2' hT' hsz' hk' => ?_)
    obtain ⟨u, rfl⟩ := p1
    have hS' := hk' S _ (Nat.ne_of_gt hz0) (Nat.ne_of_gt h10) (Nat.ne_of_gt h20) hS
    show wpAny _ A.in1 (updateSeq S (·.push (.ref s.heap.objs.size)) >>= _) _ _ _
    refine wpAny_bind ?_
    have nS : ∀ b, b ≠ S → ∀ o, h'.get? b = some o → (h'.update S (Obj.mapSeq (·.push (.ref s.heap.objs.size)))).get? b = some o := fun b hb o e => (Heap.get?_update_other _ _ (Ne.symm hb)).trans e
    refine wpAny_updateSeq hS' rfl (wpAny_pure ⟨plainId_quiet F.plain_extend_loop _, ih (i + 1) _ (acc.push (.ref s.heap.objs.size)) _ true (by omega) hlt (nS z (Nat.ne_of_lt hz0) _ hz') ⟨oT, nS T0 (big T0 hT0).1 _ (hk' T0 _ (big T0 hT0).2.1 (big T0 hT0).2.2.1 (big T0 hT0).2.2.2 hoT)⟩ (nS TI (Nat.ne_of_lt hTI0) _ (hk' TI _ Sp.TIz Sp.TIi1 Sp.TIi2 hTI)) (nS i1 (Nat.ne_of_lt h10) _ st1')
      ⟨st2'.1.at fun o e => nS i2 (Nat.ne_of_lt h20) o e, st2'.2.at fun o e => nS t (Nat.ne_of_lt ht0) o e⟩ (Heap.get?_update_self _ hS' rfl) ?_ ?_ fun h'' tk'' acc' c' hk'' hS'' hm'' => ?_⟩)
      (by rw [hm.1]; omega) (by show (acc.push _).size ≤ sizeLine + 1; rw [Array.size_push, hm.1]; omega)
    · have m1 : Made h' items acc i N0 := hm.keep fun b o hb e => hk' b o (big b hb).2.1 (big b hb).2.2.1 (big b hb).2.2.2 e
      have m2 : Made h' items (acc.push (.ref s.heap.objs.size)) (i + 1) N0 := m1.push hsz hT' p2
      exact m2.keep fun b o hb e => nS b (big b hb).1 o e
    · have : (h'.update S (Obj.mapSeq (·.push (.ref s.heap.objs.size)))).objs.size = h'.objs.size := (Heap.SameBut.update (a := S) ..).1
      show N0 ≤ (h'.update S (Obj.mapSeq (·.push (.ref s.heap.objs.size)))).objs.size
      rw [this, hsz']
      exact Nat.le_succ_of_le hsz
    · exact hR h'' tk'' acc' c' (fun b o b1 b2 b3 b4 e => hk'' b o b1 b2 b3 b4 (nS b b1 o (hk' b o b2 b3 b4 e))) hS'' hm''
end
end MP

/-! MP16e: list(zip(range(n), t)), dict of it, at the library's level. -/
namespace MP
open PySem L2 PyProof.Rows
section
variable {prog : Program} {w : World} {A : Around} {s : Shared} {R : Result → Shared → Prop}
theorem ext_zip_start (hh : A.handled = none) {z TI TO i1 i2 t S N0 : Addr} {items : Array Value} {a1 a2 : Value} (Sp : ZipSep2 z TI TO i1 i2 [i1] [i2, t]) (hz0 : z < S) (h10 : i1 < S) (h20 : i2 < S) (hTI0 : TI < S) (ht0 : t < S) (hTO0 : TO < S) (hN : N0 = S + 1) (htz : t ≠ z) (hti2 : t ≠ i2) (hn : items.size ≤ sizeLine) (res : Value) {c : Nat}
    (hz : IsZip s.heap z TI TO .none) (hTI : IsTupOf2 s.heap TI (.ref i1) (.ref i2)) (hTO : IsTupOf2 s.heap TO a1 a2) (st1 : IsRangeIter s.heap i1 ((0 : Nat) : Int) ((items.size : Int) - (0 : Nat)) 1) (st2 : s.heap.IsTupleIter i2 t 0 ∧ s.heap.IsTuple t items)
    (hS : s.heap.get? S = some { cls := .type "list", dict := none, data := .seq #[] c, slots := #[] }) (hsz : N0 ≤ s.heap.objs.size)
    (hR : ∀ h' tk acc' c', (∀ b o, b ≠ S → b ≠ z → b ≠ TO → b ≠ i1 → b ≠ i2 → s.heap.get? b = some o → h'.get? b = some o) → h'.get? S = some { cls := .type "list", dict := none, data := .seq acc' c', slots := #[] } → Made h' items acc' items.size N0 → R (.ok (.ret res)) { s with heap := h', toks := tk }) :
    codeAny (model prog w) A (.builtin "list.extend.loop" ⟨[.ref S, .ref z, res], []⟩) R s := by
  by_cases h0 : items.size = 0
  · refine codeAny_builtin F.entry_extend_loop ?_
    rw [Around.under_plainId F.plain_extend_loop _]
    show wpAny _ A.in1 (pyNext (.ref z) >>= _) _ _ s
    refine wpAny_bind (wpAny_pyNext_zipD2_end (i := 0) Sp (Draws.range (A := A.in1.in1) hh i1 items.size) (Draws.tuple (A := A.in1.in1) hh i2 t hti2 items) hz hTI hTO st1 st2 (Nat.zero_le _) (Nat.zero_le _) (.inl h0.symm) fun h' tk hk => ?_)
    refine wpAny_pure (hR h' tk #[] c (fun b o b1 b2 b3 b4 b5 e => hk b o b2 b3 b4 b5 e) (hk S _ (Nat.ne_of_gt hz0) (Nat.ne_of_gt hTO0) (Nat.ne_of_gt h10) (Nat.ne_of_gt h20) hS) ⟨by rw [h0]; rfl, fun j hj => absurd hj (by omega)⟩)
  · have hlt : 0 < items.size := Nat.pos_of_ne_zero h0
    refine codeAny_builtin F.entry_extend_loop ?_
    rw [Around.under_plainId F.plain_extend_loop _]
    show wpAny _ A.in1 (pyNext (.ref z) >>= _) _ _ s
    refine wpAny_bind (wpAny_pyNext_zipD2_item (i := 0) Sp (Draws.range (A := A.in1.in1) hh i1 items.size) (Draws.tuple (A := A.in1.in1) hh i2 t hti2 items) hz hTI hTO st1 st2 hlt hlt fun x1 x2 h' tk p1 p2 hz' hTO' st1' st2' hT' hsz' hk' => ?_)
    obtain ⟨u, rfl⟩ := p1
    have hS' := hk' S _ (Nat.ne_of_gt hz0) (Nat.ne_of_gt hTO0) (Nat.ne_of_gt h10) (Nat.ne_of_gt h20) hS
    show wpAny _ A.in1 (updateSeq S (·.push (.ref s.heap.objs.size)) >>= _) _ _ _
    refine wpAny_bind ?_
    have nS : ∀ b, b ≠ S → ∀ o, h'.get? b = some o → (h'.update S (Obj.mapSeq (·.push (.ref s.heap.objs.size)))).get? b = some o := fun b hb o e => (Heap.get?_update_other _ _ (Ne.symm hb)).trans e
    have hTS : s.heap.objs.size ≠ S := by
      intro q
      subst hN
      rw [q] at hsz
      exact absurd hsz (Nat.not_succ_le_self _)
    refine wpAny_updateSeq hS' rfl (wpAny_pure ⟨plainId_quiet F.plain_extend_loop _, ext_zip_loop hh (TO := TO) (T0 := s.heap.objs.size) Sp hz0 h10 h20 hTI0 ht0 hN hsz htz hti2 hn res (items.size - 1) 1 _ (#[].push (.ref s.heap.objs.size)) _ false rfl hlt (nS z (Nat.ne_of_lt hz0) _ hz') ⟨_, nS _ hTS _ hT'⟩ (nS TI (Nat.ne_of_lt hTI0) _ (hk' TI _ Sp.TIz Sp.TITO Sp.TIi1 Sp.TIi2 hTI)) (nS i1 (Nat.ne_of_lt h10) _ st1')
      ⟨st2'.1.at fun o e => nS i2 (Nat.ne_of_lt h20) o e, st2'.2.at fun o e => nS t (Nat.ne_of_lt ht0) o e⟩ (Heap.get?_update_self _ hS' rfl) ?_ ?_ fun h'' tk'' acc' c' hk'' hS'' hm'' => ?_⟩)
      (Nat.zero_le _) (by show 1 ≤ sizeLine + 1; omega)
    · have m0 : Made (h'.update S (Obj.mapSeq (·.push (.ref s.heap.objs.size)))) items #[] 0 N0 := ⟨rfl, fun j hj => absurd hj (Nat.not_lt_zero _)⟩
      exact m0.push hsz (nS _ hTS _ hT') p2
    · have : (h'.update S (Obj.mapSeq (·.push (.ref s.heap.objs.size)))).objs.size = h'.objs.size := (Heap.SameBut.update (a := S) ..).1
      show N0 ≤ (h'.update S (Obj.mapSeq (·.push (.ref s.heap.objs.size)))).objs.size
      rw [this, hsz']
      exact Nat.le_succ_of_le hsz
    · exact hR h'' tk'' acc' c' (fun b o b1 b2 b3 b4 b5 e => hk'' b o b1 b2 b4 b5 (nS b b1 o (hk' b o b2 b3 b4 b5 e))) hS'' hm''
theorem ext_zip (hh : A.handled = none) {z TI TO i1 i2 t S N0 : Addr} {items : Array Value} {a1 a2 : Value} (Sp : ZipSep2 z TI TO i1 i2 [i1] [i2, t]) (hz0 : z < S) (h10 : i1 < S) (h20 : i2 < S) (hTI0 : TI < S) (ht0 : t < S) (hTO0 : TO < S) (hN : N0 = S + 1) (htz : t ≠ z) (hti2 : t ≠ i2) (hn : items.size ≤ sizeLine) (res : Value) {c₀ : Nat}
    (hz : IsZip s.heap z TI TO .none) (hTI : IsTupOf2 s.heap TI (.ref i1) (.ref i2)) (hTO : IsTupOf2 s.heap TO a1 a2) (st1 : IsRangeIter s.heap i1 ((0 : Nat) : Int) ((items.size : Int) - (0 : Nat)) 1) (st2 : s.heap.IsTupleIter i2 t 0 ∧ s.heap.IsTuple t items)
    (hS : s.heap.get? S = some { cls := .type "list", data := .seq #[] c₀ }) (hsz : N0 ≤ s.heap.objs.size)
    (hR : ∀ h' tk acc' c', (∀ b o, b ≠ S → b ≠ z → b ≠ TO → b ≠ i1 → b ≠ i2 → s.heap.get? b = some o → h'.get? b = some o) → h'.get? S = some { cls := .type "list", dict := none, data := .seq acc' c', slots := #[] } → Made h' items acc' items.size N0 → R (.ok (.ret res)) { s with heap := h', toks := tk }) :
    wpAny (model prog w) A.in1 (Builtin.List.listExtendWith (.ref S) (.ref z) res)
      (fun fin s' => match fin with | .done f => R (.ok f) s' | .again c' => c'.quiet = true ∧ codeAny (model prog w) A c' R s') (fun e s' => R (.error e) s') s := by
  have hT : ∀ s' : Shared, IsZip s'.heap z TI TO .none → s'.TypeIs (.ref z) "zip" := fun s' h => ⟨_, h, rfl⟩
  unfold Builtin.List.listExtendWith
  refine wpAny_bind (wpAny_typeOf (hT _ hz) ?_)
  have h1 : Builtin.List.listSameRef (.ref S) (.ref z) = false := by simp [Builtin.List.listSameRef, Nat.ne_of_gt hz0]
  have h2 : (Value.type "zip" == Value.type "list") = false := by decide
  have h3 : (Value.type "zip" == Value.type "tuple") = false := by decide
  simp only [h1, h2, h3, Bool.or_false, Bool.false_eq_true, if_false]
  refine wpAny_bind (wpAny_pyIter_zip hz ?_)
  refine wpAny_bind (wpAny_holding ?_)
  unfold Builtin.List.listLengthHint
  refine wpAny_bind (wpAny_specialOf (hT _ hz) zip_no_len ?_)
  show wpAny _ A.in1 (specialOf (Value.ref z) (Str.ofString "__length_hint__") >>= _) _ _ _
  refine wpAny_bind (wpAny_specialOf (hT _ hz) zip_no_hint ?_)
  refine wpAny_pure ?_
  show wpAny _ A.in1 (rule "list.extend.makes-room" >>= fun _ => Builtin.List.listTouch (.ref S) >>= fun _ =>
    again (.builtin "list.extend.loop" ⟨[.ref S, .ref z, res], []⟩)) _ _ _
  refine wpAny_bind (wpAny_rule ?_)
  refine wpAny_bind ?_
  show wpAny _ A.in1 (updateSeq S (·.push .none) >>= fun _ => updateSeq S (·.pop)) _ _ _
  refine wpAny_bind (wpAny_updateSeq hS rfl ?_)
  have hS₂ := Heap.get?_update_self (Obj.mapSeq (·.push Value.none)) hS rfl
  refine wpAny_updateSeq (hz := by seq_fits) hS₂ rfl ?_
  have hS₃ := Heap.get?_update_self (Obj.mapSeq (·.pop)) hS₂ rfl
  have oth : ∀ b o, b ≠ S → s.heap.get? b = some o → ((s.heap.update S (Obj.mapSeq (·.push Value.none))).update S (Obj.mapSeq (·.pop))).get? b = some o :=
    fun b o hb e => (Heap.get?_update_other _ _ (Ne.symm hb)).trans ((Heap.get?_update_other _ _ (Ne.symm hb)).trans e)
  refine wpAny_pure ⟨plainId_quiet F.plain_extend_loop _, ext_zip_start hh Sp hz0 h10 h20 hTI0 ht0 hTO0 hN htz hti2 hn res (oth z _ (Nat.ne_of_lt hz0) hz) (oth TI _ (Nat.ne_of_lt hTI0) hTI) (oth TO _ (Nat.ne_of_lt hTO0) hTO) (oth i1 _ (Nat.ne_of_lt h10) st1) ⟨st2.1.at fun o e => oth i2 o (Nat.ne_of_lt h20) e, st2.2.at fun o e => oth t o (Nat.ne_of_lt ht0) e⟩ hS₃ ?_ fun h' tk acc' c' hk hS' hm => ?_⟩
  · have e1 : ((s.heap.update S (Obj.mapSeq (·.push Value.none))).update S (Obj.mapSeq (·.pop))).objs.size = (s.heap.update S (Obj.mapSeq (·.push Value.none))).objs.size := (Heap.SameBut.update (a := S) ..).1
    have e2 : (s.heap.update S (Obj.mapSeq (·.push Value.none))).objs.size = s.heap.objs.size := (Heap.SameBut.update (a := S) ..).1
    show N0 ≤ ((s.heap.update S (Obj.mapSeq (·.push Value.none))).update S (Obj.mapSeq (·.pop))).objs.size
    rw [e1, e2]
    exact hsz
  · exact hR h' tk acc' c' (fun b o b1 b2 b3 b4 b5 e => hk b o b1 b2 b3 b4 b5 (oth b o b1 e)) hS' hm
end
section
variable {prog : Program} {w : World} {A : Around} {E : Value → Shared → Prop} {s : Shared}
theorem call_list_zip (hh : A.handled = none) {z TI TO i1 i2 t : Addr} {items : Array Value} {a1 a2 : Value} {Q : Value → Shared → Prop} (Sp : ZipSep2 z TI TO i1 i2 [i1] [i2, t]) (htz : t ≠ z) (hti2 : t ≠ i2) (hn : items.size ≤ sizeLine)
    (hz : IsZip s.heap z TI TO .none) (hTI : IsTupOf2 s.heap TI (.ref i1) (.ref i2)) (hTO : IsTupOf2 s.heap TO a1 a2) (st1 : IsRangeIter s.heap i1 ((0 : Nat) : Int) ((items.size : Int) - (0 : Nat)) 1) (st2 : s.heap.IsTupleIter i2 t 0 ∧ s.heap.IsTuple t items)
    (hQ : ∀ h' tk acc' c', (∀ b o, b ≠ z → b ≠ TO → b ≠ i1 → b ≠ i2 → s.heap.get? b = some o → h'.get? b = some o) → h'.get? s.heap.objs.size = some { cls := .type "list", dict := none, data := .seq acc' c', slots := #[] } → Made h' items acc' items.size (s.heap.objs.size + 1) → Q (.ref s.heap.objs.size) { s with heap := h', toks := tk }) :
    wpAny (model prog w) A (call (.type "list") [.ref z]) Q E s := by
  have lt : ∀ b o, s.heap.get? b = some o → b < s.heap.objs.size := fun b o e => Heap.lt_size e
  have hz0 := lt _ _ hz
  have h10 := lt _ _ st1
  have h20 : i2 < s.heap.objs.size := let ⟨o, ho, _⟩ := st2.1; lt _ _ ho
  have ht0 : t < s.heap.objs.size := let ⟨o, ho, _⟩ := st2.2; lt _ _ ho
  have hTI0 := lt _ _ hTI
  have hTO0 := lt _ _ hTO
  refine callType_codes (Q₁ := fun obj s₁ => obj = .ref s.heap.objs.size ∧ s₁ = { s with heap := s.heap.push { cls := .type "list", data := .seq #[] } }) F.called_list (F.typeCall_list_1 _) F.entry_list_init
    (code_list_new _ ⟨rfl, rfl⟩) fun obj s₁ h₁ => ?_
  obtain ⟨rfl, rfl⟩ := h₁
  have hS : (s.heap.push { cls := .type "list", data := .seq #[] }).get? s.heap.objs.size = some { cls := .type "list", data := .seq #[] } := Heap.get?_push_size _ rfl
  have hps : (s.heap.push { cls := .type "list", data := .seq #[] }).objs.size = s.heap.objs.size + 1 := Heap.size_push ..
  refine ⟨⟨_, hS, rfl⟩, F.args_list_init_2 _ _, ?_⟩
  generalize hS0 : s.heap.objs.size = S at *
  show wpAny _ A.in1.in1 (do let old ← Builtin.List.listItems (.ref S); Builtin.List.listUpdate (.ref S) (fun _ => #[]); letGo old.toList.reverse; Builtin.List.listExtendWith (.ref S) (.ref z) .none) _ _ _
  refine wpAny_bind ?_
  unfold Builtin.List.listItems
  refine wpAny_bind (wpAny_seqItems hS rfl (wpAny_pure ?_))
  show wpAny _ A.in1.in1 (updateSeq S (fun _ => #[]) >>= fun _ => letGo (#[] : Array Value).toList.reverse >>= fun _ => Builtin.List.listExtendWith (.ref S) (.ref z) .none) _ _ _
  refine wpAny_bind (wpAny_updateSeq hS rfl ?_)
  have hS₂ := Heap.get?_update_self (Obj.mapSeq (fun _ => (#[] : Array Value))) hS rfl
  have oth : ∀ b o, b ≠ S → s.heap.get? b = some o → ((s.heap.push { cls := .type "list", data := .seq #[] }).update S (Obj.mapSeq (fun _ => (#[] : Array Value)))).get? b = some o :=
    fun b o hb e => (Heap.get?_update_other _ _ (Ne.symm hb)).trans (Heap.get?_push_of_some _ e)
  refine wpAny_bind (wpAny_letGo ?_)
  refine ext_zip (A := A.in1) (N0 := S + 1) hh Sp hz0 h10 h20 hTI0 ht0 hTO0 rfl htz hti2 hn .none (oth z _ (Nat.ne_of_lt hz0) hz) (oth TI _ (Nat.ne_of_lt hTI0) hTI) (oth TO _ (Nat.ne_of_lt hTO0) hTO) (oth i1 _ (Nat.ne_of_lt h10) st1) ⟨st2.1.at fun o e => oth i2 o (Nat.ne_of_lt h20) e, st2.2.at fun o e => oth t o (Nat.ne_of_lt ht0) e⟩ hS₂ ?_ fun h' tk acc' c' hk hS' hm => ?_
  · have e2 : ((s.heap.push { cls := .type "list", data := .seq #[] }).update S (Obj.mapSeq (fun _ => (#[] : Array Value)))).objs.size = (s.heap.push { cls := .type "list", data := .seq #[] }).objs.size := (Heap.SameBut.update (a := S) ..).1
    show S + 1 ≤ ((s.heap.push { cls := .type "list", data := .seq #[] }).update S (Obj.mapSeq (fun _ => (#[] : Array Value)))).objs.size
    rw [e2, hps]
    exact Nat.le_refl _
  · refine ⟨rfl, hQ h' tk acc' c' (fun b o b2 b3 b4 b5 e => ?_) hS' hm⟩
    have hbS : b ≠ S := fun q => by
      have := lt b o e
      rw [q] at this
      exact Nat.lt_irrefl _ this
    exact hk b o hbS b2 b3 b4 b5 (oth b o hbS e)
end
end MP

/-! MP16f: list(zip(range(n), t)) as a rule. -/
namespace MP
open PySem L2 PyProof.Rows
theorem take_snoc {α : Type} (xs : List α) (j : Nat) {x : α} (h : xs[j]? = some x) : xs.take (j + 1) = xs.take j ++ [x] := by
  obtain ⟨hj, rfl⟩ := List.getElem?_eq_some_iff.mp h
  exact List.take_succ_eq_append_getElem hj
theorem lay_pairs {τ : Tau} {X : Cx} {pins : List (Addr × Obj)} {σ : L2.St} {H : Hp} {s : Shared} {η : List Addr} {S : Sto} {h' : Heap} {its : List Value} {xs : List V} {ds : List D} {acc : Array Value} {N0 : Nat}
    (I : Inv X pins σ H s) (st : StoOk τ X.K η H S) (k : ∀ b u, s.heap.get? b = some u → h'.get? b = some u) (rv : Vals xs its) (rd : Reps X.K η H ds xs) (hN : s.heap.objs.size ≤ N0) (m : Made h' its.toArray acc its.length N0) :
    ∀ j, j ≤ its.length → ∃ (G : Heap) (H' : Hp) (η' : List Addr) (Ts : List Addr), Ts.length = j ∧ Inv X pins σ H' { s with heap := G } ∧ Grow η H η' H' ∧ StoOk τ X.K η' H' S ∧ Reps X.K η' H' ((enumL ds).take j) (Ts.map V.ref) ∧
      (∀ (i : Nat) T, Ts[i]? = some T → acc[i]? = some (.ref T) ∧ N0 ≤ T ∧ ∃ u x, IsTupOf2 h' T (.int (i : Int) u) x) ∧
      (∀ b o, s.heap.get? b = some o → G.get? b = some o) ∧ (∀ b o, G.get? b = some o → h'.get? b = some o) ∧
      (∀ b, s.heap.objs.size ≤ b → b ∉ Ts → G.get? b = none) ∧ (∀ b, s.heap.objs.size ≤ b → b ∉ Ts → H' b = none) := by
  intro j
  induction j with
  | zero =>
    intro _
    exact ⟨s.heap, H, η, [], rfl, I, .refl _ _, st, .nil, fun i T e => by simp at e, fun _ _ e => e, k, fun b hb _ => Heap.get?_none_of_le hb, fun b hb _ => I.hok.fresh hb⟩
  | succ j ih =>
    intro hj
    obtain ⟨G, H', η', Ts, hl, I', g', st', rr, hTs, kG, kh, nG, nH⟩ := ih (by omega)
    obtain ⟨T, u, x, e1, hT, ht, ex⟩ := m.2 j (by omega)
    have hnT : T ∉ Ts := by
      intro hm
      obtain ⟨i, hi⟩ := List.mem_iff_getElem?.mp hm
      obtain ⟨_, _, u', x', ht'⟩ := hTs i T hi
      have hij : i < j := by rw [← hl]; exact (List.getElem?_eq_some_iff.mp hi).1
      have := ht.symm.trans ht'
      simp at this
      omega
    have hge : s.heap.objs.size ≤ T := Nat.le_trans hN hT
    have exl : its[j]? = some x := by simpa using ex
    have hlx : xs.length = its.length := rv.length
    obtain ⟨v, hv⟩ : ∃ v, xs[j]? = some v := ⟨xs[j]'(by omega), List.getElem?_eq_getElem (by omega)⟩
    obtain ⟨x', hx', rvx⟩ := rv.get hv
    rw [exl] at hx'
    cases hx'
    obtain ⟨d, hd, rdv⟩ := rd.getV hv
    obtain ⟨G2, q1, q2⟩ := L2.restrict h' fun b => decide (b < s.heap.objs.size) || decide (b ∈ T :: Ts)
    have hG2T : G2.get? T = some { cls := .type "tuple", data := .seq #[.int (j : Int) u, x] } := by
      rw [q1 T (by simp)]
      exact ht
    have kk : ∀ b o, G.get? b = some o → G2.get? b = some o := by
      intro b o e
      rw [q1 b ?_]
      · exact kh b o e
      · by_cases hb : s.heap.objs.size ≤ b
        · by_cases hm : b ∈ Ts
          · simp [hm]
          · rw [nG b hb hm] at e
            cases e
        · have hb' : b < s.heap.objs.size := Nat.lt_of_not_le hb
          simp [hb']
    have hnH : H' T = none := nH T hge hnT
    have I2 : Inv X pins σ (upd H' T (.tup [.int (j : Int), v])) { s with heap := G2 } := I'.laidN (t' := s.toks) kk (nG T hge hnT) hnH ⟨by show 2 ≤ sizeLine; decide, [.int j u, x], .cons ⟨_, rfl⟩ (.cons rvx .nil), ⟨_, hG2T, rfl, _, rfl⟩⟩
    obtain ⟨η2, g2, st2, r2⟩ := good_newT (ds := [.int (j : Int), d]) (vs := [.int (j : Int), v]) st' (.cons (.int _) (.cons (rdv.grow g') .nil)) hnH
    refine ⟨G2, _, η2, Ts ++ [T], by rw [List.length_append, hl]; rfl, I2, g'.trans g2, st2, ?_, ?_, fun b o e => kk b o (kG b o e), ?_, ?_, ?_⟩
    · rw [take_snoc (enumL ds) j (x := .tup [.int (j : Int), d]) (by rw [enumL_get, hd]; rfl), List.map_append]
      exact (rr.grow g2).append (.cons r2 .nil)
    · intro i T' e
      by_cases hij : i < Ts.length
      · rw [List.getElem?_append_left hij] at e
        exact hTs i T' e
      · rw [List.getElem?_append_right (by omega)] at e
        have : i - Ts.length = 0 := by
          by_cases z : i - Ts.length = 0
          · exact z
          · rw [List.getElem?_eq_none (by simp; omega)] at e
            cases e
        rw [this] at e
        have e : T = T' := Option.some.inj e
        subst e
        have : i = j := by omega
        subst this
        exact ⟨e1, hT, u, x, ht⟩
    · intro b o e
      by_cases hp : (decide (b < s.heap.objs.size) || decide (b ∈ T :: Ts)) = true
      · rw [q1 b hp] at e
        exact e
      · rw [q2 b (by simpa using hp)] at e
        cases e
    · intro b hb hm
      have h1 : b ∉ Ts := fun z => hm (List.mem_append_left _ z)
      have h2 : b ≠ T := fun z => hm (by rw [z]; simp)
      refine q2 b ?_
      have : ¬ b < s.heap.objs.size := Nat.not_lt_of_le hb
      simp [h1, h2, this]
    · intro b hb hm
      have h1 : b ∉ Ts := fun z => hm (List.mem_append_left _ z)
      have h2 : b ≠ T := fun z => hm (by rw [z]; simp)
      rw [upd_ne h2]
      exact nH b hb h1
end MP

/-! MP16h: dict of a list of pairs, list.index. -/
namespace MP
open PySem L2
def pairsOf : List D → Option (List (Key × D))
  | [] => some []
  | .tup [k, v] :: r => match keyD k with
    | some k' => (pairsOf r).map ((k', v) :: ·)
    | none => none
  | _ => none
def dictD (m : Bool) : List D → M D
  | [.lst ps] => fun S => match pairsOf ps with
    | some kvs => newD m (mergeD [] kvs) S
    | none => .bad
  | _ => M.fail
section
variable {τ : Tau} {X : Cx}
theorem pairs_cons {d : D} {ds : List D} {kds : List (Key × D)} (h : pairsOf (d :: ds) = some kds) : ∃ k v k' kr, d = .tup [k, v] ∧ keyD k = some k' ∧ pairsOf ds = some kr ∧ kds = (k', v) :: kr := by
  unfold pairsOf at h
  split at h
  · rename_i he
    cases he
  · rename_i k v r he
    cases he
    cases hk : keyD k with
    | none => rw [hk] at h; cases h
    | some k' =>
      rw [hk] at h
      dsimp only at h
      cases hp : pairsOf ds with
      | none => rw [hp] at h; cases h
      | some kr =>
        rw [hp] at h
        exact ⟨k, v, k', kr, rfl, hk, rfl, (Option.some.inj h).symm⟩
  · cases h
theorem reps_cons {K : PySem.W.Frag} {η : List Addr} {H : Hp} {d : D} {ds : List D} {vs : List V} (h : Reps K η H (d :: ds) vs) : ∃ x ws, vs = x :: ws ∧ Rep K η H d x ∧ Reps K η H ds ws := by
  cases h with
  | cons r t => exact ⟨_, _, rfl, r, t⟩
theorem rep_tup {K : PySem.W.Frag} {η : List Addr} {H : Hp} {ds : List D} {x : V} (h : Rep K η H (.tup ds) x) : ∃ a vs, x = .ref a ∧ TupAt K η H a vs ∧ Reps K η H ds vs := by
  cases h with
  | tup h1 h2 => exact ⟨_, _, rfl, h1, h2⟩
theorem pairs_reps {K : PySem.W.Frag} {η : List Addr} {H : Hp} (ds : List D) : ∀ {vs : List V} {kds : List (Key × D)}, Reps K η H ds vs → pairsOf ds = some kds → ∃ (ps : List Addr) (kvs : List (Key × V)), vs = ps.map V.ref ∧ Paired (fun p kv => SqT K H p [kV kv.1, kv.2]) ps kvs ∧ Repk K η H kds kvs := by
  induction ds with
  | nil =>
    intro vs kds r h
    cases r
    cases h
    exact ⟨[], [], rfl, .nil, .nil⟩
  | cons d ds ih =>
    intro vs kds r h
    obtain ⟨k, v, k', kr, ed, hk, hp, ek⟩ := pairs_cons h
    subst ed ek
    obtain ⟨x, ws, e, rd, rt⟩ := reps_cons r
    subst e
    obtain ⟨a, us, e, h1, h2⟩ := rep_tup rd
    subst e
    obtain ⟨y, us', e3, rk, h3⟩ := reps_cons h2
    subst e3
    obtain ⟨z, us'', e4, rz, h4⟩ := reps_cons h3
    subst e4
    cases h4
    obtain ⟨ps, kvs, e, hpp, hr⟩ := ih rt hp
    subst e
    have e := keyD_ok rk hk
    subst e
    exact ⟨a :: ps, (k', z) :: kvs, rfl, .cons h1.sq hpp, .cons rz hr⟩
theorem op_dictD (hc : X.calm = true) (m : Bool) : OpL τ X (fun us => call (.type "dict") us) (dictD m) := by
  intro pins s σ H η S xs us ds I tk st rv rd
  cases q : dictD m ds S with
  | bad => trivial
  | ok d' S' =>
    match ds, rd, q with
    | [.lst es], .cons r .nil, q =>
      have q : (match pairsOf es with | some kvs => newD m (mergeD [] kvs) S | none => .bad) = .ok d' S' := q
      cases hp : pairsOf es with
      | none => rw [hp] at q; cases q
      | some kds =>
        rw [hp] at q
        cases r with
        | @lst a vs _ h1 h2 =>
          obtain ⟨ps, kvs, e, hpp, hr⟩ := pairs_reps _ h2 hp
          subst e
          exact out_ok tk fun E => call_dictP (X := X.wish E) hc pins s σ H _ us _ (I.wish E) rv ⟨a, ps, kvs, rfl, LstAt.sq h1, hpp, fun p hpn => good_newD st (repk_merge hr .nil) hpn q⟩
/-! ### index -/
def rcX : D → M Unit
  | .lst _ => pure ()
  | _ => M.fail
def firstI (k : Int) : List Int → Option Nat
  | [] => none
  | i :: r => if i = k then some 0 else (firstI k r).map (· + 1)
def indexD (d : D) (ds : List D) : M D := match d, ds with
  | .lst xs, [.int k] => match ints? xs with
    | some is => match firstI k is with
      | some j => pure (.int (j : Nat))
      | none => M.fail
    | none => M.fail
  | _, _ => M.fail
theorem ints_eq : ∀ {xs : List D} {is : List Int}, ints? xs = some is → xs = is.map D.int
  | [], is, h => by cases h; rfl
  | d :: xs, is, h => by
    cases d with
    | int i =>
      have h : (ints? xs).map (i :: ·) = some is := h
      cases q : ints? xs with
      | none => rw [q] at h; cases h
      | some js =>
        rw [q] at h
        cases h
        rw [ints_eq q]
        rfl
    | _ => cases h
theorem reps_ints {K : PySem.W.Frag} {η : List Addr} {H : Hp} : ∀ {is : List Int} {vs : List V}, Reps K η H (is.map D.int) vs → vs = is.map V.int
  | [], _, .nil => rfl
  | i :: is, _, .cons r t => by
    cases r
    rw [reps_ints t]
    rfl
theorem firstI_ok : ∀ {is : List Int} {k : Int} {j : Nat}, firstI k is = some j → is[j]? = some k ∧ ∀ (m : Nat) (z : Int), m < j → is[m]? = some z → z ≠ k
  | [], _, _, h => by cases h
  | i :: is, k, j, h => by
    unfold firstI at h
    by_cases e : i = k
    · rw [if_pos e] at h
      cases h
      subst e
      exact ⟨rfl, fun m z hm => absurd hm (Nat.not_lt_zero _)⟩
    · rw [if_neg e] at h
      cases q : firstI k is with
      | none => rw [q] at h; cases h
      | some j' =>
        rw [q] at h
        cases h
        obtain ⟨h1, h2⟩ := firstI_ok q
        refine ⟨h1, fun m z hm hz => ?_⟩
        cases m with
        | zero =>
          cases hz
          exact e
        | succ m => exact h2 m z (Nat.lt_of_succ_lt_succ hm) hz
theorem mt_indexD' : Mt τ X "list" "list.index" indexD := by
  intro pins s σ H η S x xs v us d ds I tk st rx rv rd rds
  cases q : indexD d ds S with
  | bad => trivial
  | ok d' S' =>
    unfold indexD at q
    split at q
    · rename_i es k
      cases hi : ints? es with
      | none => rw [hi] at q; cases q
      | some is =>
        rw [hi] at q
        dsimp only at q
        cases hf : firstI k is with
        | none => rw [hf] at q; cases q
        | some j =>
          rw [hf] at q
          cases q
          obtain ⟨y, e1, r1⟩ := one_of (ds := []) rds
          cases r1
          cases rd with
          | @lst a vs _ h1 h2 =>
            rw [ints_eq hi] at h2
            have ev := reps_ints h2
            subst ev
            obtain ⟨h3, h4⟩ := firstI_ok hf
            exact out_ok tk fun E => mt_index (X := X.wish E) pins s σ H _ xs v us _ (I.wish E) rx rv ⟨a, is.map V.int, .int k, j, .int k, rfl, e1, LstAt.sq h1, rfl, by simp [flatV], by rw [List.getElem?_map, h3]; rfl, by simp [eqV], fun m z' hm hz => by
              rw [List.getElem?_map] at hz
              cases qm : is[m]? with
              | none => rw [qm] at hz; cases hz
              | some w =>
                rw [qm] at hz
                cases hz
                simp [eqV, h4 m w hm qm], good_here st (.int _)⟩
    · cases q
end
end MP

/-! MP17: the small language, its meaning, the check against a tree. -/
namespace MP
open PySem L2
def noStar : Expr → Bool
  | .Starred .. => false
  | _ => true
theorem starEach_cons {e : Expr} {es : List Expr} {env : PySem.Env} (h : noStar e = true) : starEach (e :: es) env = (false, eval e env) :: starEach es env := by
  cases e <;> first | rfl | cases h
theorem star_any {env : PySem.Env} {pos : Pos} : ∀ {es : List Expr}, es.all noStar = true → (backTo pos (starEach es env)).any (·.1) = false
  | [], _ => rfl
  | e :: es, h => by
    rw [List.all_cons, Bool.and_eq_true] at h
    rw [starEach_cons h.1]
    show (false || (backTo pos (starEach es env)).any (·.1)) = false
    rw [star_any h.2]
    rfl
theorem star_all {env : PySem.Env} {pos : Pos} : ∀ {es : List Expr}, es.all noStar = true → (backTo pos (starEach es env)).all (fun x => !x.1) = true
  | [], _ => rfl
  | e :: es, h => by
    rw [List.all_cons, Bool.and_eq_true] at h
    rw [starEach_cons h.1]
    show (true && (backTo pos (starEach es env)).all (fun x => !x.1)) = true
    rw [star_all h.2]
    rfl
section
variable {X : Cx} {e : Expr} {es : List Expr}
/-- a method with no argument -/
theorem pd_meth0 {rc : D → M Unit} {T id : String} {name : Str} {o : Expr} {go : Env → M D} {f : D → List D → M D} {apos cpos : Pos} (pa : PlainAttrs T) (slot : Slot T name id) (hty : typeOf (.builtin id) = pure (.type "method_descriptor")) (hm : Mt τ X T id f)
    (ht : ∀ {η : List Addr} {H : Hp} {S : Sto} {d : D} {x : V} {S' : Sto}, StoOk τ X.K η H S → Rep X.K η H d x → rc d S = .ok () S' → S' = S ∧ tyV X.K T x H)
    (ho : PD τ X o go) (hbase : attributeBase o name X.env (eval o X.env) = eval o X.env) (hline : (apos.endLine == cpos.line) = true) :
    PD τ X (.Call (.Attribute o name apos) [] [] cpos) (fun ρ => go ρ >>= fun d => rc d >>= fun _ => f d []) := by
  intro pins s σ H ρ η S I tk sr st
  refine Out.seq (t1 := eval o X.env) (W2 := fun v Q E s1 => MethodOn X.prog X.w X.A name cpos v [] Q E s1) (fun Q E h => wpAny_Call_method0_late hbase hline h) (ho pins s σ H ρ η S I tk sr st) ?_
  rintro v s1 σ1 η1 H1 d S1 _ tk1 I1 g1 st1 ⟨rfl, x, rx, rd⟩
  rw [bind_run]
  cases qr : rc d S1 with
  | bad => trivial
  | ok _ S1' =>
  obtain ⟨eS, hty'⟩ := ht st1 rd qr
  subst eS
  dsimp only
  have key := Out.back (mono_sem _) g1 (hm pins s1 σ1 H1 η1 S1' x [] v [] d [] I1 tk1 st1 rx .nil rd .nil)
  cases q : f d [] S1' with
  | bad => trivial
  | ok d' S' =>
    rw [q] at key
    intro E
    obtain ⟨h1, h2⟩ := tyV_is I1 rx hty'
    exact ⟨T, id, pa, slot, hty, h1, h2, Calls.callWith_builtin rfl (PySem.evalArgs_none (key E))⟩
end
/-! ### operators -/
inductive Bop where | add | sub | mul | fdiv | mod | pow
  deriving DecidableEq, Inhabited
inductive Cop where | eq | ne | lt | le | gt | ge | is | isNot | inn | notIn
  deriving DecidableEq, Inhabited
def Bop.op : Bop → Operator
  | .add => .Add | .sub => .Sub | .mul => .Mult | .fdiv => .FloorDiv | .mod => .Mod | .pow => .Pow
def Cop.op : Cop → CmpOp
  | .eq => .Eq | .ne => .NotEq | .lt => .Lt | .le => .LtE | .gt => .Gt | .ge => .GtE | .is => .Is | .isNot => .IsNot | .inn => .In | .notIn => .NotIn
def Bop.ev (o : Bop) (m : Bool) : D → D → M D := match o with
  | .add => addD m | .sub => subD | .mul => mulM m | .fdiv => fdivD | .mod => modD | .pow => powD
def Cop.ev : Cop → D → D → M D
  | .eq => eqD | .ne => neD | .lt => ltD | .le => leD | .gt => gtD | .ge => geD | .is => isD | .isNot => isNotD | .inn => inD | .notIn => notInD
theorem Bop.ok {X : Cx} (o : Bop) (m : Bool) : Op2 τ X (binaryOp o.op) (o.ev m) := by
  cases o
  · exact op_addD m
  · exact op_subD
  · exact op_mulM m
  · exact op_fdivD
  · exact op_modD
  · exact op_powD
theorem Cop.ok {X : Cx} {n : Nat} (c : Ck n X) (o : Cop) : Op2 τ X (compareOp o.op) o.ev := by
  cases o
  · exact op_eqDD c
  · exact op_neDD c
  · exact op_ltDD
  · exact op_leDD
  · exact op_gtDD
  · exact op_geDD
  · exact op_isDD
  · exact op_isNotDD
  · exact op_inDD (c.units (k := 1) (by decide))
  · exact op_notInDD (c.units (k := 1) (by decide))
inductive Fn where | len | list | tuple | sum | all | any | min | int | str | repr | dict
  deriving DecidableEq, Inhabited
def Fn.name : Fn → String
  | .len => "len" | .list => "list" | .tuple => "tuple" | .sum => "sum" | .all => "all" | .any => "any" | .min => "min" | .int => "int" | .str => "str" | .repr => "repr" | .dict => "dict"
def Fn.isType : Fn → Bool
  | .list => true | .tuple => true | .int => true | .str => true | .dict => true | _ => false
def Fn.ev (f : Fn) (m : Bool) : List D → M D := match f with
  | .len => lenD | .list => listD m | .tuple => tupleD | .sum => sumD | .all => allD | .any => anyD | .min => minD | .int => intD | .str => strD
  | .repr => fun ds => match ds with | [d] => reprD d | _ => M.fail
  | .dict => dictD m
theorem Fn.okB {X : Cx} {n : Nat} (c : Ck n X) (f : Fn) (m : Bool) (h : f.isType = false) : OpL τ X (fun us => call (.builtin f.name) us) (f.ev m) := by
  cases f
  · exact call_lenDD
  · cases h
  · cases h
  · exact call_sumDD c
  · exact call_allDD c
  · exact call_anyDD c
  · exact call_minDD c
  · cases h
  · cases h
  · exact opL_of_op1 (call_reprD c) fun u => rfl
  · cases h
theorem Fn.okT {X : Cx} (hc : X.calm = true) (f : Fn) (m : Bool) (h : f.isType = true) : OpL τ X (fun us => call (.type f.name) us) (f.ev m) := by
  cases f
  · cases h
  · exact call_listDD m
  · exact call_tupleDD
  · cases h
  · cases h
  · cases h
  · cases h
  · exact call_intDD
  · exact call_strDD
  · cases h
  · exact op_dictD hc m
theorem Fn.boot (f : Fn) : bootBuiltins (Str.ofString f.name) = some (if f.isType then .type f.name else .builtin f.name) := by
  cases f <;> decide +kernel
theorem Fn.nn (f : Fn) : Str.ofString f.name ≠ "__name__" ∧ (Str.ofString f.name == ("__debug__" : Str)) = false := by
  cases f <;> decide +kernel
inductive Me where | append | extend | pop | join | split | count | upper | index
  deriving DecidableEq, Inhabited
def Me.ty : Me → String
  | .append => "list" | .extend => "list" | .pop => "list" | .index => "list" | _ => "str"
def Me.name : Me → String
  | .append => "append" | .extend => "extend" | .pop => "pop" | .join => "join" | .split => "split" | .count => "count" | .upper => "upper" | .index => "index"
def Me.id : Me → String
  | .append => "list.append" | .extend => "list.extend" | .pop => "list.pop" | .join => "str.join" | .split => "str.split" | .count => "str.count" | .upper => "str.upper" | .index => "list.index"
def Me.ev (f : Me) (m : Bool) : D → List D → M D := match f with
  | .append => appendD | .extend => extendD | .pop => popD | .join => joinD | .split => splitD m | .count => countD | .upper => upperD | .index => indexD
theorem Me.pa (f : Me) : PlainAttrs f.ty := by
  cases f
  all_goals first | exact F.plainAttrs_list | exact F.plainAttrs_str
theorem Me.slot (f : Me) : Slot f.ty (Str.ofString f.name) f.id := by
  cases f
  · exact F.slot_list_append
  · exact F.slot_list_extend
  · exact F.slot_list_pop
  · exact F.slot_str_join
  · exact F.slot_str_split
  · exact F.slot_str_count
  · exact F.slot_str_upper
  · exact F.slot_list_index
theorem Me.hty (f : Me) : typeOf (.builtin f.id) = pure (.type "method_descriptor") := by
  cases f
  · exact F.type_list_append
  · exact F.type_list_extend
  · exact F.type_list_pop
  · exact F.type_str_join
  · exact F.type_str_split
  · exact F.type_str_count
  · exact F.type_str_upper
  · exact F.type_list_index
theorem Me.ok {X : Cx} (f : Me) (m : Bool) : Mt τ X f.ty f.id (f.ev m) := by
  cases f
  · exact mt_appendD
  · exact mt_extendD
  · exact mt_popD
  · exact mt_joinD
  · exact mt_splitD m
  · exact mt_countD
  · exact mt_upperD
  · exact mt_indexD'
def Me.rc : Me → D → M Unit
  | .append => rcL | .extend => rcL | .pop => rcL | .index => rcX | _ => rcS
theorem rcL_ok {K : PySem.W.Frag} {η : List Addr} {H : Hp} {S : Sto} {d : D} {x : V} {S' : Sto} (st : StoOk τ K η H S) (r : Rep K η H d x) (h : rcL d S = .ok () S') : S' = S ∧ tyV K "list" x H := by
  cases r <;> try (cases h; done)
  rename_i n a h1
  have h : (match S[n]? with | some (.lst _) => R.ok () S | _ => .bad) = .ok () S' := h
  cases q : S[n]? with
  | none => rw [q] at h; cases h
  | some oo =>
    rw [q] at h
    cases oo with
    | lst ds =>
      cases h
      obtain ⟨vs, e, _⟩ := st.look n _ a q h1
      exact ⟨rfl, .inl ⟨rfl, vs, SqL.of e⟩⟩
    | dic _ => cases h
    | fdic _ => cases h
    | exc _ _ => cases h
theorem rcS_ok {K : PySem.W.Frag} {η : List Addr} {H : Hp} {S : Sto} {d : D} {x : V} {S' : Sto} (st : StoOk τ K η H S) (r : Rep K η H d x) (h : rcS d S = .ok () S') : S' = S ∧ tyV K "str" x H := by
  cases r <;> try (cases h; done)
  cases h
  exact ⟨rfl, rfl⟩
theorem rcX_ok {K : PySem.W.Frag} {η : List Addr} {H : Hp} {S : Sto} {d : D} {x : V} {S' : Sto} (r : Rep K η H d x) (h : rcX d S = .ok () S') : S' = S ∧ tyV K "list" x H := by
  cases r <;> try (cases h; done)
  rename_i a vs ds h1 h2
  cases h
  exact ⟨rfl, .inl ⟨rfl, vs, LstAt.sq h1⟩⟩
theorem Me.tyv {K : PySem.W.Frag} (f : Me) {η : List Addr} {H : Hp} {S : Sto} {d : D} {x : V} {S' : Sto} (st : StoOk τ K η H S) (r : Rep K η H d x) (h : f.rc d S = .ok () S') : S' = S ∧ tyV K f.ty x H := by
  cases f
  · exact rcL_ok st r h
  · exact rcL_ok st r h
  · exact rcL_ok st r h
  · exact rcS_ok st r h
  · exact rcS_ok st r h
  · exact rcS_ok st r h
  · exact rcS_ok st r h
  · exact rcX_ok r h
end MP

/-! MP17b: functions made within functions, handed on, called. -/
namespace MP
open PySem L2 PyProof.Rows

/-! ### what a nested function promises -/
def NFn (τ : Tau) (P : Program) (w : World) (K : PySem.W.Frag) (mg : Str → Option Value) (cs : List (Addr × Addr)) (n k np : Nat) (g : List D → M D) : Prop :=
  ∀ (base : Heap) (A : Around) (outer : List PySem.Env) (s : Shared) (H : Hp) (f : Addr) (F : CF) (fr : List Str) (us : List Value) (vs : List V) (ds caps : List D) (ws : List (Option V)) (η : List Addr) (S : Sto) (d : D) (S' : Sto), BaseOk mg cs base → Room n A → A.guards = some [] → τ.lo ≤ s.toks →
    Env0 P w K mg base A outer s H → τ.txt k F fr → FAt η H f F → NdefX.CellsAt F.cl fr ws s.heap H → CapsRep K η H caps ws → Vals vs us → Reps K η H ds vs → ds.length = np → StoOk τ K η H S → g (ds ++ caps) S = .ok d S' →
    codeAny (model P w) A (.call (.ref f) ⟨us, []⟩) (fun r s' => ∃ u v η' H', r = .ok (.ret u) ∧ τ.lo ≤ s'.toks ∧ s'.os = s.os ∧ AllBare s'.gens ∧ Un (frs outer) [] H H' s.heap s'.heap ∧ HOk P w H' s'.heap ∧ Grow η H η' H' ∧ StoOk τ K η' H' S' ∧ RelV v u ∧ Rep K η' H' d v) s
def CF.nf (F : CF) : NdefX.NF := ⟨F.name, F.qual, F.params, [], F.scope, F.cl, F.c⟩
def PSB (τ : Tau) (X : Cx) (b : CB) (g : Env → M Fl) : Prop := match b with
  | .st b => PSDs τ X b g
  | .ex e => ∃ ge, PD τ X e ge ∧ ∀ ρ S, g ρ S = (ge ρ >>= fun d => pure (.ret d)) S
theorem CapsRep.length {K : PySem.W.Frag} {η : List Addr} {H : Hp} : ∀ {ds : List D} {ws : List (Option V)}, CapsRep K η H ds ws → ds.length = ws.length
  | _, _, .nil => rfl
  | _, _, .cons _ t => by simp [CapsRep.length t]
theorem CapsRep.get {K : PySem.W.Frag} {η : List Addr} {H : Hp} : ∀ {ds : List D} {ws : List (Option V)} {i : Nat} {d : D}, CapsRep K η H ds ws → ds[i]? = some d → ∃ v, ws[i]? = some (some v) ∧ Rep K η H d v
  | _, _, _, _, .nil, e => by simp at e
  | _, _, 0, _, .cons r _, e => by simp at e; subst e; exact ⟨_, rfl, r⟩
  | _, _, i + 1, d, .cons _ t, e => by
    obtain ⟨v, h1, h2⟩ := CapsRep.get (i := i) (d := d) t (by simpa using e)
    exact ⟨v, by simpa using h1, h2⟩
theorem srel_startF {τ : Tau} {K : PySem.W.Frag} {B : Heap} {η : List Addr} {H : Hp} {N : List Str} {ds caps : List D} {vs : List V} {ws : List (Option V)} (h : Reps K η H ds vs) (hc : CapsRep K η H caps ws) : SRel τ K B η H (NdefX.startF N vs ws) (startD N.length (ds ++ caps)) := by
  unfold NdefX.startF startD
  have l1 := h.length
  have l2 := hc.length
  refine ⟨by simp [l1, l2]; omega, fun i d e => ?_⟩
  by_cases hi : i < ds.length
  · rw [List.getElem?_append_left (by simp; omega), List.getElem?_map, List.getElem?_append_left hi] at e
    cases q : ds[i]? with
    | none => rw [q] at e; cases e
    | some d' =>
      rw [q] at e
      cases e
      obtain ⟨v, h1, h2⟩ := h.get q
      exact ⟨v, by rw [List.getElem?_append_left (by simp; omega), List.getElem?_map, h1]; rfl, .inl h2⟩
  · by_cases hj : i < ds.length + caps.length
    · rw [List.getElem?_append_left (by simp; omega), List.getElem?_map, List.getElem?_append_right (by omega)] at e
      cases q : caps[i - ds.length]? with
      | none => rw [q] at e; cases e
      | some d' =>
        rw [q] at e
        cases e
        obtain ⟨v, h1, h2⟩ := hc.get q
        refine ⟨v, ?_, .inl h2⟩
        rw [List.getElem?_append_right (by simp; omega), List.getElem?_append_left (by simp; omega), List.length_map, ← l1]
        exact h1
    · rw [List.getElem?_append_right (by simp; omega), List.getElem?_replicate] at e
      split at e <;> cases e
/-- by its body -/
theorem nfn_of {τ : Tau} {P : Program} {w : World} {K : PySem.W.Frag} {mg : Str → Option Value} {cs : List (Addr × Addr)} {n k : Nat} {N ps : List Str} {g : Env → M Fl}
    (hT : ∀ (F : CF) (fr : List Str), τ.txt k F fr → NdefX.NScope N ps fr F.scope ∧ (∀ (doc pm ctv : Value) (us : List Value), us.length = ps.length → bindArgs (F.fd doc pm ctv) ⟨us, []⟩ = pure (ps.zip us)) ∧
      ∀ X : Cx, X.prog = P → X.w = w → X.K = K → X.mg = mg → BaseOk mg cs X.base → X.N = N → X.env.scope = F.scope → (∀ x, X.fn x = false) → Ck n X → PSB τ X F.body g) :
    NFn τ P w K mg cs (n + 1) k ps.length (bodyD N.length g) := by
  intro base A outer s H f F fr us vs ds caps ws η S d S' hbase hr hgd tk e0 ht hF C hc rv rd hl st q
  obtain ⟨Sc, hb, hbody⟩ := hT F fr ht
  have lim : s.heap.NoLimit := e0.mod.nolimit.keeps fun b o e => (e0.bs b o e).1
  have hvl : vs.length = ps.length := by rw [← rd.length]; exact hl
  obtain ⟨⟨od, sl, doc, pm, ctv, ho⟩, _, _⟩ := e0.hok f _ hF.fo
  have hcode : s.heap.CodeRec (.ref F.c) F.qual := NdefX.codeO_at e0.hok hF.co
  have sr := srel_startF (τ := τ) (B := base) (N := N) rd hc
  have hq : ∃ fl, g (startD N.length (ds ++ caps)) S = .ok fl S' ∧ (fl = .ret d ∨ (∃ ρ, fl = .next ρ) ∧ d = .non) := by
    unfold bodyD at q
    rw [bind_run] at q
    cases z : g (startD N.length (ds ++ caps)) S with
    | bad => rw [z] at q; cases q
    | ok fl S2 =>
      rw [z] at q
      cases fl with
      | ret d' => cases q; exact ⟨_, rfl, .inl rfl⟩
      | next ρ => cases q; exact ⟨_, rfl, .inr ⟨⟨ρ, rfl⟩, rfl⟩⟩
      | brk => cases q
      | cont => cases q
  obtain ⟨fl, hg, hfl⟩ := hq
  have bind := hb doc pm ctv us (by rw [← rv.length]; exact hvl)
  have start : ∀ (h₁ : Heap), h₁.Ns s.heap.objs.size (fun y => (ps.zip us).reverse.lookup y) → (∀ b o, s.heap.get? b = some o → h₁.get? b = some o) →
      Inv (NdefX.ncx CX0 P w K mg base N F.nf f A outer s H E0) [] (NdefX.startF N vs ws) H { s with heap := h₁, toks := s.toks + (ps.zip us).length } := fun h₁ hns kp => NdefX.inv_startN (F := F.nf) Sc hr.hd e0 hvl rv C hns kp
  have hX := hbody (NdefX.ncx CX0 P w K mg base N F.nf f A outer s H E0) rfl rfl rfl rfl hbase rfl rfl (fun _ => rfl) ⟨rfl, hgd, hr.deeper _, hbase.1, Sc.nd⟩
  cases hB : F.body with
  | st b =>
    rw [hB] at hX
    have hfd : F.fd doc pm ctv = PySem.W.fnX F.name F.qual F.params b F.scope F.cl .none .none doc pm none (.ref F.c) ctv := by unfold CF.fd; rw [hB]
    rw [hfd] at ho bind
    refine codeAny_call_function hr.depth ho rfl Sc.co Sc.gen rfl hcode ?_
    rw [bind]
    refine wpAny_pure (wpAny_newFunctionEnv Sc.nocell (fun ⟨n, _⟩ hy => Sc.par n (List.of_mem_zip hy).1) (fun h₁ hns hsb => ⟨lim.fresh _ hsb, ?_⟩) Sc.kind)
    show codeAny _ _ (.func b (NdefX.envF F.nf f s.heap.objs.size)) _ _
    refine codeAny_func ?_
    have kp : ∀ b o, s.heap.get? b = some o → h₁.get? b = some o := fun b o e => hsb.extBut b o (Nat.ne_of_lt (Heap.lt_size e)) (Heap.get?_push_of_some _ e)
    have key := hX [] _ (NdefX.startF N vs ws) H (startD N.length (ds ++ caps)) η S (start h₁ hns kp) (Nat.le_trans tk (Nat.le_add_right _ _)) sr st
    rw [hg] at key
    refine wpAny_mono (key (fun _ _ => False)) (fun fw s' z => ?_) fun _ _ z => z.elim
    obtain ⟨tk2, σ2, η2, H2, I2, g2, st2, r2⟩ := z
    rcases hfl with rfl | ⟨⟨ρ, rfl⟩, rfl⟩
    · cases fw with
      | ret u =>
        obtain ⟨v, ru, rp⟩ := r2
        exact ⟨u, v, η2, H2, rfl, tk2, I2.os, I2.bare, I2.base, I2.hok, g2, st2, ru, rp⟩
      | next => exact r2.elim
      | brk => exact r2.elim
      | cont => exact r2.elim
    · cases fw with
      | next => exact ⟨.none, .non, η2, H2, rfl, tk2, I2.os, I2.bare, I2.base, I2.hok, g2, st2, rfl, .non⟩
      | ret u => exact r2.elim
      | brk => exact r2.elim
      | cont => exact r2.elim
  | ex e =>
    rw [hB] at hX
    obtain ⟨ge, hge, hgg⟩ := hX
    have hfd : F.fd doc pm ctv = PySem.W.kla_fn F.name F.qual F.params e F.scope F.cl pm (.ref F.c) ctv := by unfold CF.fd; rw [hB]
    rw [hfd] at ho bind
    refine PySem.W.kla_callFunE hr.depth ho rfl Sc.co Sc.gen rfl hcode ?_
    rw [bind]
    refine wpAny_pure (wpAny_newFunctionEnv Sc.nocell (fun ⟨n, _⟩ hy => Sc.par n (List.of_mem_zip hy).1) (fun h₁ hns hsb => ⟨lim.fresh _ hsb, ?_⟩) Sc.kind)
    show codeAny _ _ (.expr e (NdefX.envF F.nf f s.heap.objs.size)) _ _
    have kp : ∀ b o, s.heap.get? b = some o → h₁.get? b = some o := fun b o e => hsb.extBut b o (Nat.ne_of_lt (Heap.lt_size e)) (Heap.get?_push_of_some _ e)
    have key := hge [] _ (NdefX.startF N vs ws) H (startD N.length (ds ++ caps)) η S (start h₁ hns kp) (Nat.le_trans tk (Nat.le_add_right _ _)) sr st
    rw [hgg, bind_run] at hg
    cases z : ge (startD N.length (ds ++ caps)) S with
    | bad => rw [z] at hg; cases hg
    | ok d' S2 =>
      rw [z] at hg key
      cases hg
      rcases hfl with h | ⟨⟨ρ, h⟩, _⟩
      · cases h
        refine PySem.W.kla_codeExpr (wpAny_mono (key (fun _ _ => False)) (fun u s' z => ?_) fun _ _ z => z.elim)
        obtain ⟨tk2, σ2, η2, H2, I2, g2, st2, _, v, ru, rp⟩ := z
        exact ⟨u, v, η2, H2, rfl, tk2, I2.os, I2.bare, I2.base, I2.hok, g2, st2, ru, rp⟩
      · cases h
/-! ### the making -/
/-- what a def asks that makes functions of the name x -/
structure MkOk (τ : Tau) (X : Cx) (x : Str) : Prop where
  ex : ∃ c P, X.env.code = .ref c ∧ LamX.TabB X.base X.mg c P ∧ (P, fun _ _ => X.env.qual ++ x) ∈ τ.tabs ∧ ∀ p ∈ τ.tabs, p.1 = P → p.2 = fun _ _ => X.env.qual ++ x
def CB.fb : CB → FuncBody
  | .st b => .stmts b
  | .ex e => .expr e
section
variable {X : Cx} {pins : List (Addr × Obj)} {σ : L2.St} {H : Hp} {s : Shared}
theorem inv_fnC {F : CF} {o : Obj} {t' : Nat} {doc pm ctv : Value} (I : Inv X pins σ H s) (ho : o = { cls := .type "function", data := .func (F.fd doc pm ctv) }) :
    Inv X pins σ (upd H s.heap.objs.size (FnC s.heap.objs.size F)) { s with heap := s.heap.push o, toks := t' } := by
  subst ho
  refine I.laid (a := s.heap.objs.size) (fun b u e => Heap.get?_push_of_some _ e) (Nat.le_refl _) ?_
  have e : (s.heap.push ({ cls := .type "function", data := .func (F.fd doc pm ctv) } : Obj)).get? s.heap.objs.size = some ({ cls := .type "function", data := .func (F.fd doc pm ctv) } : Obj) := Heap.get?_push_size _ rfl
  exact ⟨⟨_, _, doc, pm, ctv, e⟩, ⟨_, e⟩, fun h1 h2 ⟨od, sl, d, p, t, z⟩ st => ⟨od, sl, d, p, t, st _ z⟩⟩
theorem tabs_ext {T : List NdefX.NTab} {H H' : Hp} (t : NdefX.TabsN T H) (e : ∀ b o, H b = some o → H' b = some o) : NdefX.TabsN T H' := fun p hp => (t p hp).ext e
theorem upd_nn {H : Hp} {a b : Addr} {o : HO} (h : H b ≠ none) : upd H a o b ≠ none := by
  unfold upd
  split
  · simp
  · exact h
theorem sto_upd {τ : Tau} {K : PySem.W.Frag} {η : List Addr} {H H' : Hp} {S : Sto} (st : StoOk τ K η H S) (g : Grow η H η H') (ht : NdefX.TabsN τ.tabs H') (hk : ∀ a ∈ η, H' a = H a) : StoOk τ K η H' S :=
  ⟨st.len, st.nd, fun n o a h1 h2 => (st.look n o a h1 h2).grow g (hk a (List.mem_of_getElem? h2)), ht⟩
/-- the function's object is made: its code object is new, or found in the table -/
theorem fun_make {τ : Tau} {x : Str} {params : Arguments} {body : CB} {scope : Scope} {pos : Pos} {E : Value → Shared → Prop} {Q : Value → Shared → Prop} {η : List Addr} {S : Sto} (I : Inv X pins σ H s) (st : StoOk τ X.K η H S) (hm : MkOk τ X x) (hfree : ∀ y ∈ scope.names, y.2 = .free → ∃ c, X.env.cells.lookup y.1 = some c)
    (h : ∀ (f c' : Addr) (H1 : Hp) (s' : Shared), Inv X pins σ H1 s' → Grow η H η H1 → StoOk τ X.K η H1 S → FAt η H1 f ⟨x, X.env.qual ++ x, params, body, scope, cloFrom X.env.cells scope.names [], c'⟩ → Q (.ref f) s') :
    wpAny (model X.prog X.w) X.A (makeFunction x (X.env.qual ++ x) params body.fb scope X.env [] [] [] pos pos.line) Q E s := by
  obtain ⟨c, P, hcode, TB, hmem, hu⟩ := hm.ex
  obtain ⟨ps, hP, ht, ha⟩ := (show NdefX.TabN H P _ from st.tabs _ hmem)
  have bP : s.heap.BuiltinsAt X.mg P := TB.bm.keeps I.bk
  have hP' : s.heap.get? P = some { cls := .none, data := .fields ps } := I.hok P _ hP
  have nP : P ∉ η := fun hm => by
    obtain ⟨u, e, k⟩ := st.tracked hm
    exact (trk_tbl k).1 ps (Option.some.inj (e.symm.trans hP))
  have fin : ∀ (H1 : Hp) (s1 : Shared) (c' f : Addr), Inv X pins σ H1 s1 → Grow η H η H1 → StoOk τ X.K η H1 S → H1 c' = some (LamX.CodeO c' (X.env.qual ++ x)) → c' ∉ η → s1.heap.objs.size = f → ∀ (doc pm ctv : Value) (tk : Nat) (o : Obj), o = { cls := .type "function", data := .func ((⟨x, X.env.qual ++ x, params, body, scope, cloFrom X.env.cells scope.names [], c'⟩ : CF).fd doc pm ctv) } →
      Q (.ref f) { s1 with heap := s1.heap.push o, toks := tk } := by
    intro H1 s1 c' f I1 g1 st1 hc hcn hf doc pm ctv tk o ho
    subst hf
    have I2 := inv_fnC (F := ⟨x, X.env.qual ++ x, params, body, scope, cloFrom X.env.cells scope.names [], c'⟩) (t' := tk) I1 ho
    have nF : H1 s1.heap.objs.size = none := I1.hok.fresh (Nat.le_refl _)
    refine h _ c' _ _ I2 (g1.trans (grow_new st1 nF)) (st1.laid nF) ⟨upd_same, st1.fresh nF, ?_, hcn⟩
    exact (upd_ne (ne_of_none hc nF)).trans hc
  cases hc : codeAmong pos ps.toList with
  | none =>
    have go : ∀ (c' : Addr) (ctv doc : Value) (h' : Heap) (tk : Nat), Heap.ExtBut P s.heap h' → s.heap.objs.size ≤ c' → c' < h'.objs.size → h'.CodeRec (.ref c') (X.env.qual ++ x) → h'.get? P = some (PySem.W.tabObj (ps ++ #[rawInt pos.line, rawInt pos.col, .ref c'])) →
        ∀ o : Obj, (∃ doc pm ctv, o = { cls := .type "function", data := .func ((⟨x, X.env.qual ++ x, params, body, scope, cloFrom X.env.cells scope.names [], c'⟩ : CF).fd doc pm ctv) }) → Q (.ref h'.objs.size) { s with heap := h'.push o, toks := tk } := by
      intro c' ctv doc h' tk hx hge hlt hrec htb o ⟨doc, pm, ctv, ho⟩
      obtain ⟨c2, oc, vs, t, e2, hoc, hd, hv⟩ := hrec
      cases e2
      have nC : H c' = none := I.hok.fresh hge
      have I1 := LamX.inv_table (t' := tk) (more := #[rawInt pos.line, rawInt pos.col, .ref c']) (h' := h') I hP (fun b o hb e => hx b o hb e) htb hge ⟨oc, vs, t, hoc, hd, hv⟩
      have hE : ∀ b o, H b = some o → (∀ ps, o ≠ .tbl ps) → upd (upd H P (.tbl (ps ++ #[rawInt pos.line, rawInt pos.col, .ref c']))) c' (LamX.CodeO c' (X.env.qual ++ x)) b = some o := fun b o e n => by
        rw [upd_ne (ne_of_none e nC), upd_ne (fun z => n ps (Option.some.inj (e.symm.trans (by rw [z]; exact hP))))]
        exact e
      have g1 : Grow η H η (upd (upd H P (.tbl (ps ++ #[rawInt pos.line, rawInt pos.col, .ref c']))) c' (LamX.CodeO c' (X.env.qual ++ x))) :=
        ⟨⟨[], by simp, fun _ h => nomatch h⟩, fun a o _ n e => hE a o e n, fun a e => upd_nn (upd_nn e), fun a o u e => hE a _ e nt_frz⟩
      have eL : (ps ++ #[rawInt pos.line, rawInt pos.col, .ref c']).toList = ps.toList ++ [rawInt pos.line, rawInt pos.col, .ref c'] := by simp
      have T1 : NdefX.TabsN τ.tabs (upd (upd H P (.tbl (ps ++ #[rawInt pos.line, rawInt pos.col, .ref c']))) c' (LamX.CodeO c' (X.env.qual ++ x))) := fun p hp => by
        by_cases hb : p.1 = P
        · rw [hu p hp hb, hb]
          refine ⟨_, by rw [upd_ne (ne_of_none hP nC), upd_same], by rw [eL]; exact PySem.TriplesOk_snoc _ _ _ _ ht, fun p' cv hcv => ?_⟩
          rw [eL] at hcv
          rcases NdefX.among_app2 _ ht hcv with z | ⟨z, z1, z2⟩
          · obtain ⟨c0, e1, e2⟩ := ha p' cv z
            exact ⟨c0, e1, hE _ _ e2 LamX.codeO_ne⟩
          · exact ⟨c', z, upd_same⟩
        · obtain ⟨ps', a1, a2, a3⟩ := st.tabs p hp
          refine ⟨ps', by rw [upd_ne (ne_of_none a1 nC), upd_ne hb]; exact a1, a2, fun p' cv hcv => ?_⟩
          obtain ⟨c0, e1, e2⟩ := a3 p' cv hcv
          exact ⟨c0, e1, hE _ _ e2 LamX.codeO_ne⟩
      have ncη : c' ∉ η := st.fresh nC
      have st1 : StoOk τ X.K η _ S := sto_upd st g1 T1 fun a ha => by
        rw [upd_ne (fun z => ncη (by rw [← z]; exact ha)), upd_ne (fun z => nP (by rw [← z]; exact ha))]
      exact fin _ { s with heap := h', toks := tk } c' _ I1 g1 st1 upd_same ncη rfl doc pm ctv tk o ho
    cases body with
    | st b => exact PySem.W.makeFunction_K (mg := X.mg) (c := c) (P := P) (ps := ps) (closure_ok hfree) I.ok.glob (I.mod.glob.keeps I.bk) hcode (TB.code.keeps I.bk) hP' ht hc TB.gP bP fun c' ctv doc h' tk hx hge hlt hrec htb => go c' ctv doc h' tk hx hge hlt hrec htb _ ⟨_, _, _, rfl⟩
    | ex e => exact PySem.W.kla_makeFunction (mg := X.mg) (c := c) (P := P) (ps := ps) (closure_ok hfree) I.ok.glob (I.mod.glob.keeps I.bk) hcode (TB.code.keeps I.bk) hP' ht hc TB.gP bP fun c' ctv h' tk hx hge hlt hrec htb => go c' ctv .none h' tk hx hge hlt hrec htb _ ⟨.none, _, _, rfl⟩
  | some cv =>
    obtain ⟨c', e, hco⟩ := ha pos cv hc
    subst e
    have ncη : c' ∉ η := fun hm => by
      obtain ⟨u, e, k⟩ := st.tracked hm
      exact (trk_tbl k).2 _ _ (Option.some.inj (e.symm.trans hco))
    cases body with
    | st b =>
      refine PySem.W.makeFunction_hit (mg := X.mg) (c := c) (P := P) (ps := ps) (closure_ok hfree) I.ok.glob (I.mod.glob.keeps I.bk) hcode (TB.code.keeps I.bk) hP' ht hc bP fun ctv doc h' tk hx hsz => ?_
      have I1 : Inv X pins σ H { s with heap := h', toks := tk } := I.kept hx
      exact fin H _ c' _ I1 (.refl _ _) st hco ncη rfl _ _ _ tk _ rfl
    | ex e =>
      refine PySem.W.kla_makeFunctionHit (mg := X.mg) (c := c) (P := P) (ps := ps) (closure_ok hfree) I.ok.glob (I.mod.glob.keeps I.bk) hcode (TB.code.keeps I.bk) hP' ht hc bP fun ctv h' tk hx hsz => ?_
      have I1 : Inv X pins σ H { s with heap := h', toks := tk } := I.kept hx
      exact fin H _ c' _ I1 (.refl _ _) st hco ncη rfl .none _ _ tk _ rfl
end
end MP

/-! MP17c: functions as arguments; their calls; the def statement. -/
namespace MP
open PySem L2 PyProof.Rows
section
variable {X : Cx} {pins : List (Addr × Obj)} {σ : L2.St} {H : Hp} {s : Shared}
open Classical in
/-- the base, and the running def's own cells -/
theorem env0_wide (I : Inv X pins σ H s) (hfn : ∀ x, X.fn x = true) : ∃ B : Heap, Env0 X.prog X.w X.K X.mg B X.A X.stack s H ∧ (∀ b o, X.base.get? b = some o → B.get? b = some o) ∧ ∀ y c v, X.env.cells.lookup y = some c → s.heap.IsCell c v → B.IsCell c v := by
  let H' : Hp := fun b => if (X.base.get? b).isSome = true ∨ ∃ y, X.env.cells.lookup y = some b then none else some (.own 0)
  have k1 : ∀ b o, X.base.get? b = some o → (hidT s.heap H').get? b = some o := fun b o e => hidT_get (I.bk b o e) (if_pos (.inl (by rw [e]; rfl)))
  have k2 : ∀ y c v, X.env.cells.lookup y = some c → s.heap.IsCell c v → (hidT s.heap H').IsCell c v := fun y c v e ⟨o, ho, hd⟩ => ⟨o, hidT_get ho (if_pos (.inr ⟨y, e⟩)), hd⟩
  have back : ∀ b o, (hidT s.heap H').get? b = some o → s.heap.get? b = some o ∧ (X.base.get? b = some o ∨ ∃ y, X.env.cells.lookup y = some b) := fun b o e => by
    obtain ⟨e1, e2⟩ := of_hidT e
    refine ⟨e1, ?_⟩
    by_cases h : (X.base.get? b).isSome = true ∨ ∃ y, X.env.cells.lookup y = some b
    · rcases h with h | h
      · obtain ⟨o', q⟩ := Option.isSome_iff_exists.mp h
        have := I.bk b o' q
        rw [e1] at this
        cases this
        exact .inl q
      · exact .inr h
    · have e2 : H' b = none := e2
      rw [show H' b = some (.own 0) from if_neg h] at e2
      cases e2
  have e0 := I.env0
  refine ⟨hidT s.heap H', ⟨e0.frames, ⟨e0.mod.kin.keeps k1, ?_, ?_, e0.mod.nolimit.keeps k1⟩, fun b o e => ?_, Nat.le_of_eq (hidT_size _ _), ?_, e0.frf, e0.hok, e0.bare⟩, k1, k2⟩
  · obtain ⟨o, es, ep, a, r⟩ := e0.mod.glob
    exact ⟨o, es, ep, k1 _ _ a, r⟩
  · obtain ⟨mb, ⟨o, es, ep, a, r⟩, hb⟩ := e0.mod.blt
    exact ⟨mb, ⟨o, es, ep, k1 _ _ a, r⟩, hb⟩
  · obtain ⟨e1, e2⟩ := back b o e
    refine ⟨e1, ?_⟩
    rcases e2 with e2 | ⟨y, e2⟩
    · exact (I.bs b o e2).2
    · exact I.freeC y b e2
  · refine funFrames_none e0.funs fun L hL => ?_
    cases q : (hidT s.heap H').get? L with
    | none => rfl
    | some o =>
      exfalso
      obtain ⟨e1, e2⟩ := back L o q
      rcases e2 with e2 | ⟨y, e2⟩
      · have := (e0.funs.mem hL).1
        rw [e2] at this
        cases this
      · have big := I.ok.cab y L (hfn y) e2
        have old : ∀ L, L ∈ X.fs → L < X.s_0.heap.objs.size := fun L hL => by
          obtain ⟨_, o', z, _⟩ := I.ok.funs.mem hL
          exact Heap.lt_size z
        rcases I.ok.stk with h | ⟨h, hfr⟩
        · rw [h] at hL
          exact Nat.lt_irrefl _ (Nat.lt_of_lt_of_le (old L hL) big)
        · rw [h] at hL
          have hL : L ∈ frs (X.env :: X.outer) := hL
          unfold frs at hL
          rw [List.filterMap_cons, hfr] at hL
          rcases List.mem_cons.mp hL with hL | hL
          · subst hL
            obtain ⟨v, oc, hc, hd⟩ := I.cell y _ e2
            obtain ⟨m, ⟨o2, es, ep, hn, hdd, _⟩, _⟩ := I.loc
            rw [hc] at hn
            cases hn
            rw [hd] at hdd
            cases hdd
          · exact Nat.lt_irrefl _ (Nat.lt_of_lt_of_le (old L hL) big)
theorem BaseOk.mono {mg : Str → Option Value} {cs : List (Addr × Addr)} {B B' : Heap} (h : BaseOk mg cs B) (k : ∀ b o, B.get? b = some o → B'.get? b = some o) : BaseOk mg cs B' :=
  ⟨let ⟨o, e⟩ := h.1; ⟨o, k _ _ e⟩, fun p hp => let t := h.2 p hp; ⟨t.code.keeps k, t.bm.keeps k, t.gP⟩⟩
end
/-- the value v is the function d, now -/
def CloNow (τ : Tau) (X : Cx) (σ : L2.St) (η : List Addr) (H : Hp) (d : D) (v : V) : Prop :=
  (∀ k, d ≠ .own k) ∧ (CloV τ X.K X.base η H d v ∨ ((∀ x, X.fn x = true) ∧ ∃ (k : Nat) (caps : List D) (f : Addr) (F : CF) (fr : List Str) (js : List Nat), d = .clo k caps ∧ v = .ref f ∧ τ.txt k F fr ∧ FAt η H f F ∧ NdefX.Caps X F.cl fr js ∧ CapsRep X.K η H caps (js.map (NdefX.slotAt σ))))
theorem CloNow.grow {τ : Tau} {X : Cx} {σ : L2.St} {η η' : List Addr} {H H' : Hp} {d : D} {v : V} (h : CloNow τ X σ η H d v) (g : Grow η H η' H') : CloNow τ X σ η' H' d v := by
  obtain ⟨h0, h | ⟨h1, k, caps, f, F, fr, js, a, b, c, d, e, i⟩⟩ := h
  · exact ⟨h0, .inl (h.grow g)⟩
  · exact ⟨h0, .inr ⟨h1, k, caps, f, F, fr, js, a, b, c, d.grow g, e, i.grow g⟩⟩
inductive ANow (τ : Tau) (X : Cx) (σ : L2.St) (cps : List Nat) (η : List Addr) (H : Hp) : Nat → List D → List V → Prop
  | nil {j : Nat} : ANow τ X σ cps η H j [] []
  | cons {j : Nat} {d : D} {v : V} {ds : List D} {vs : List V} : (Rep X.K η H d v ∨ (j ∈ cps ∧ CloNow τ X σ η H d v)) → ANow τ X σ cps η H (j + 1) ds vs → ANow τ X σ cps η H j (d :: ds) (v :: vs)
def relA (τ : Tau) (X : Cx) (cps : List Nat) (j : Nat) (σ : L2.St) : L2.St → List Addr → Hp → List D → List Value → Prop := fun σ' η H ds us => σ' = σ ∧ ∃ vs, Vals vs us ∧ ANow τ X σ cps η H j ds vs
def relC (τ : Tau) (X : Cx) (σ : L2.St) : L2.St → List Addr → Hp → D → Value → Prop := fun σ' η H d u => σ' = σ ∧ ∃ f, u = .ref f ∧ CloNow τ X σ η H d (.ref f)
def PDA (τ : Tau) (X : Cx) (cps : List Nat) (j : Nat) (es : List Expr) (g : Env → M (List D)) : Prop := ∀ (pos : Pos) (pins : List (Addr × Obj)) (s : Shared) (σ : L2.St) (H : Hp) (ρ : Env) (η : List Addr) (S : Sto),
  Inv X pins σ H s → τ.lo ≤ s.toks → SRel τ X.K X.base η H σ ρ → StoOk τ X.K η H S → Out τ X pins η H (relA τ X cps j σ) (g ρ S) (sem X (spliced (backTo pos (starEach es X.env)))) s
def PDC (τ : Tau) (X : Cx) (e : Expr) (g : Env → M D) : Prop := ∀ (pins : List (Addr × Obj)) (s : Shared) (σ : L2.St) (H : Hp) (ρ : Env) (η : List Addr) (S : Sto),
  Inv X pins σ H s → τ.lo ≤ s.toks → SRel τ X.K X.base η H σ ρ → StoOk τ X.K η H S → Out τ X pins η H (relC τ X σ) (g ρ S) (sem X (eval e X.env)) s
section
variable {τ : Tau} {X : Cx} {e : Expr} {es : List Expr} {cps : List Nat} {j : Nat}
theorem pda_nil : PDA τ X cps j [] (fun _ => pure []) := fun pos pins s σ H ρ η S I tk sr st E => Calls.spliced_nil ⟨tk, σ, η, H, I, .refl _ _, st, rfl, [], .nil, .nil⟩
theorem pda_d {ga : Env → M D} {gr : Env → M (List D)} (ha : PD τ X e ga) (hr : PDA τ X cps (j + 1) es gr) (hs : starEach (e :: es) X.env = (false, eval e X.env) :: starEach es X.env) : PDA τ X cps j (e :: es) (fun ρ => ga ρ >>= fun d => gr ρ >>= fun ds => pure (d :: ds)) := by
  intro pos pins s σ H ρ η S I tk sr st
  rw [hs]
  refine Out.seq (t1 := eval e X.env) (W2 := fun v Q E s1 => wpAny (model X.prog X.w) X.A (spliced (backTo pos (starEach es X.env))) (fun vs s2 => Q (v :: vs) s2) E s1) (fun Q E h => Calls.spliced_cons h) (ha pins s σ H ρ η S I tk sr st) ?_
  rintro v s1 σ1 η1 H1 d S1 _ tk1 I1 g1 st1 ⟨rfl, x, rx, rd⟩
  refine Out.back (fun Q Q' E s' hQ w => wpAny_mono w (fun vs s2 z => hQ _ _ z) fun _ _ z => z) g1 ?_
  refine Out.seq (t1 := spliced (backTo pos (starEach es X.env))) (W2 := fun vs Q E s2 => Q (v :: vs) s2) (fun Q E h => h) (hr pos pins s1 σ1 H1 ρ η1 S1 I1 tk1 (sr.grow g1) st1) ?_
  rintro vs s2 σ2 η2 H2 ds S2 _ tk2 I2 g2 st2 ⟨rfl, xs, rxs, rds⟩
  exact fun E => ⟨tk2, _, η2, H2, I2, g2, st2, rfl, x :: xs, .cons rx rxs, .cons (.inl (rd.grow g2)) rds⟩
theorem pda_c {ga : Env → M D} {gr : Env → M (List D)} (hj : j ∈ cps) (ha : PDC τ X e ga) (hr : PDA τ X cps (j + 1) es gr) (hs : starEach (e :: es) X.env = (false, eval e X.env) :: starEach es X.env) : PDA τ X cps j (e :: es) (fun ρ => ga ρ >>= fun d => gr ρ >>= fun ds => pure (d :: ds)) := by
  intro pos pins s σ H ρ η S I tk sr st
  rw [hs]
  refine Out.seq (t1 := eval e X.env) (W2 := fun v Q E s1 => wpAny (model X.prog X.w) X.A (spliced (backTo pos (starEach es X.env))) (fun vs s2 => Q (v :: vs) s2) E s1) (fun Q E h => Calls.spliced_cons h) (ha pins s σ H ρ η S I tk sr st) ?_
  rintro v s1 σ1 η1 H1 d S1 _ tk1 I1 g1 st1 ⟨rfl, f, rfl, rd⟩
  refine Out.back (fun Q Q' E s' hQ w => wpAny_mono w (fun vs s2 z => hQ _ _ z) fun _ _ z => z) g1 ?_
  refine Out.seq (t1 := spliced (backTo pos (starEach es X.env))) (W2 := fun vs Q E s2 => Q (.ref f :: vs) s2) (fun Q E h => h) (hr pos pins s1 σ1 H1 ρ η1 S1 I1 tk1 (sr.grow g1) st1) ?_
  rintro vs s2 σ2 η2 H2 ds S2 _ tk2 I2 g2 st2 ⟨rfl, xs, rxs, rds⟩
  exact fun E => ⟨tk2, _, η2, H2, I2, g2, st2, rfl, .ref f :: xs, .cons rfl rxs, .cons (.inr ⟨hj, rd.grow g2⟩) rds⟩
def getC (ρ : Env) (i : Nat) : M D := match ρ[i]? with
  | some (some (.clo k caps)) => pure (.clo k caps)
  | _ => M.fail
def capsD (ρ : Env) : List Nat → M (List D)
  | [] => pure []
  | j :: js => M.of ((ρ[j]?).bind id) >>= fun d => capsD ρ js >>= fun ds => pure (d :: ds)
theorem capsD_rep {K : PySem.W.Frag} {B : Heap} {η : List Addr} {H : Hp} {σ : L2.St} {ρ : Env} (sr : SRel τ K B η H σ ρ) : ∀ (js : List Nat) (S : Sto) (ds : List D) (S' : Sto), (∀ j ∈ js, j ∉ τ.cp) → capsD ρ js S = .ok ds S' → S' = S ∧ CapsRep K η H ds (js.map (NdefX.slotAt σ))
  | [], S, ds, S', _, h => by cases h; exact ⟨rfl, .nil⟩
  | j :: js, S, ds, S', hj, h => by
    have h : (M.of ((ρ[j]?).bind id) >>= fun d => capsD ρ js >>= fun ds => pure (d :: ds)) S = .ok ds S' := h
    rw [bind_run] at h
    cases q : ρ[j]? with
    | none => rw [q] at h; cases h
    | some o =>
      cases o with
      | none => rw [q] at h; cases h
      | some d =>
        rw [q] at h
        have h : (capsD ρ js >>= fun ds => pure (d :: ds)) S = .ok ds S' := h
        rw [bind_run] at h
        cases q2 : capsD ρ js S with
        | bad => rw [q2] at h; cases h
        | ok ds2 S2 =>
          rw [q2] at h
          cases h
          obtain ⟨e1, e2⟩ := capsD_rep sr js S ds2 _ (fun i hi => hj i (List.mem_cons_of_mem _ hi)) q2
          obtain ⟨v, h1, h2⟩ := sr.look j d (hj j List.mem_cons_self) q
          refine ⟨e1, ?_⟩
          rw [List.map_cons, NdefX.slotAt_of h1]
          exact .cons h2 e2
theorem getC_cases (ρ : Env) (i : Nat) (S : Sto) : getC ρ i S = .bad ∨ ∃ k caps, ρ[i]? = some (some (.clo k caps)) ∧ getC ρ i S = .ok (.clo k caps) S := by
  unfold getC
  rcases q : ρ[i]? with _ | _ | d
  · exact .inl rfl
  · exact .inl rfl
  · cases d with
    | clo k caps => exact .inr ⟨k, caps, rfl, rfl⟩
    | _ => exact .inl rfl
/-- a slot that holds a function -/
theorem pdc_par {i : Nat} {x : Str} {p : Pos} (hN : X.N[i]? = some x) (hv : Vis X.env.scope x) (hd : (x == ("__debug__" : Str)) = false) (hcd : (x == ("__classdict__" : Str)) = false) : PDC τ X (.Name x p) (fun ρ => getC ρ i) := by
  intro pins s σ H ρ η S I tk sr st
  show Out τ X pins η H (relC τ X σ) (getC ρ i S) _ s
  rcases getC_cases ρ i S with e | ⟨k, caps, q, e⟩
  · rw [e]; exact trivial
  · rw [e]
    intro E
    obtain ⟨v, h1, h2⟩ := sr.lookC i _ q
    have hc : ∃ f, v = .ref f ∧ CloNow τ X σ η H (.clo k caps) (.ref f) := by
      rcases h2 with h2 | ⟨_, h2⟩
      · cases h2
      · cases h2 with
        | gl h => exact ⟨_, rfl, nofun, .inl (.gl h)⟩
        | lo a b c d => exact ⟨_, rfl, nofun, .inl (.lo a b c d)⟩
    obtain ⟨f, rfl, hc⟩ := hc
    refine wpAny_mono (PySem.wpAny_toks ((pe_var (X := X.wish E) (pos := p) hN hv hd hcd).run pins s σ H (fun v H1 => v = .ref f ∧ H1 = H) (I.wish E) ⟨.ref f, h1, rfl, rfl⟩)) (fun u s1 z => ?_) fun _ _ z => z.2
    obtain ⟨tk1, v, H1, I1, r1, ev, eH⟩ := z
    subst ev
    rw [eH] at I1
    obtain rfl : u = Value.ref f := r1
    exact ⟨Nat.le_trans tk tk1, σ, η, H, I1.unwish, .refl _ _, st, rfl, f, rfl, hc⟩
/-- a def of the top -/
theorem pdc_glb {x : Str} {f : Addr} {k : Nat} {p : Pos} (hg : Gl X x) (hm : X.mg x = some (.ref f)) (hf : τ.gf k f) (hdb : (x == ("__debug__" : Str)) = false) : PDC τ X (.Name x p) (fun _ => pure (.clo k [])) := by
  intro pins s σ H ρ η S I tk sr st E
  exact ld_glob I hg hm ⟨tk, σ, η, H, I, .refl _ _, st, rfl, f, rfl, nofun, .inl (.gl hf)⟩ hdb
/-- a lambda -/
theorem pdc_lam {params : Arguments} {body : Expr} {scope : Scope} {pos : Pos} {k : Nat} {fr : List Str} {js : List Nat} (hm : MkOk τ X "<lambda>") (hd0 : params.defaults = []) (hk0 : params.kw_defaults = []) (hfn : ∀ x, X.fn x = true)
    (hfree : ∀ y ∈ scope.names, y.2 = .free → X.env.scope.names.lookup y.1 = some .cell ∨ X.env.scope.names.lookup y.1 = some .free) (hfr : ∀ y ∈ fr, (y, NameKind.free) ∈ scope.names) (hjs : js.map (fun j => X.N[j]?) = fr.map some) (hcp : ∀ j ∈ js, j ∉ τ.cp)
    (ht : ∀ c', τ.txt k ⟨"<lambda>", X.env.qual ++ "<lambda>", params, .ex body, scope, cloFrom X.env.cells scope.names [], c'⟩ fr) : PDC τ X (.Lambda params body scope pos) (fun ρ => capsD ρ js >>= fun ds => pure (.clo k ds)) := by
  intro pins s σ H ρ η S I tk sr st
  show Out τ X pins η H (relC τ X σ) ((capsD ρ js >>= fun ds => pure (.clo k ds)) S) _ s
  rw [bind_run]
  cases q : capsD ρ js S with
  | bad => exact trivial
  | ok ds S' =>
    obtain ⟨rfl, hc⟩ := capsD_rep sr js S ds S' hcp q
    intro E
    have hf : ∀ y ∈ scope.names, y.2 = .free → ∃ c, X.env.cells.lookup y.1 = some c := fun y hy e => (hfree y hy e).elim (fun z => I.ok.has _ (.inl z)) fun z => I.ok.has _ (.inr z)
    refine wpAny_mono (PySem.wpAny_toks (PySem.W.kla_eval (Q := fun u s' => ∃ η' H', Inv X pins σ H' s' ∧ Grow η H η' H' ∧ StoOk τ X.K η' H' S' ∧ ∃ f, u = .ref f ∧ CloNow τ X σ η' H' (.clo k ds) (.ref f)) (E := E) (by rw [defaultsOf_eq, hd0, hk0]; rfl)
      (fun_make (x := "<lambda>") (body := .ex body) I st hm hf fun f c' H1 s' I1 g1 st1 hF => ⟨η, H1, I1, g1, st1, f, rfl, nofun, .inr ⟨hfn, k, ds, f, _, fr, js, rfl, rfl, ht c', hF, NdefX.Caps.made I.ok hfree hfr hjs, hc.grow g1⟩⟩))) (fun u s1 z => ?_) fun _ _ z => z.2
    obtain ⟨tk1, η', H', I1, g1, st1, f, rfl, hq⟩ := z
    exact ⟨Nat.le_trans tk tk1, σ, η', H', I1, g1, st1, rfl, f, rfl, hq⟩
end
end MP

/-! MP17d: functions called; the def statement. -/
namespace MP
open PySem L2 PyProof.Rows
section
variable {τ : Tau} {X : Cx} {e : Expr} {es : List Expr} {n : Nat}
theorem cellsAt_to {cl : List (Str × Addr)} {fr : List Str} {ws : List (Option V)} {h h' : Heap} {H H' : Hp} (C : NdefX.CellsAt cl fr ws h H) (k : ∀ y c v, cl.lookup y = some c → h.IsCell c v → h'.IsCell c v) (n : ∀ y c, cl.lookup y = some c → H' c = none) : NdefX.CellsAt cl fr ws h' H' :=
  ⟨C.len, fun y c e => ⟨n y c e, let ⟨v, z⟩ := (C.all y c e).2; ⟨v, k y c v e z⟩⟩, C.inj, fun i y e => let ⟨c, hc, hv⟩ := C.has i y e; ⟨c, hc, fun v ev => let ⟨u, r, z⟩ := hv v ev; ⟨u, r, k y c _ hc z⟩⟩⟩
theorem anow_reps {τ' : Tau} {cps : List Nat} (hcp : ∀ j ∈ cps, j ∈ τ'.cp) {pins : List (Addr × Obj)} {s : Shared} {σ : L2.St} {H : Hp} {η : List Addr} (I : Inv X pins σ H s) (e : τ.Same τ') {B : Heap} (kB : ∀ b o, X.base.get? b = some o → B.get? b = some o)
    (kC : (∀ x, X.fn x = true) → ∀ y c v, X.env.cells.lookup y = some c → s.heap.IsCell c v → B.IsCell c v) : ∀ {j : Nat} {ds : List D} {vs : List V}, ANow τ X σ cps η H j ds vs → AReps τ' X.K B η H j ds vs
  | _, _, _, .nil => .nil
  | _, _, _, .cons h t => by
    refine .cons ?_ (anow_reps hcp I e kB kC t)
    rcases h with h | ⟨hj, h0, h⟩
    · exact .inl h
    · refine .inr ⟨hcp _ hj, h0, ?_⟩
      rcases h with h | ⟨hfn, k, caps, f, F, fr, js, rfl, rfl, a3, a4, a5, a6⟩
      · cases h with
        | gl h => exact .gl (by rw [e.gf]; exact h)
        | lo b1 b2 b3 b4 => exact .lo (by rw [e.txt]; exact b1) b2 (cellsAt_to b3 (fun y c v _ z => z.keeps kB) fun _ _ _ => rfl) b4
        | own => exact absurd rfl (h0 _)
      · exact .lo (by rw [e.txt]; exact a3) a4 (cellsAt_to (NdefX.cells_of I a5) (fun y c v q z => kC hfn y c v (a5.sub y c q) z) fun _ _ _ => rfl) a6
theorem run_fnK {τ' : Tau} {cps : List Nat} (hcp : ∀ j ∈ cps, j ∈ τ'.cp) {cs : List (Addr × Addr)} {f : Addr} {fd : FuncData} {ps : List Str} {g : List D → M D} (F : FnK τ' X.prog X.w X.K X.mg cs n f fd ps g) (et : τ.Same τ') (hbase : BaseOk X.mg cs X.base) (c : Ck n X) (hb : Binds X.K fd ps []) {pins : List (Addr × Obj)} {s : Shared} {σ : L2.St} {H : Hp} {η : List Addr} {S : Sto} {xs : List V} {us : List Value} {ds : List D}
    (I : Inv X pins σ H s) (tk : τ.lo ≤ s.toks) (st : StoOk τ X.K η H S) (rv : Vals xs us) (rd : ANow τ X σ cps η H 0 ds xs) (hl : ds.length = ps.length) : Out τ X pins η H (relV X.K σ) (g ds S) (sem X (call (.ref f) us)) s := by
  refine Out.never fun d S' q => ?_
  have key : ∃ B, Env0 X.prog X.w X.K X.mg B X.A X.stack s H ∧ (∀ b o, X.base.get? b = some o → B.get? b = some o) ∧ ((∀ x, X.fn x = true) → ∀ y c v, X.env.cells.lookup y = some c → s.heap.IsCell c v → B.IsCell c v) := by
    by_cases hfn : ∀ x, X.fn x = true
    · obtain ⟨B, h1, h2, h3⟩ := env0_wide I hfn
      exact ⟨B, h1, h2, fun _ => h3⟩
    · exact ⟨X.base, I.env0, fun _ _ e => e, fun h => absurd h hfn⟩
  obtain ⟨B, e0, kB, kC⟩ := key
  have rd' := anow_reps hcp I et kB kC rd
  have hu : us.length = ps.length := by rw [← rv.length, ← rd'.length]; exact hl
  have hbt := hb s us I.kIn (by rw [List.append_nil]; exact hu)
  rw [List.append_nil] at hbt
  refine wpAny_call (codeAny_mono (F B X.A X.stack s H ⟨us, []⟩ us xs ds η S d S' (hbase.mono kB) c.rm c.gd (by rw [et.lo]; exact tk) e0 hbt rv rd' hl (st.of et) q) fun r s' z => ?_)
  obtain ⟨u, v, η', H', e, tk', os, bare, un, hok, g1, st1, ru, rp⟩ := z
  subst e
  exact ⟨by rw [← et.lo]; exact tk', σ, η', H', I.call' (ch := []) os un hok bare (fun b hb => absurd hb (by simp)), g1, st1.of et.symm, rfl, v, ru, rp⟩
/-- a call that hands functions on -/
theorem pd_callc {τ' : Tau} {cps : List Nat} (hcp : ∀ j ∈ cps, j ∈ τ'.cp) {cs : List (Addr × Addr)} {x : Str} {f : Addr} {fd : FuncData} {ps : List Str} {g : List D → M D} {gl : Env → M (List D)} {p pos : Pos} (F : FnK τ' X.prog X.w X.K X.mg cs n f fd ps g) (et : τ.Same τ') (hbase : BaseOk X.mg cs X.base) (c : Ck n X) (hg : Gl X x) (hm : X.mg x = some (.ref f)) (hk : PySem.W.keepIn X.K (.ref f) = true) (hb : Binds X.K fd ps [])
    (ha : PDA τ X cps 0 (e :: es) gl) (hl : ∀ ρ S ds S', gl ρ S = .ok ds S' → ds.length = ps.length) (hdb : (x == ("__debug__" : Str)) = false) (he : starEach (e :: es) X.env = (false, eval e X.env) :: starEach es X.env) (hpl : (backTo pos (starEach es X.env)).any (·.1) = false) :
    PD τ X (.Call (.Name x p) (e :: es) [] pos) (fun ρ => gl ρ >>= g) := by
  intro pins s σ H ρ η S I tk sr st
  refine Out.seq (t1 := spliced (backTo pos (starEach (e :: es) X.env))) (W2 := fun us Q E s1 => X.K.In s1.heap ∧ wpAny (model X.prog X.w) X.A (call (.ref f) us) Q E s1)
    (fun Q E h => wpAny_Call_Name_kw (ld_glob I hg hm (PySem.W.callWith_K (h₀ := X.base) I.ok.mod.kin hk h he hpl) hdb)) (ha pos pins s σ H ρ η S I tk sr st) ?_
  rintro us s1 σ1 η1 H1 ds S1 q1 tk1 I1 g1 st1 ⟨rfl, xs, rxs, rds⟩
  exact Out.via (fun Q E h => ⟨I1.kIn, h⟩) (Out.back (mono_sem _) g1 (run_fnK hcp F et hbase c hb I1 tk1 st1 rxs rds (hl _ _ _ _ q1)))
/-- what is known of the functions that may stand in slots -/
structure AppOk (τ : Tau) (X : Cx) (cs : List (Addr × Addr)) (n : Nat) (φ : Nat → List D → M D) : Prop where
  gf : ∀ k f, τ.gf k f → ∃ fd ps, Binds X.K fd ps [] ∧ (∀ h, X.K.In h → PySem.W.FnAt f h) ∧ FnD τ X.prog X.w X.K X.mg X.base n f fd ps (φ k) ∧ ∀ ds S d S', φ k ds S = .ok d S' → ds.length = ps.length
  nf : ∀ k F fr, τ.txt k F fr → ∃ np, NFn τ X.prog X.w X.K X.mg cs n k np (φ k) ∧ ∀ ds S d S', φ k ds S = .ok d S' → ds.length = np + fr.length
def appD (φ : Nat → List D → M D) : D → List D → M D
  | .clo k caps, ds => φ k (ds ++ caps)
  | _, _ => M.fail
theorem fnAt_c {pins : List (Addr × Obj)} {σ : L2.St} {H : Hp} {s : Shared} {η : List Addr} {f : Addr} {F : CF} (I : Inv X pins σ H s) (h : FAt η H f F) : PySem.W.FnAt f s.heap := by
  obtain ⟨⟨od, sl, doc, pm, ctv, ho⟩, _, _⟩ := I.hok f _ h.fo
  exact ⟨_, _, _, _, ho⟩
/-- a function in a slot is called -/
theorem pd_app {cs : List (Addr × Addr)} {φ : Nat → List D → M D} {i : Nat} {x : Str} {gl : Env → M (List D)} {p pos : Pos} (ap : AppOk τ X cs n φ) (hbase : BaseOk X.mg cs X.base) (c : Ck n X) (hN : X.N[i]? = some x) (hv : Vis X.env.scope x) (hd : (x == ("__debug__" : Str)) = false) (hcd : (x == ("__classdict__" : Str)) = false)
    (ha : PDL τ X (e :: es) gl) (he : starEach (e :: es) X.env = (false, eval e X.env) :: starEach es X.env) (hpl : (backTo pos (starEach es X.env)).any (·.1) = false) :
    PD τ X (.Call (.Name x p) (e :: es) [] pos) (fun ρ => getC ρ i >>= fun c => gl ρ >>= fun ds => appD φ c ds) := by
  intro pins s σ H ρ η S I tk sr st
  rcases getC_cases ρ i S with z | ⟨k, caps, qq, z⟩
  · show Out τ X pins η H (relV X.K σ) ((getC ρ i >>= fun c => gl ρ >>= fun ds => appD φ c ds) S) _ s
    rw [bind_run, z]
    exact trivial
  obtain ⟨v, h1, h2⟩ := sr.lookC i _ qq
  have hcv : CloV τ X.K X.base η H (.clo k caps) v := by
    rcases h2 with h2 | ⟨_, h2⟩
    · cases h2
    · exact h2
  obtain ⟨f, rfl⟩ : ∃ f, v = .ref f := by
    cases hcv with
    | gl h => exact ⟨_, rfl⟩
    | lo a b c d => exact ⟨_, rfl⟩
  have fnat : ∀ {σ' : L2.St} {η' : List Addr} {H' : Hp} {s' : Shared}, Inv X pins σ' H' s' → Grow η H η' H' → PySem.W.FnAt f s'.heap := fun I' g' => by
    have z := hcv.grow g'
    cases z with
    | gl h => obtain ⟨fd, ps, _, h3, _⟩ := ap.gf _ _ h; exact h3 _ I'.kIn
    | lo a b c d => exact fnAt_c I' b
  refine Out.seq (t1 := eval (.Name x p) X.env) (W2 := fun u Q E s1 => wpAny (model X.prog X.w) X.A (callWith pos u [] (backTo pos (starEach (e :: es) X.env)) []) Q E s1) (fun Q E h => wpAny_Call_Name_kw h)
    (rel := fun σ' η' H' d u => σ' = σ ∧ H' = H ∧ η' = η ∧ u = .ref f ∧ d = .clo k caps) ?_ ?_
  · rw [z]
    intro E
    refine wpAny_mono (PySem.wpAny_toks ((pe_var (X := X.wish E) (pos := p) hN hv hd hcd).run pins s σ H (fun v H1 => v = .ref f ∧ H1 = H) (I.wish E) ⟨.ref f, h1, rfl, rfl⟩)) (fun u s1 z => ?_) fun _ _ z => z.2
    obtain ⟨tk1, v, H1, I1, r1, ev, eH⟩ := z
    subst ev
    rw [eH] at I1
    obtain rfl : u = Value.ref f := r1
    exact ⟨Nat.le_trans tk tk1, σ, η, H, I1.unwish, .refl _ _, st, rfl, rfl, rfl, rfl, rfl⟩
  · rintro u s1 σ1 η1 H1 d S1 _ tk1 I1 g1 st1 ⟨rfl, rfl, rfl, rfl, rfl⟩
    refine Out.seq (t1 := spliced (backTo pos (starEach (e :: es) X.env))) (W2 := fun us Q E s2 => PySem.W.FnAt f s2.heap ∧ wpAny (model X.prog X.w) X.A (call (.ref f) ([] ++ us)) Q E s2) (fun Q E h => PySem.W.callWith_F (fnat I1 g1) h he hpl) (ha pos pins s1 σ1 H1 ρ η1 S1 I1 tk1 sr st1) ?_
    rintro us s2 σ2 η2 H2 ds S2 _ tk2 I2 g2 st2 ⟨rfl, xs, rxs, rds⟩
    refine Out.via (fun Q E h => ⟨fnat I2 (g1.trans g2), h⟩) (Out.back (mono_sem _) g2 ?_)
    show Out τ X pins η2 H2 (relV X.K σ2) (φ k (ds ++ caps) S2) (sem X (call (.ref f) us)) s2
    have zz := hcv.grow (g1.trans g2)
    cases zz with
    | gl h =>
      obtain ⟨fd, ps, hb, _, F, hl⟩ := ap.gf _ _ h
      rw [List.append_nil]
      cases q : φ k ds S2 with
      | bad => exact trivial
      | ok d S3 =>
        have key := run_fnD F c hb I2 tk2 st2 rxs rds (hl _ _ _ _ q)
        rw [q] at key
        exact key
    | @lo _ _ _ F fr ws t1 t2 t3 t4 =>
      obtain ⟨np, NF, hl⟩ := ap.nf _ _ _ t1
      refine Out.never fun d S' q => ?_
      have len : ds.length = np := by
        have h1 := hl _ _ _ _ q
        have h2 := t4.length
        have h3 := t3.len
        rw [List.length_append] at h1
        omega
      have C : NdefX.CellsAt F.cl fr ws s2.heap H2 := cellsAt_to t3 (fun y c v _ z => z.keeps I2.bk) fun y c q => by
        obtain ⟨v, o, ho, _⟩ := (t3.all y c q).2
        exact (I2.bs c o ho).2
      refine wpAny_call (codeAny_mono (NF X.base X.A X.stack s2 H2 f F fr us xs ds caps ws η2 S2 d S' hbase c.rm c.gd tk2 I2.env0 t1 t2 C t4 rxs rds len st2 q) fun r s' z => ?_)
      obtain ⟨u, v, η', H', e, tk', os, bare, un, hok, g1, st1, ru, rp⟩ := z
      subst e
      exact ⟨tk', σ2, η', H', I2.call' (ch := []) os un hok bare (fun b hb => absurd hb (by simp)), g1, st1, rfl, v, ru, rp⟩
/-- def within a def -/
theorem psd_dfn {name : Str} {params : Arguments} {body : List Stmt} {scope : Scope} {pos : Pos} {i k : Nat} {fr : List Str} (hm : MkOk τ X name) (hd0 : params.defaults = []) (hk0 : params.kw_defaults = []) (ha : annTrees params none X.env = [])
    (hN : X.N.Nodup) (hi : X.N[i]? = some name) (hx : Loc X.env.scope name) (hf : X.fn name = true ∨ X.env.scope.names.lookup name = some .local) (hcp : i ∈ τ.cp) (hce : X.env.cells = τ.cells)
    (hfree : ∀ y ∈ scope.names, y.2 = .free → X.env.scope.names.lookup y.1 = some .cell ∨ X.env.scope.names.lookup y.1 = some .free)
    (ht : ∀ c', τ.txt k ⟨name, X.env.qual ++ name, params, .st body, scope, cloFrom X.env.cells scope.names [], c'⟩ fr) :
    PSD τ X (.FunctionDef name params body [] none [] scope none name pos) (fun ρ => pure (.next (ρ.set i (some (.own k))))) := by
  intro pins s σ H ρ η S I tk sr st E
  have hq : qualnameIn X.env name name = X.env.qual ++ name := by
    have hk : X.env.kindOf name = some .local ∨ X.env.kindOf name = some .cell := hx
    unfold qualnameIn
    rcases hk with k | k <;> rw [k] <;> first | rfl | exact if_neg (by decide)
  have hfr : ∀ y ∈ scope.names, y.2 = .free → ∃ c, X.env.cells.lookup y.1 = some c := fun y hy e => (hfree y hy e).elim (fun z => I.ok.has _ (.inl z)) fun z => I.ok.has _ (.inr z)
  refine wpAny_mono (PySem.wpAny_toks (PySem.W.nestDef_K (Q := fun fl s' => fl = .next ∧ ∃ σ' η' H', Inv X pins σ' H' s' ∧ Grow η H η' H' ∧ StoOk τ X.K η' H' S ∧ SRel τ X.K X.base η' H' σ' (ρ.set i (some (.own k)))) (E := E) hd0 hk0 ha ?_)) (fun u s1 z => ?_) fun _ _ z => z.2
  · rw [hq]
    refine fun_make (x := name) (body := .st body) I st hm hfr fun f c' H1 s' I1 g1 st1 hF => ?_
    exact store_ok I1 hN hi hx (v := .ref f) rfl (fun s'' J => ⟨rfl, _, η, H1, J, g1, st1, (sr.grow g1).setC (.inr ⟨hcp, .own (ht c') hF (by rw [hce])⟩)⟩) hf
  · obtain ⟨tk1, rfl, σ', η', H', I1, g1, st1, sr1⟩ := z
    exact ⟨Nat.le_trans tk tk1, σ', η', H', I1, g1, st1, sr1⟩
def getO (ρ : Env) (i k : Nat) : M Unit := match ρ[i]? with
  | some (some (.own k')) => if k' = k then pure () else M.fail
  | _ => M.fail
theorem getO_cases (ρ : Env) (i k : Nat) (S : Sto) : getO ρ i k S = .bad ∨ (ρ[i]? = some (some (.own k)) ∧ getO ρ i k S = .ok () S) := by
  unfold getO
  rcases q : ρ[i]? with _ | _ | d
  · exact .inl rfl
  · exact .inl rfl
  · cases d with
    | own k' =>
      by_cases h : k' = k
      · subst h
        exact .inr ⟨rfl, by simp⟩
      · exact .inl (by simp [h])
    | _ => exact .inl rfl
/-- .. handed on -/
theorem pdc_own {i k : Nat} {x : Str} {p : Pos} {fr : List Str} {js : List Nat} (hN : X.N[i]? = some x) (hv : Vis X.env.scope x) (hd : (x == ("__debug__" : Str)) = false) (hcd : (x == ("__classdict__" : Str)) = false) (hfn : ∀ x, X.fn x = true) (hce : X.env.cells = τ.cells)
    (hu : ∀ F fr', τ.txt k F fr' → fr' = fr ∧ ∀ y ∈ fr, (y, NameKind.free) ∈ F.scope.names) (hfk : ∀ F fr', τ.txt k F fr' → ∀ y ∈ F.scope.names, y.2 = .free → y.1 ∈ fr) (hk : ∀ y ∈ fr, X.env.scope.names.lookup y = some .cell ∨ X.env.scope.names.lookup y = some .free) (hjs : js.map (fun j => X.N[j]?) = fr.map some) (hcp : ∀ j ∈ js, j ∉ τ.cp) :
    PDC τ X (.Name x p) (fun ρ => getO ρ i k >>= fun _ => capsD ρ js >>= fun ds => pure (.clo k ds)) := by
  intro pins s σ H ρ η S I tk sr st
  show Out τ X pins η H (relC τ X σ) ((getO ρ i k >>= fun _ => capsD ρ js >>= fun ds => pure (.clo k ds)) S) _ s
  rw [bind_run]
  rcases getO_cases ρ i k S with z | ⟨qq, z⟩
  · rw [z]; exact trivial
  rw [z]
  show Out τ X pins η H (relC τ X σ) ((capsD ρ js >>= fun ds => pure (.clo k ds)) S) _ s
  rw [bind_run]
  cases q : capsD ρ js S with
  | bad => exact trivial
  | ok ds S' =>
    obtain ⟨rfl, hc⟩ := capsD_rep sr js S ds S' hcp q
    intro E
    obtain ⟨v, h1, h2⟩ := sr.lookC i _ qq
    rcases h2 with h2 | ⟨_, h2⟩
    · cases h2
    · cases h2 with
      | @own _ f F fr' t1 t2 t3 =>
        obtain ⟨rfl, u2⟩ := hu _ _ t1
        refine wpAny_mono (PySem.wpAny_toks ((pe_var (X := X.wish E) (pos := p) hN hv hd hcd).run pins s σ H (fun v H1 => v = .ref f ∧ H1 = H) (I.wish E) ⟨.ref f, h1, rfl, rfl⟩)) (fun u s1 z => ?_) fun _ _ z => z.2
        obtain ⟨tk1, v, H1, I1, r1, ev, eH⟩ := z
        subst ev
        rw [eH] at I1
        obtain rfl : u = Value.ref f := r1
        have cp : NdefX.Caps X F.cl fr' js := by
          rw [t3, ← hce]
          exact NdefX.Caps.made I.ok (fun y hy e => hk y.1 (hfk _ _ t1 y hy e)) u2 hjs
        exact ⟨Nat.le_trans tk tk1, σ, η, H, I1.unwish, .refl _ _, st, rfl, f, rfl, nofun, .inr ⟨hfn, k, ds, f, F, fr', js, rfl, rfl, t1, t2, cp, hc⟩⟩
end
end MP

/-! MP17e: while, +=, dict displays, calls by keywords. -/
namespace MP
open PySem L2 PyProof.Rows
section
variable {τ : Tau} {X : Cx} {e c : Expr} {es : List Expr} {body : List Stmt} {pos : Pos} {n : Nat}
/-! ### while -/
def whlF (gt : Env → M Bool) (gb : Env → M Fl) : Nat → Env → M Fl
  | 0, _ => M.fail
  | k + 1, ρ => gt ρ >>= fun t => if t = true then gb ρ >>= fun fl => (match fl with
      | .next ρ2 => whlF gt gb k ρ2
      | .cont ρ2 => whlF gt gb k ρ2
      | .brk ρ2 => pure (.next ρ2)
      | .ret d => pure (.ret d)) else pure (.next ρ)
theorem psd_while {gt : Env → M Bool} {gb : Env → M Fl} {k : Nat} (hc : PDB τ X c gt) (hb : PSDs τ X body gb) : PSD τ X (.While c body [] pos) (whlF gt gb k) := by
  intro pins s σ H ρ η S I tk sr st
  refine Out.never fun fl S' q => ?_
  refine wpAny_While (codeAny_whileLoop (fun n s' => τ.lo ≤ s'.toks ∧ ∃ σ' η' H' ρ' S2, Inv X pins σ' H' s' ∧ Grow η H η' H' ∧ StoOk τ X.K η' H' S2 ∧ SRel τ X.K X.base η' H' σ' ρ' ∧ whlF gt gb n ρ' S2 = .ok fl S') ?_ k ⟨tk, σ, η, H, ρ, S, I, .refl _ _, st, sr, q⟩)
  rintro n s1 ⟨tk1, σ1, η1, H1, ρ1, S1, I1, g1, st1, sr1, q1⟩
  cases n with
  | zero => cases q1
  | succ m =>
    have q1 : (gt ρ1 >>= fun t => if t = true then gb ρ1 >>= fun fl => (match fl with
      | .next ρ2 => whlF gt gb m ρ2
      | .cont ρ2 => whlF gt gb m ρ2
      | .brk ρ2 => pure (.next ρ2)
      | .ret d => pure (.ret d)) else pure (.next ρ1)) S1 = .ok fl S' := q1
    rw [bind_run] at q1
    have key := hc pins s1 σ1 H1 ρ1 η1 S1 I1 tk1 sr1 st1
    cases qa : gt ρ1 S1 with
    | bad => rw [qa] at q1; cases q1
    | ok t S2 =>
      rw [qa] at q1 key
      refine wpAny_passesOwn PassesOwn.never (wpAny_mono (key (fun _ _ => False)) (fun b s2 z => ?_) fun _ _ z => z)
      obtain ⟨tk2, σ2, η2, H2, I2, g2, st2, e2, eb⟩ := z
      subst e2 eb
      cases t with
      | false =>
        rw [if_neg Bool.false_ne_true]
        have q1 : (pure (Fl.next ρ1) : M Fl) S2 = .ok fl S' := q1
        cases q1
        exact wpAny_execs_nil ⟨tk2, σ2, η2, H2, I2, g1.trans g2, st2, sr1.grow g2⟩
      | true =>
        rw [if_pos rfl]
        have q1 : (gb ρ1 >>= fun fl => (match fl with
          | .next ρ2 => whlF gt gb m ρ2
          | .cont ρ2 => whlF gt gb m ρ2
          | .brk ρ2 => pure (.next ρ2)
          | .ret d => pure (.ret d))) S2 = .ok fl S' := q1
        rw [bind_run] at q1
        have keyB := hb pins s2 σ2 H2 ρ1 η2 S2 I2 tk2 (sr1.grow g2) st2
        cases qb : gb ρ1 S2 with
        | bad => rw [qb] at q1; cases q1
        | ok fl3 S3 =>
          rw [qb] at q1 keyB
          refine wpAny_passesOwn PassesOwn.never (wpAny_mono (keyB (fun _ _ => False)) (fun f s3 z => ?_) fun _ _ z => z)
          obtain ⟨tk3, σ3, η3, H3, I3, g3, st3, r3⟩ := z
          cases fl3 with
          | next ρ3 =>
            cases f with
            | next => exact ⟨m, Nat.lt_succ_self _, tk3, σ3, η3, H3, ρ3, S3, I3, g1.trans (g2.trans g3), st3, r3, q1⟩
            | _ => exact r3.elim
          | cont ρ3 =>
            cases f with
            | cont => exact ⟨m, Nat.lt_succ_self _, tk3, σ3, η3, H3, ρ3, S3, I3, g1.trans (g2.trans g3), st3, r3, q1⟩
            | _ => exact r3.elim
          | brk ρ3 =>
            cases f with
            | brk => cases q1; exact ⟨tk3, σ3, η3, H3, I3, g1.trans (g2.trans g3), st3, r3⟩
            | _ => exact r3.elim
          | ret d3 =>
            cases f with
            | ret u3 => cases q1; exact ⟨tk3, σ3, η3, H3, I3, g1.trans (g2.trans g3), st3, r3⟩
            | _ => exact r3.elim
/-! ### += of ints -/
def augI : D → D → M D
  | .int a, .int b => pure (.int (a + b))
  | _, _ => M.fail
theorem psd_aug {i : Nat} {x : Str} {pos' : Pos} {ge : Env → M D} (hcp : i ∉ τ.cp) (hN : X.N.Nodup) (hi : X.N[i]? = some x) (hx : Loc X.env.scope x) (hf : X.fn x = true ∨ X.env.scope.names.lookup x = some .local) (he : PD τ X e ge) :
    PSD τ X (.AugAssign (.Name x pos') .Add e pos) (fun ρ => M.of ((ρ[i]?).bind id) >>= fun d => ge ρ >>= fun b => augI d b >>= fun r => pure (.next (ρ.set i (some r)))) := by
  intro pins s σ H ρ η S I tk sr st
  refine Out.never fun fl S' q => ?_
  have q : (M.of ((ρ[i]?).bind id) >>= fun d => ge ρ >>= fun b => augI d b >>= fun r => pure (.next (ρ.set i (some r)))) S = .ok fl S' := q
  rw [bind_run] at q
  cases q0 : ρ[i]? with
  | none => rw [q0] at q; cases q
  | some o =>
    cases o with
    | none => rw [q0] at q; cases q
    | some d =>
      rw [q0] at q
      have q : (ge ρ >>= fun b => augI d b >>= fun r => pure (.next (ρ.set i (some r)))) S = .ok fl S' := q
      rw [bind_run] at q
      cases q1 : ge ρ S with
      | bad => rw [q1] at q; cases q
      | ok b S1 =>
        rw [q1] at q
        have q : (augI d b >>= fun r => pure (.next (ρ.set i (some r)))) S1 = .ok fl S' := q
        have ab : ∃ a b', d = .int a ∧ b = .int b' := by
          cases d <;> cases b <;> first | exact ⟨_, _, rfl, rfl⟩ | cases q
        obtain ⟨a, b', rfl, rfl⟩ := ab
        have q : (R.ok (.next (ρ.set i (some (.int (a + b'))))) S1 : R Fl) = .ok fl S' := q
        cases q
        obtain ⟨v, e1, rv⟩ := sr.look i _ hcp q0
        cases rv
        obtain ⟨m, hn, hl⟩ := I.loc
        have vis : Vis X.env.scope x := by
          rcases hx with k | k
          · exact .inl k
          · exact .inr (.inl k)
        obtain ⟨u, r, l⟩ := hl i x _ hi e1 vis
        have key := he pins s σ H ρ η S I tk sr st
        rw [q1] at key
        have go : wpAny (model X.prog X.w) X.A (eval e X.env) (fun w s₂ => wpAny (model X.prog X.w) X.A (inplaceOp .Add u w) (fun r s₃ => wpAny (model X.prog X.w) X.A (storeName X.env x r) (fun _ s' => τ.lo ≤ s'.toks ∧ ∃ σ' η' H', Inv X pins σ' H' s' ∧ Grow η H η' H' ∧ StoOk τ X.K η' H' S' ∧ relF τ X.K X.base σ' η' H' (.next (ρ.set i (some (.int (a + b'))))) .next) (fun _ _ => False) s₃) (fun _ _ => False) s₂) (fun _ _ => False) s := by
          refine wpAny_mono (key (fun _ _ => False)) (fun w s1 z => ?_) fun _ _ z => z
          obtain ⟨tk1, σ1, η1, H1, I1, g1, st1, rfl, y, ry, rdy⟩ := z
          cases rdy
          refine wpAny_mono (PySem.wpAny_toks (ip_add (X := X.wish (fun _ _ => False)) pins s1 σ1 H1 (.int a) (.int b') u w (fun v H' => v = .int (a + b') ∧ H' = H1) (I1.wish _) r ry ⟨a, b', rfl, rfl, rfl, rfl⟩)) (fun z s2 hz => ?_) fun _ _ z => z.2
          obtain ⟨tk2, v2, H2, I2, r2, ev, eH⟩ := hz
          subst ev
          rw [eH] at I2
          exact store_out (β := Unit) (b := ()) I2.unwish (Nat.le_trans tk1 tk2) (sr.grow g1) st1 hN hi hx hf r2 (.int _) (fun _ _ => False) |> fun h => wpAny_mono h (fun _ s' z => by
            obtain ⟨tk3, σ3, η3, H3, I3, g3, st3, sr3⟩ := z
            exact ⟨tk3, σ3, η3, H3, I3, g1.trans g3, st3, sr3⟩) fun _ _ z => z
        refine wpAny_AugAssign_Name ?_
        rcases l with ⟨hk, hm⟩ | ⟨hk, c, hc, hcell⟩
        · exact wpAny_loadName_local I.ok.kind hk hn hm go
        · rcases hk with hk | hk
          · exact wpAny_loadName_cell I.ok.kind hk hc hcell go
          · rcases hx with k | k
            · have : X.env.scope.names.lookup x = some .free := hk
              rw [k] at this; cases this
            · have : X.env.scope.names.lookup x = some .free := hk
              rw [k] at this; cases this
/-! ### dict displays -/
def PDP (τ : Tau) (X : Cx) (ks : List Key) (kes : List (Option Expr)) (ves : List Expr) (g : Env → M (List D)) : Prop := ∀ (pos : Pos) (pins : List (Addr × Obj)) (s : Shared) (σ : L2.St) (H : Hp) (ρ : Env) (η : List Addr) (S : Sto),
  Inv X pins σ H s → τ.lo ≤ s.toks → SRel τ X.K X.base η H σ ρ → StoOk τ X.K η H S → Out τ X pins η H (fun σ' η' H' (ds : List D) (ps : List (Value × Value)) => σ' = σ ∧ ∃ kvs : List (Key × V), kvs.map (·.1) = ks ∧ VV (kvs.map fun kv => (kV kv.1, kv.2)) ps ∧ Reps X.K η' H' ds (kvs.map (·.2))) (g ρ S) (sem X (evalPairs (pairTrees kes ves X.env pos))) s
theorem pdp_nil : PDP τ X [] [] [] (fun _ => pure []) := fun pos pins s σ H ρ η S I tk sr st E => pairTrees_nil_walk ⟨tk, σ, η, H, I, .refl _ _, st, rfl, [], rfl, .nil, .nil⟩
theorem pdp_cons {k : Key} {ks : List Key} {ke ve : Expr} {kes : List (Option Expr)} {ves : List Expr} {ga : Env → M D} {gr : Env → M (List D)} (hk : chkC k ke = true) (ha : PD τ X ve ga) (hr : PDP τ X ks kes ves gr) :
    PDP τ X (k :: ks) (some ke :: kes) (ve :: ves) (fun ρ => ga ρ >>= fun d => gr ρ >>= fun ds => pure (d :: ds)) := by
  intro pos pins s σ H ρ η S I tk sr st
  have key : ∀ s0, s.toks ≤ s0.toks → Inv X pins σ H s0 → ∀ ku : Value, RelV (kV k) ku → Out τ X pins η H (fun σ' η' H' (ds : List D) (ps : List (Value × Value)) => σ' = σ ∧ ∃ kvs : List (Key × V), kvs.map (·.1) = k :: ks ∧ VV (kvs.map fun kv => (kV kv.1, kv.2)) ps ∧ Reps X.K η' H' ds (kvs.map (·.2))) ((ga ρ >>= fun d => gr ρ >>= fun ds => pure (d :: ds)) S)
      (fun Q E s0 => wpAny (model X.prog X.w) X.A (eval ve X.env) (fun vv s₂ => wpAny (model X.prog X.w) X.A (evalPairs (pairTrees kes ves X.env pos)) (fun r s₃ => Q ((ku, vv) :: r) s₃) E s₂) E s0) s0 := by
    intro s0 tk0 I0 ku rk
    refine Out.seq (t1 := eval ve X.env) (W2 := fun vv Q E s2 => wpAny (model X.prog X.w) X.A (evalPairs (pairTrees kes ves X.env pos)) (fun r s₃ => Q ((ku, vv) :: r) s₃) E s2) (fun Q E h => h) (ha pins s0 σ H ρ η S I0 (Nat.le_trans tk tk0) sr st) ?_
    rintro v s1 σ1 η1 H1 d S1 _ tk1 I1 g1 st1 ⟨rfl, x, rx, rd⟩
    refine Out.back (fun Q Q' E s' hQ w => wpAny_mono w (fun vs s2 z => hQ _ _ z) fun _ _ z => z) g1 ?_
    refine Out.seq (t1 := evalPairs (pairTrees kes ves X.env pos)) (W2 := fun r Q E s2 => Q ((ku, v) :: r) s2) (fun Q E h => h) (hr pos pins s1 σ1 H1 ρ η1 S1 I1 tk1 (sr.grow g1) st1) ?_
    rintro ps s2 σ2 η2 H2 ds S2 _ tk2 I2 g2 st2 ⟨rfl, kvs, h1, h2, h3⟩
    exact fun E => ⟨tk2, _, η2, H2, I2, g2, st2, rfl, (k, x) :: kvs, by rw [List.map_cons, h1], .cons ⟨rk, rx⟩ h2, .cons (rd.grow g2) h3⟩
  show Out τ X pins η H _ ((ga ρ >>= fun d => gr ρ >>= fun ds => pure (d :: ds)) S) _ s
  cases q : (ga ρ >>= fun d => gr ρ >>= fun ds => pure (d :: ds)) S with
  | bad => trivial
  | ok a S' =>
    rw [q] at key
    intro E
    refine pairTrees_cons_walk (wpAny_mono (PySem.wpAny_toks ((pe_C (X := X.wish E) hk).run pins s σ H (fun v H1 => v = kV k ∧ H1 = H) (I.wish E) ⟨rfl, rfl⟩)) (fun ku s0 z => ?_) fun _ _ z => z.2)
    obtain ⟨tk0, v, H1, I1, r1, ev, eH⟩ := z
    subst ev
    rw [eH] at I1
    exact key s0 tk0 I1.unwish ku r1 E
def fillD (n : Nat) (kvs : List (Key × D)) : M D := fun S => match S[n]? with
  | some (.dic []) => .ok (.ref n) (S.set n (.dic kvs))
  | _ => .bad
def dispE (ks : List Key) (g : Env → M (List D)) (ρ : Env) : M D := fun S => (g ρ >>= fun ds => if ds.length = ks.length ∧ ks.length ≤ 15 then fillD S.length (mergeD [] (ks.zip ds)) else M.fail) (S ++ [.dic []])
theorem repk_zip {K : PySem.W.Frag} {η : List Addr} {H : Hp} : ∀ {ds : List D} {kvs : List (Key × V)}, Reps K η H ds (kvs.map (·.2)) → Repk K η H ((kvs.map (·.1)).zip ds) kvs
  | [], [], _ => .nil
  | d :: ds, (k, v) :: kvs, .cons h t => .cons h (repk_zip t)
  | [], _ :: _, h => by cases h
  | _ :: _, [], h => by cases h
theorem pd_dicE {ks : List Key} {keys : List (Option Expr)} {values : List Expr} {g : Env → M (List D)} (h : PDP τ X ks keys values g) (hall : keys.all (·.isSome) = true) (hl : keys.length = values.length) (h0 : keys ≠ []) (h15 : keys.length ≤ 15) :
    PD τ X (.Dict keys values pos) (dispE ks g) := by
  intro pins s σ H ρ η S I tk sr st
  refine Out.never fun d S' q => ?_
  have q : (g ρ >>= fun ds => if ds.length = ks.length ∧ ks.length ≤ 15 then fillD S.length (mergeD [] (ks.zip ds)) else M.fail) (S ++ [.dic []]) = .ok d S' := q
  rw [bind_run] at q
  have hn : H s.heap.objs.size = none := I.hok.fresh (Nat.le_refl s.heap.objs.size)
  have I1 := I.laid (a := s.heap.objs.size) (o := .dK []) (h' := s.heap.push { cls := .type "dict", data := .dict #[] }) (t' := s.toks) (fun _ _ q => Heap.get?_push_of_some _ q) (Nat.le_refl _) (dk_empty s.heap I.big)
  have g1 := grow_push (u := .dK []) st hn
  have st1 : StoOk τ X.K (η ++ [s.heap.objs.size]) (upd H s.heap.objs.size (.dK [])) (S ++ [.dic []]) := st.pushO hn ⟨[], upd_same, .nil⟩
  have key := h pos pins _ σ _ ρ _ _ I1 tk (sr.grow g1) st1
  cases q1 : g ρ (S ++ [.dic []]) with
  | bad => rw [q1] at q; cases q
  | ok ds S2 =>
    rw [q1] at q key
    have q : (if ds.length = ks.length ∧ ks.length ≤ 15 then fillD S.length (mergeD [] (ks.zip ds)) else M.fail) S2 = .ok d S' := q
    split at q
    · rename_i hlen
      refine wpAny_Dict_walk (knd := mixKind X.prog X.w) hall hl h0 h15 (wpAny_mono (key (fun _ _ => False)) (fun ws s2 z => ?_) fun _ _ z => z)
      obtain ⟨tk2, σ2, η2, H2, I2, g2, st2, rfl, kvs, ek, rel, rds⟩ := z
      unfold fillD at q
      split at q
      · rename_i qn
        cases q
        have hp : η2[S.length]? = some s.heap.objs.size := by
          obtain ⟨μ, e, _⟩ := g2.pre
          rw [e, List.getElem?_append_left (by simp [st.len]), ← st.len, List.getElem?_append_right (Nat.le_refl _)]
          simp
        obtain ⟨vs', e, rk'⟩ := st2.look _ _ _ qn hp
        cases rk'
        obtain ⟨rs, c, rk⟩ := carries_of (P := X.prog) (w := X.w) rel
        obtain ⟨z, hd, vs0, r0, dd⟩ := dk_of I2.hok e
        cases r0
        refine ⟨rs, c, dd, fun h' dd' hs => ?_⟩
        have lk : kvs.length ≤ 15 := by
          have := congrArg List.length ek
          rw [List.length_map] at this
          omega
        have hz : (mergeK [] kvs).length ≤ sizeLine := by
          have h1 := length_mergeK kvs []
          rw [List.length_nil] at h1
          rw [sizeLine_eq]; omega
        have he : ∃ q, h'.get? s.heap.objs.size = some q := let ⟨q, _, _, hq, _⟩ := dd'; ⟨q, hq⟩
        have I3 := d_write (t' := s2.toks + ws.length) I2 (by rw [e]; exact True.intro) hs he (dk_new hz hd (rk.merge .nil) dd')
        have hf : ∀ o w, H2 s.heap.objs.size ≠ some (.frz o w) := fun o w e2 => by rw [e] at e2; cases e2
        have hm : s.heap.objs.size ∈ η2 := List.mem_of_getElem? hp
        have g3 := grow_set (u := .dK (mergeK [] kvs)) st2 hm hf
        have rk2 : Repk X.K η2 H2 (mergeD [] (ks.zip ds)) (mergeK [] kvs) := by
          rw [← ek]
          exact repk_merge (repk_zip rds) .nil
        have st3 := st2.setO (oo := .dic (mergeD [] (ks.zip ds))) hp hf ⟨_, upd_same, rk2.grow g3⟩
        exact ⟨Nat.le_trans tk2 (Nat.le_add_right _ _), σ2, η2, _, I3, g1.trans (g2.trans g3), st3, rfl, .ref s.heap.objs.size, rfl, .ref hp⟩
      · cases q
    · cases q
/-! ### calls by keywords -/
def KwBinds (K : PySem.W.Frag) (fd : FuncData) (ps : List Str) : Prop := ∀ (s : Shared) (us : List Value), K.In s.heap → us.length = ps.length → BindsTo s fd ⟨[], ps.zip us⟩ (ps.zip us)
def kwB : List Str → List Keyword → Bool
  | [], [] => true
  | p :: ps, ⟨some x, _, _⟩ :: ks => p == x && kwB ps ks
  | _, _ => false
theorem kwB_ok {env : PySem.Env} {pos : Pos} : ∀ {ps : List Str} {ks : List Keyword}, kwB ps ks = true → (backToKw pos (keywordEach ks env)).all (·.1.isSome) = true ∧ (backToKw pos (keywordEach ks env)).filterMap (·.1) = ps ∧ (backToKw pos (keywordEach ks env)).any (·.1.isNone) = false
  | [], [], _ => ⟨rfl, rfl, rfl⟩
  | p :: ps, ⟨some x, e, kp⟩ :: ks, h => by
    have h : (p == x && kwB ps ks) = true := h
    rw [Bool.and_eq_true] at h
    obtain ⟨h1, h2⟩ := h
    obtain ⟨a, b, c⟩ := kwB_ok (env := env) (pos := pos) h2
    obtain rfl := eq_of_beq h1
    refine ⟨?_, ?_, ?_⟩
    · show (true && (backToKw pos (keywordEach ks env)).all (·.1.isSome)) = true
      rw [a]; rfl
    · show p :: (backToKw pos (keywordEach ks env)).filterMap (·.1) = p :: ps
      rw [b]
    · show (false || (backToKw pos (keywordEach ks env)).any (·.1.isNone)) = false
      rw [c]; rfl
  | [], ⟨_, _, _⟩ :: _, h => (Bool.false_ne_true h).elim
  | _ :: _, [], h => (Bool.false_ne_true h).elim
  | _ :: _, ⟨none, _, _⟩ :: _, h => (Bool.false_ne_true h).elim
def PDK (τ : Tau) (X : Cx) (ks : List Keyword) (g : Env → M (List D)) : Prop := ∀ (pos : Pos) (pins : List (Addr × Obj)) (s : Shared) (σ : L2.St) (H : Hp) (ρ : Env) (η : List Addr) (S : Sto),
  Inv X pins σ H s → τ.lo ≤ s.toks → SRel τ X.K X.base η H σ ρ → StoOk τ X.K η H S → Out τ X pins η H (relL X.K σ) (g ρ S) (sem X (evalAll ((backToKw pos (keywordEach ks X.env)).map (·.2)))) s
theorem pdk_nil : PDK τ X [] (fun _ => pure []) := fun pos pins s σ H ρ η S I tk sr st E => wpAny_evalAll_nil ⟨tk, σ, η, H, I, .refl _ _, st, rfl, [], .nil, .nil⟩
theorem pdk_cons {nm : Option Str} {kp : Pos} {ks : List Keyword} {ga : Env → M D} {gr : Env → M (List D)} (ha : PD τ X e ga) (hr : PDK τ X ks gr) : PDK τ X (⟨nm, e, kp⟩ :: ks) (fun ρ => ga ρ >>= fun d => gr ρ >>= fun ds => pure (d :: ds)) := by
  intro pos pins s σ H ρ η S I tk sr st
  refine Out.seq (t1 := eval e X.env) (W2 := fun v Q E s1 => wpAny (model X.prog X.w) X.A (evalAll ((backToKw pos (keywordEach ks X.env)).map (·.2))) (fun vs s2 => Q (v :: vs) s2) E s1) (fun Q E h => ?_) (ha pins s σ H ρ η S I tk sr st) ?_
  · show wpAny _ _ (evalAll ((do let v ← eval e X.env; standAt pos; pure v) :: (backToKw pos (keywordEach ks X.env)).map (·.2))) _ _ s
    exact wpAny_evalAll_cons (wpAny_bind (wpAny_mono h (fun u s1 z => wpAny_bind (wpAny_standAt (wpAny_pure z))) fun _ _ z => z))
  rintro v s1 σ1 η1 H1 d S1 _ tk1 I1 g1 st1 ⟨rfl, x, rx, rd⟩
  refine Out.back (fun Q Q' E s' hQ w => wpAny_mono w (fun vs s2 z => hQ _ _ z) fun _ _ z => z) g1 ?_
  refine Out.seq (t1 := evalAll ((backToKw pos (keywordEach ks X.env)).map (·.2))) (W2 := fun vs Q E s2 => Q (v :: vs) s2) (fun Q E h => h) (hr pos pins s1 σ1 H1 ρ η1 S1 I1 tk1 (sr.grow g1) st1) ?_
  rintro vs s2 σ2 η2 H2 ds S2 _ tk2 I2 g2 st2 ⟨rfl, xs, rxs, rds⟩
  exact fun E => ⟨tk2, _, η2, H2, I2, g2, st2, rfl, x :: xs, .cons rx rxs, .cons (rd.grow g2) rds⟩
theorem pd_callkw {x : Str} {f : Addr} {fd : FuncData} {ps : List Str} {g : List D → M D} {gl : Env → M (List D)} {ks : List Keyword} {p pos : Pos} (F : FnD τ X.prog X.w X.K X.mg X.base n f fd ps g) (c : Ck n X) (hg : Gl X x) (hm : X.mg x = some (.ref f)) (hk : PySem.W.keepIn X.K (.ref f) = true) (hb : KwBinds X.K fd ps)
    (ha : PDK τ X ks gl) (hl : ∀ ρ S ds S', gl ρ S = .ok ds S' → ds.length = ps.length) (hdb : (x == ("__debug__" : Str)) = false) (hks : kwB ps ks = true) :
    PD τ X (.Call (.Name x p) [] ks pos) (fun ρ => gl ρ >>= g) := by
  intro pins s σ H ρ η S I tk sr st
  obtain ⟨k1, k2, k3⟩ := kwB_ok (env := X.env) (pos := pos) hks
  refine Out.seq (t1 := evalAll ((backToKw pos (keywordEach ks X.env)).map (·.2))) (W2 := fun us Q E s1 => X.K.In s1.heap ∧ wpAny (model X.prog X.w) X.A (call (.ref f) ([] ++ []) (ps.zip us)) Q E s1)
    (fun Q E h => wpAny_Call_Name_kw (ld_glob I hg hm ?_ hdb)) (ha pos pins s σ H ρ η S I tk sr st) ?_
  · refine PySem.W.callWith_KW0 (h₀ := X.base) I.ok.mod.kin hk k1 (wpAny_mono h (fun us s1 z => ?_) fun _ _ z => z) ?_
    · rw [k2]; exact z
    · show (([] : List (Bool × Sem Value)).any (·.1) || (backToKw pos (keywordEach ks X.env)).any (·.1.isNone)) = false
      rw [k3]; rfl
  rintro us s1 σ1 η1 H1 ds S1 q1 tk1 I1 g1 st1 ⟨rfl, xs, rxs, rds⟩
  refine Out.via (fun Q E h => ⟨I1.kIn, h⟩) (Out.back (mono_sem _) g1 (Out.never fun d S' q => ?_))
  have hlen := hl _ _ _ _ q1
  have hu : us.length = ps.length := by rw [← rxs.length, ← rds.length]; exact hlen
  refine wpAny_call (codeAny_mono (F X.A X.stack s1 H1 ⟨[], ps.zip us⟩ us xs ds η1 S1 d S' c.rm c.gd tk1 I1.env0 (hb s1 us I1.kIn hu) rxs rds hlen st1 q) fun r s' z => ?_)
  obtain ⟨u, v, η', H', e, tk', os, bare, un, hok, g1, st1, ru, rp⟩ := z
  subst e
  exact ⟨tk', σ1, η', H', I1.call' (ch := []) os un hok bare (fun b hb => absurd hb (by simp)), g1, st1, rfl, v, ru, rp⟩
end
end MP

/-! MP17f: list(zip(range(a), b)). -/
namespace MP
open PySem L2 PyProof.Rows
def lzipD : D → D → M D
  | .int n, .tup xs => if n = xs.length ∧ xs.length ≤ 1000 then pure (.lst (enumL xs)) else M.fail
  | _, _ => M.fail
theorem lzip_some {n t d : D} {S S' : Sto} (h : lzipD n t S = .ok d S') : ∃ xs, n = .int xs.length ∧ t = .tup xs ∧ xs.length ≤ 1000 ∧ d = .lst (enumL xs) ∧ S' = S := by
  unfold lzipD at h
  split at h
  · rename_i n xs
    by_cases hc : n = xs.length ∧ xs.length ≤ 1000
    · rw [if_pos hc] at h
      cases h
      exact ⟨xs, by rw [hc.1], rfl, hc.2, rfl, rfl⟩
    · rw [if_neg hc] at h
      cases h
  · cases h
theorem vals_refs : ∀ Ts : List Addr, Vals (Ts.map V.ref) (Ts.map Value.ref)
  | [] => .nil
  | T :: Ts => .cons rfl (vals_refs Ts)
section
variable {τ : Tau} {X : Cx} {a b : Expr}
theorem pd_lzip {ga gb : Env → M D} {p1 p2 p3 c1 c2 c3 : Pos} (hgl : Gl X "list") (hml : X.mg "list" = none) (hgz : Gl X "zip") (hmz : X.mg "zip" = none) (hgr : Gl X "range") (hmr : X.mg "range" = none) (hc : X.calm = true) (ha : PD τ X a ga) (hb : PD τ X b gb)
    (hsa : noStar a = true) (hsb : noStar b = true) :
    PD τ X (.Call (.Name "list" p1) [.Call (.Name "zip" p2) [.Call (.Name "range" p3) [a] [] c3, b] [] c2] [] c1) (fun ρ => ga ρ >>= fun n => gb ρ >>= fun t => lzipD n t) := by
  intro pins s σ H ρ η S I tk sr st
  refine Out.never fun d S' q => ?_
  have q : (ga ρ >>= fun n => gb ρ >>= fun t => lzipD n t) S = .ok d S' := q
  rw [bind_run] at q
  have ka := ha pins s σ H ρ η S I tk sr st
  cases q1 : ga ρ S with
  | bad => rw [q1] at q; cases q
  | ok n S1 =>
    rw [q1] at q ka
    have q : (gb ρ >>= fun t => lzipD n t) S1 = .ok d S' := q
    rw [bind_run] at q
    cases q2 : gb ρ S1 with
    | bad => rw [q2] at q; cases q
    | ok t S2 =>
      rw [q2] at q
      obtain ⟨ds, en, et, hlen, ed, eS⟩ := lzip_some (show lzipD n t S2 = .ok d S' from q)
      subst en et ed eS
      refine wpAny_mono (Q := fun u s' => s.toks ≤ s'.toks ∧ ∃ σ' η' H', Inv X pins σ' H' s' ∧ Grow η H η' H' ∧ StoOk τ X.K η' H' S' ∧ relV X.K σ σ' η' H' (.lst (enumL ds)) u) (PySem.wpAny_toks ?_) (fun u s' z => ⟨Nat.le_trans tk z.1, z.2⟩) fun _ _ z => z.2
      refine PyProof.Rows.Call_ (ld_blt I hgl hml PyProof.Rows.boot_list (PyProof.Rows.callWith_type1 (Calls.spliced_cons ?_) rfl rfl))
      refine PyProof.Rows.Call_ (ld_blt I hgz hmz PyProof.Rows.boot_zip (PyProof.Rows.callWith_type1 ?_ rfl (star_any (by simp [hsb]))))
      refine Calls.spliced_cons ?_
      refine PyProof.Rows.Call_ (ld_blt I hgr hmr PyProof.Rows.boot_range (PyProof.Rows.callWith_type1 ?_ (starEach_cons hsa) rfl))
      rw [starEach_cons hsa]
      refine Calls.spliced_cons (wpAny_mono (ka (fun _ _ => False)) (fun v s1 z => ?_) fun _ _ z => z.elim)
      obtain ⟨tk1, σ1, η1, H1, I1, g1, st1, e1, vn, rvn, rdn⟩ := z
      subst e1
      cases rdn
      obtain ⟨tn, rfl⟩ : ∃ tn, v = .int (ds.length : Int) tn := by
        obtain ⟨tn, e⟩ := rvn
        exact ⟨tn, e⟩
      refine Calls.spliced_nil ?_
      refine call_range_1 ?_
      have hr0 : s1.heap.objs.size ≤ s1.heap.objs.size := Nat.le_refl _
      have fr := I1.fpOk hr0 (I1.hok.fresh hr0)
      have hrg : (s1.heap.push { cls := .type "range", data := .fields #[.int 0 s1.toks, .int (ds.length : Int) tn, .int 1 (s1.toks + 1)] }).get? s1.heap.objs.size = some { cls := .type "range", data := .fields #[.int 0 s1.toks, .int (ds.length : Int) tn, .int 1 (s1.toks + 1)] } := Heap.get?_push_size _ rfl
      have I2 : Inv X ((s1.heap.objs.size, { cls := .type "range", data := .fields #[.int 0 s1.toks, .int (ds.length : Int) tn, .int 1 (s1.toks + 1)] }) :: pins) σ1 H1 { s1 with heap := s1.heap.push { cls := .type "range", data := .fields #[.int 0 s1.toks, .int (ds.length : Int) tn, .int 1 (s1.toks + 1)] }, toks := s1.toks + 1 + 1 } := by
        have I1' : Inv X pins σ1 H1 { s1 with heap := s1.heap.push { cls := .type "range", data := .fields #[.int 0 s1.toks, .int (ds.length : Int) tn, .int 1 (s1.toks + 1)] }, toks := s1.toks + 1 + 1 } := I1.kept fun b u e => Heap.get?_push_of_some _ e
        refine I1'.pins_of fun p hp => ?_
        rcases List.mem_cons.mp hp with rfl | hp
        · exact ⟨hrg, fr.1, fr.2.1, fr.2.2.1, fun v z => by cases z⟩
        · exact I1'.pin p (List.mem_append_right _ hp)
      have kb := hb _ _ σ1 H1 ρ η1 S1 I2 (Nat.le_trans tk1 (Nat.le_trans (Nat.le_succ _) (Nat.le_succ _))) (sr.grow g1) st1
      rw [q2] at kb
      rw [starEach_cons hsb]
      refine Calls.spliced_cons (wpAny_mono (kb (fun _ _ => False)) (fun v s3 z => ?_) fun _ _ z => z.elim)
      obtain ⟨tk3, σ3, η3, H3, I3, g3, st3, e3, vt, rvt, rdt⟩ := z
      subst e3
      have hr3 := (I3.pin _ (List.mem_append_right _ (List.mem_cons_self ..))).1
      have I3' : Inv X pins σ3 H3 s3 := I3.pins_of fun p hp => I3.pin p (List.mem_append_right _ (List.mem_cons_of_mem _ hp))
      cases rdt with
      | @tup bt vs _ h1 h2 =>
        cases rvt
        obtain ⟨its, rv, pt, hz⟩ := I3'.tuple h1.sq
        have pt : s3.heap.IsTuple bt its.toArray := pt
        have hbt : bt < s3.heap.objs.size := let ⟨o, ho, _⟩ := pt; Heap.lt_size ho
        have hil : its.length = ds.length := by rw [← rv.length, ← h2.length]
        refine Calls.spliced_nil ?_
        refine zip_begins2 (begins_range (small_one (a := 0) (b := (ds.length : Int)) (by omega) (by omega) (by omega) (by omega))) (begins_tuple bt its.toArray) hr3 pt fun h5 hz5 hTI5 hTO5 ho1 ho2 hsz5 hk5 => ?_
        refine Calls.spliced_nil ?_
        have e0 : Builtin.Range.rangeSize 0 (ds.length : Int) 1 = (its.toArray.size : Int) - (0 : Nat) := by
          rw [rangeSize_one]
          simp only [List.size_toArray, hil]
          split <;> omega
        rw [e0] at ho1
        generalize hN : s3.heap.objs.size = N at *
        have Sp : ZipSep2 (N + 4) (N + 2) (N + 3) N (N + 1) [N] [N + 1, bt] := zip_sep2 (fp1 := []) (fp2 := [bt]) (fun _ hb => by cases hb) (fun b hb => by rw [List.mem_singleton.mp hb]; exact hbt)
        refine call_list_zip (s := { s3 with heap := h5 }) (I3'.ok.hd hc) (z := N + 4) (TI := N + 2) (TO := N + 3) (i1 := N) (i2 := N + 1) (t := bt) (items := its.toArray) Sp (fun z => ?_) (fun z => ?_) ?_ hz5 hTI5 hTO5 ho1 ⟨⟨_, ho2, rfl, rfl⟩, pt.at fun o e => hk5 bt o e⟩ fun h7 tk7 acc c7 hk7 hS7 hm7 => ?_
        · exact absurd hbt (by rw [z]; exact Nat.not_lt.mpr (Nat.le_add_right _ _))
        · exact absurd hbt (by rw [z]; exact Nat.not_lt.mpr (Nat.le_add_right _ _))
        · simp only [List.size_toArray, hil]
          show ds.length ≤ 16777216
          omega
        · have lt : ∀ b u, s3.heap.get? b = some u → b < N := fun b u e => by rw [← hN]; exact Heap.lt_size e
          have ne : ∀ b u i, s3.heap.get? b = some u → b ≠ N + i := fun b u i e => Nat.ne_of_lt (Nat.lt_of_lt_of_le (lt b u e) (Nat.le_add_right _ _))
          have kall : ∀ b u, s3.heap.get? b = some u → h7.get? b = some u := fun b u e => hk7 b u (ne b u 4 e) (ne b u 3 e) (ne b u 0 e) (ne b u 1 e) (hk5 b u e)
          have hm8 : Made h7 its.toArray acc its.length (N + 6) := by
            have z := hm7
            rw [show Shared.heap { s3 with heap := h5 } = h5 from rfl, hsz5] at z
            simpa using z
          have hS8 : h7.get? (N + 5) = some { cls := .type "list", dict := none, data := .seq acc c7, slots := #[] } := by
            have z := hS7
            rw [show Shared.heap { s3 with heap := h5 } = h5 from rfl, hsz5] at z
            exact z
          obtain ⟨G, H', η', Ts, hTl, I', g', st', rr, hTs, kG, kh, nG, nH⟩ := lay_pairs (N0 := N + 6) I3' st3 kall rv h2 (by rw [hN]; exact Nat.le_add_right _ _) hm8 its.length (Nat.le_refl _)
          have hge : s3.heap.objs.size ≤ N + 5 := by rw [hN]; exact Nat.le_add_right _ _
          have hS : (N + 5) ∉ Ts := by
            intro hm
            obtain ⟨i, hi⟩ := List.mem_iff_getElem?.mp hm
            exact absurd (hTs i _ hi).2.1 (Nat.not_succ_le_self _)
          rw [List.take_of_length_le (by unfold enumL; simp [hil])] at rr
          have hacc : acc = (Ts.map Value.ref).toArray := by
            apply Array.ext_getElem?
            intro i
            have e9 : (List.map Value.ref Ts).toArray[i]? = (Ts[i]?).map Value.ref := by simp
            rw [e9]
            by_cases hi : i < its.length
            · obtain ⟨T, hT⟩ : ∃ T, Ts[i]? = some T := ⟨Ts[i]'(by omega), List.getElem?_eq_getElem (by omega)⟩
              rw [(hTs i T hT).1, hT]
              rfl
            · rw [Array.getElem?_eq_none (by rw [hm8.1]; omega), List.getElem?_eq_none (by omega)]
              rfl
          rw [hacc] at hS8
          obtain ⟨η2, g2, st2, r2⟩ := good_newL (m := false) (S' := S') st' rr (nH (N + 5) hge hS) rfl
          show ∃ σ' η' H', Inv X pins σ' H' _ ∧ _
          rw [show Shared.heap { s3 with heap := h5 } = h5 from rfl, hsz5]
          refine ⟨_, η2, _, I'.laidN (o := .lst (Ts.map V.ref)) (t' := tk7) kh (nG (N + 5) hge hS) (nH (N + 5) hge hS) ⟨?_, Ts.map Value.ref, c7, vals_refs Ts, hS8⟩, ((g1.trans g3).trans g').trans g2, st2, rfl, .ref (N + 5), rfl, r2⟩
          rw [List.length_map, hTl, hil]
          show ds.length ≤ 16777216
          omega
end
end MP

/-! MP17g: exceptions as things of the store: made, asked for their class, their fields; list(range(n)). -/
namespace MP
open PySem L2 MX
/-- an own exception class: of KeyError?; an own __init__ with these fields -/
structure CI where
  name : Str
  kd : Bool
  own : Bool
  fs : List Str
  /-- the base that its __init__ names -/
  bn : Str := ⟨#[]⟩
def mkD (c : Nat) (ci : CI) (ds : List D) : M D := fun S =>
  if ci.own then (if ds.length = ci.fs.length then .ok (.ref S.length) (S ++ [.exc c (ci.fs.zip ds).reverse]) else .bad)
  else (if ds.length = 1 then .ok (.ref S.length) (S ++ [.exc c []]) else .bad)
def isxD (yes : List Nat) (d : D) : M D := fun S => match d with
  | .ref n => match S[n]? with
    | some (.exc c _) => .ok (.bl (yes.contains c)) S
    | _ => .bad
  | _ => .bad
def fldD (f : Str) (d : D) : M D := fun S => match d with
  | .ref n => match S[n]? with
    | some (.exc _ fs) => match fs.lookup f with
      | some v => .ok v S
      | none => .bad
    | _ => .bad
  | _ => .bad
def lrngD (m : Bool) (d : D) : M D := fun S => match d with
  | .int n => if 0 ≤ n ∧ n ≤ 1000000 then newL m ((List.range n.toNat).map fun (i : Nat) => D.int (i : Int)) S else .bad
  | _ => .bad
/-- what the written part says of such a class -/
structure CK (K : PySem.W.Frag) (mg : Str → Option Value) (ci : CI) (C : Addr) : Prop where
  here : mg ci.name = some (.ref C)
  kp : PySem.W.keepIn K (.ref C) = true
  ex : ExcC K C
  xf : XfC K C
  no : ∀ f ∈ ci.fs, PySem.W.findIn K (.ref C) f = some none
  few : ci.fs.length ≤ 100
  bare : ci.own = false → PySem.W.excIn K C tlVE "ValueError.__new__" = true
  own : ci.own = true → XcC K ci.kd C ∧ ∃ (fI : Addr) (fd : FuncData) (qual bn : Str) (st : Stmt) (mc : Value) (B0 : Addr), PySem.W.findIn K (.ref C) "__init__" = some (some (.ref fI)) ∧ PySem.W.typeIn K (.ref fI) = some (.type "function") ∧
    Fun K "__init__" qual st fI fd ∧ FnScope ("self" :: ci.fs) ("self" :: ci.fs) (defScope st) ∧ initB bn ci.fs (defBody st) = true ∧ ci.fs ≠ [] ∧ (∀ x ∈ ("self" : Str) :: ci.fs, nmB (defScope st) x = true) ∧ BaseC K ci.kd mc B0 ∧
    (defScope st).names.lookup bn = some .globalImplicit ∧ mg bn = some (.ref B0) ∧ (bn == ("__debug__" : Str)) = false ∧ Binds K fd ("self" :: ci.fs) []
section
variable {τ : Tau} {X : Cx} {K : PySem.W.Frag} {η : List Addr} {H : Hp} {S : Sto}
/-- a new exception in the store -/
theorem sto_exc {c : Nat} {C a : Addr} {oe : Obj} {fs : List (Str × D)} {vs : List (Str × V)} {H1 : Hp} (st : StoOk τ K η H1 S) (ha : H1 a = none) (hc : τ.cls c C) (e1 : oe.cls = .ref C) (e2 : ∃ ws, oe.data = .fields ws)
    (e3 : (oe.dict = none ∧ vs = []) ∨ ∃ dx, oe.dict = some dx ∧ dx ∉ η ∧ dx ≠ a ∧ H1 dx = some (.xd vs)) (e4 : fs.map (·.1) = vs.map (·.1)) (e5 : Reps K η H1 (fs.map (·.2)) (vs.map (·.2))) :
    Good τ K η H1 (S ++ [.exc c fs]) (.ref S.length) (.ref a) (upd H1 a (.frz oe (.own a))) := by
  have g := grow_push (u := .frz oe (.own a)) st ha
  refine ⟨η ++ [a], g, st.pushO ha ⟨C, oe, vs, hc, upd_same, e1, e2, e3.imp id ?_, e4, e5.grow g⟩, .ref ?_⟩
  · rintro ⟨dx, d1, d2, d3, d4⟩
    refine ⟨dx, d1, ?_, by rw [upd_ne d3]; exact d4⟩
    rw [List.mem_append, List.mem_singleton]
    rintro (z | z)
    · exact d2 z
    · exact d3 z
  · rw [← st.len]; simp
theorem zip_fst : ∀ {α : Type} (fs : List Str) (xs : List α), xs.length = fs.length → (fs.zip xs).map (·.1) = fs
  | _, [], [], _ => rfl
  | _, f :: fs, x :: xs, h => by
    show f :: (fs.zip xs).map (·.1) = _
    rw [zip_fst fs xs (by simpa using h)]
  | _, [], _ :: _, h => by simp at h
  | _, _ :: _, [], h => by simp at h
theorem zip_snd : ∀ {α : Type} (fs : List Str) (xs : List α), xs.length = fs.length → (fs.zip xs).map (·.2) = xs
  | _, [], [], _ => rfl
  | _, f :: fs, x :: xs, h => by
    show x :: (fs.zip xs).map (·.2) = _
    rw [zip_snd fs xs (by simpa using h)]
  | _, [], _ :: _, h => by simp at h
  | _, _ :: _, [], h => by simp at h
theorem call_mkD {c : Nat} {C : Addr} {ci : CI} (T : CK X.K X.mg ci C) (hc : τ.cls c C) (hr : Room 2 X.A) {pins : List (Addr × Obj)} {s : Shared} {σ : L2.St} {xs : List V} {us : List Value} {ds : List D}
    (I : Inv X pins σ H s) (tk : τ.lo ≤ s.toks) (st : StoOk τ X.K η H S) (rv : Vals xs us) (rd : Reps X.K η H ds xs) : Out τ X pins η H (relV X.K σ) (mkD c ci ds S) (sem X (call (.ref C) us)) s := by
  refine Out.never fun d S' q => ?_
  have fin : ∀ {P : Value → Shared → Prop}, wpAny (model X.prog X.w) X.A (call (.ref C) us) (fun u s' => ∃ v H', RelV v u ∧ Inv X pins σ H' s' ∧ Good τ X.K η H S' d v H') (fun _ _ => False) s →
      wpAny (model X.prog X.w) X.A (call (.ref C) us) (fun u s' => τ.lo ≤ s'.toks ∧ ∃ σ' η' H', Inv X pins σ' H' s' ∧ Grow η H η' H' ∧ StoOk τ X.K η' H' S' ∧ relV X.K σ σ' η' H' d u) (fun _ _ => False) s := fun {P} h => by
    refine wpAny_mono (PySem.wpAny_toks h) (fun u s' z => ?_) fun _ _ z => z.2
    obtain ⟨hk, v, H', r, I', η', g, st', rp⟩ := z
    exact ⟨Nat.le_trans tk hk, σ, η', H', I', g, st', rfl, v, r, rp⟩
  unfold mkD at q
  cases ho : ci.own with
  | true =>
    rw [ho, if_pos rfl] at q
    split at q
    · rename_i hl
      cases q
      obtain ⟨xc, fI, fd, qual, bn, sm, mc, B0, k1, k2, k3, k4, k5, k6, k7, k8, k9, k10, k11, k12⟩ := T.own ho
      have F1 : FnOk X.prog X.w X.K X.mg X.base CX0 1 fI fd ("self" :: ci.fs) (initSp X.K ci.kd ci.fs) := init_fn k3 k4 k5 k6 T.few k7 k8 k9 k10 k11
      have hlx : xs.length = ci.fs.length := by rw [← rd.length]; exact hl
      refine fin (P := fun _ _ => True) (make_run xc k1 k2 F1 hr k12 T.no I rv hlx T.few fun a dx oe s2 na nd da e1 e2 e3 J => ⟨.ref a, _, rfl, J, ?_⟩)
      have g1 := grow_new (u := .xd (ci.fs.zip xs).reverse) st nd
      have st1 := st.laid (u := .xd (ci.fs.zip xs).reverse) nd
      have na1 : upd H dx (.xd (ci.fs.zip xs).reverse) a = none := by rw [upd_ne (Ne.symm da)]; exact na
      obtain ⟨η', g2, st2, r2⟩ := sto_exc (fs := (ci.fs.zip ds).reverse) (vs := (ci.fs.zip xs).reverse) st1 na1 hc e1 e3 (.inr ⟨dx, e2, st.fresh nd, da, upd_same⟩) (by rw [List.map_reverse, List.map_reverse, zip_fst _ _ hl, zip_fst _ _ hlx])
        (by rw [List.map_reverse, List.map_reverse, zip_snd _ _ hl, zip_snd _ _ hlx]; exact (rd.grow g1).reverse)
      exact ⟨η', g1.trans g2, st2, r2⟩
    · cases q
  | false =>
    rw [ho, if_neg (by simp)] at q
    split at q
    · rename_i hl
      cases q
      refine fin (P := fun _ _ => True) (make_bare F.excBase_ValueError (T.bare ho) I (by rw [← rv.length, ← rd.length, hl, sizeLine_eq]; omega) fun a oe s2 na e1 e2 e3 J => ⟨.ref a, _, rfl, J, ?_⟩)
      exact sto_exc (fs := []) (vs := []) st na hc e1 e3 (.inl ⟨e2, rfl⟩) rfl .nil
    · cases q
theorem sto_at {c : Nat} {fs : List (Str × D)} {n : Nat} {a : Addr} (st : StoOk τ K η H S) (h : η[n]? = some a) (q : S[n]? = some (.exc c fs)) : ∃ (C : Addr) (vs : List (Str × V)), τ.cls c C ∧ ExAt H a C vs ∧ fs.map (·.1) = vs.map (·.1) ∧ Reps K η H (fs.map (·.2)) (vs.map (·.2)) := by
  obtain ⟨C, oe, vs, h1, h2, h3, h4, h5, h6, h7⟩ := st.look n _ a q h
  refine ⟨C, vs, h1, ⟨oe, h2, h3, h4, h5.imp id ?_⟩, h6, h7⟩
  rintro ⟨dx, d1, _, d3⟩
  exact ⟨dx, d1, d3⟩
theorem lookup_two {f : Str} : ∀ {fs : List (Str × D)} {vs : List (Str × V)} {d : D}, fs.map (·.1) = vs.map (·.1) → Reps K η H (fs.map (·.2)) (vs.map (·.2)) → fs.lookup f = some d → ∃ v, vs.lookup f = some v ∧ Rep K η H d v
  | [], [], _, _, _, h => by cases h
  | [], _ :: _, _, h, _, _ => by simp at h
  | _ :: _, [], _, h, _, _ => by simp at h
  | (g, d) :: fs, (g', v) :: vs, d', h, r, l => by
    have hg : g = g' := (List.cons.inj h).1
    subst hg
    have ht : fs.map (·.1) = vs.map (·.1) := (List.cons.inj h).2
    cases r with
    | cons r rs =>
      rw [lookup_put'] at l
      split at l
      · rename_i e
        cases l
        exact ⟨v, by rw [lookup_put, if_pos e], r⟩
      · rename_i e
        obtain ⟨w, h1, h2⟩ := lookup_two ht rs l
        exact ⟨w, by rw [lookup_put, if_neg e]; exact h1, h2⟩
where
  lookup_put' {f g : Str} {y : D} {fs : List (Str × D)} : ((f, y) :: fs).lookup g = if g = f then some y else fs.lookup g := by
    by_cases h : g = f
    · subst h
      simp [List.lookup]
    · have e : (g == f) = false := by simpa using h
      rw [if_neg h]
      simp [List.lookup, e]
/-- isinstance(e, c), c a class -/
def IsOk (τ : Tau) (K : PySem.W.Frag) (cv : Value) (yes : List Nat) : Prop := ∀ c C, τ.cls c C → PySem.W.kitOne K (.ref C) cv = some (yes.contains c) ∧ ExcC K C
theorem op_isx {cv : Value} {yes : List Nat} (T : IsOk τ X.K cv yes) {pins : List (Addr × Obj)} {s : Shared} {σ : L2.St} {x : V} {v : Value} {d : D} (I : Inv X pins σ H s) (tk : τ.lo ≤ s.toks) (st : StoOk τ X.K η H S) (rv : RelV x v) (rd : Rep X.K η H d x) :
    Out τ X pins η H (relV X.K σ) (isxD yes d S) (sem X (call (.builtin "isinstance") [v, cv])) s := by
  refine Out.never fun d' S' q => ?_
  unfold isxD at q
  cases rd with
  | @ref n a h1 =>
    obtain rfl : v = .ref a := rv
    have q : (match S[n]? with | some (.exc c _) => R.ok (D.bl (yes.contains c)) S | _ => .bad) = .ok d' S' := q
    split at q
    · rename_i c fs hq
      cases q
      obtain ⟨C, vs, hc, ea, _, _⟩ := sto_at st h1 hq
      obtain ⟨k, xc⟩ := T c C hc
      refine wpAny_mono (PySem.wpAny_toks (isE_run (Q := fun u s' => u = .bool (yes.contains c) ∧ ∃ t, s' = { s with toks := t }) xc I ea k fun t => ⟨rfl, t, rfl⟩)) (fun u s' z => ?_) fun _ _ z => z.2
      obtain ⟨hk, rfl, t, rfl⟩ := z
      exact ⟨Nat.le_trans tk hk, σ, η, H, I.kept (t' := t) fun _ _ z => z, .refl _ _, st, rfl, .bl _, rfl, .bl _⟩
    · cases q
  | _ => cases q
/-- e.f -/
def FldOk (τ : Tau) (K : PySem.W.Frag) (f : Str) : Prop := ∀ c C, τ.cls c C → PySem.W.findIn K (.ref C) f = some none ∧ XfC K C
theorem op_fld {f : Str} {expr : Bool} (T : FldOk τ X.K f) {pins : List (Addr × Obj)} {s : Shared} {σ : L2.St} {x : V} {v : Value} {d : D} (I : Inv X pins σ H s) (tk : τ.lo ≤ s.toks) (st : StoOk τ X.K η H S) (rv : RelV x v) (rd : Rep X.K η H d x) :
    Out τ X pins η H (relV X.K σ) (fldD f d S) (sem X (getAttr v f expr)) s := by
  refine Out.never fun d' S' q => ?_
  unfold fldD at q
  cases rd with
  | @ref n a h1 =>
    obtain rfl : v = .ref a := rv
    have q : (match S[n]? with | some (.exc _ fs) => (match fs.lookup f with | some v => R.ok v S | none => .bad) | _ => .bad) = .ok d' S' := q
    split at q
    · rename_i c fs hq
      split at q
      · rename_i y hy
        cases q
        obtain ⟨C, vs, hc, ea, hn, hrs⟩ := sto_at st h1 hq
        obtain ⟨k, xf⟩ := T c C hc
        obtain ⟨w, l, rw'⟩ := lookup_two hn hrs hy
        exact fieldE_run xf k I ea l fun u s2 ru J hk => ⟨Nat.le_trans tk hk, σ, η, H, J, .refl _ _, st, rfl, w, ru, rw'⟩
      · cases q
    · cases q
  | _ => cases q
end
section
variable {τ : Tau} {X : Cx} {e : Expr}
/-- the value of a class's name -/
theorem ld_names {pins : List (Addr × Obj)} {s : Shared} {σ : L2.St} {H : Hp} {x : Str} {cv : Value} {p : Pos} {Q : Value → Shared → Prop} {E : Value → Shared → Prop} (I : Inv X pins σ H s) (h : Names X x cv) (q : Q cv s) : wpAny (model X.prog X.w) X.A (eval (.Name x p) X.env) Q E s := by
  obtain ⟨hg, hd, hm | ⟨hm, hv, hn⟩⟩ := h
  · exact ld_glob I hg hm q hd
  · exact ld_blt I hg hm hv q hn hd
theorem pd_isx {ga : Env → M D} {y : Str} {cv : Value} {yes : List Nat} {p p2 pos : Pos} (ha : PD τ X e ga) (hg : Gl X "isinstance") (hm : X.mg "isinstance" = none) (hN : Names X y cv) (T : IsOk τ X.K cv yes)
    (he : starEach (e :: [.Name y p2]) X.env = (false, eval e X.env) :: starEach [.Name y p2] X.env) :
    PD τ X (.Call (.Name "isinstance" p) [e, .Name y p2] [] pos) (fun ρ => ga ρ >>= isxD yes) := by
  intro pins s σ H ρ η S I tk sr st
  refine Out.seq (t1 := eval e X.env) (W2 := fun v Q E s1 => wpAny (model X.prog X.w) X.A (spliced (backTo pos (starEach [.Name y p2] X.env))) (fun vs s2 => wpAny (model X.prog X.w) X.A (call (.builtin "isinstance") (v :: vs)) Q E s2) E s1)
    (fun Q E h => wpAny_Call_Name_kw (ld_blt (u := .builtin "isinstance") I hg hm (by decide +kernel) (PyProof.Rows.callWith_builtin1 (by rw [he]; exact Calls.spliced_cons h) he rfl) (by decide) (by decide))) (ha pins s σ H ρ η S I tk sr st) ?_
  rintro v s1 σ1 η1 H1 d S1 _ tk1 I1 g1 st1 ⟨rfl, x, rx, rd⟩
  refine Out.via (fun Q E h => ?_) (Out.back (mono_sem _) g1 (op_isx T I1 tk1 st1 rx rd))
  exact Calls.spliced_cons (ld_names I1 hN (Calls.spliced_nil h))
theorem pd_fld {ga : Env → M D} {f : Str} {pos : Pos} (ha : PD τ X e ga) (T : FldOk τ X.K f) (hb : attributeBase e f X.env (eval e X.env) = eval e X.env) : PD τ X (.Attribute e f pos) (fun ρ => ga ρ >>= fldD f) := by
  intro pins s σ H ρ η S I tk sr st
  refine Out.seq (t1 := eval e X.env) (W2 := fun v Q E s1 => wpAny (model X.prog X.w) X.A (getAttr v f true) Q E s1) (fun Q E h => attr_of hb h) (ha pins s σ H ρ η S I tk sr st) ?_
  rintro v s1 σ1 η1 H1 d S1 _ tk1 I1 g1 st1 ⟨rfl, x, rx, rd⟩
  exact Out.back (mono_sem _) g1 (op_fld T I1 tk1 st1 rx rd)
theorem pd_mk {es : List Expr} {x : Str} {C : Addr} {c : Nat} {ci : CI} {gl : Env → M (List D)} {p pos : Pos} (T : CK X.K X.mg ci C) (hc : τ.cls c C) (hr : Room 2 X.A) (hg : Gl X x) (hx : ci.name = x) (ha : PDL τ X (e :: es) gl) (hdb : (x == ("__debug__" : Str)) = false)
    (he : starEach (e :: es) X.env = (false, eval e X.env) :: starEach es X.env) (hpl : (backTo pos (starEach es X.env)).any (·.1) = false) :
    PD τ X (.Call (.Name x p) (e :: es) [] pos) (fun ρ => gl ρ >>= mkD c ci) := by
  intro pins s σ H ρ η S I tk sr st
  have hm : X.mg x = some (.ref C) := by rw [← hx]; exact T.here
  refine Out.seq (t1 := spliced (backTo pos (starEach (e :: es) X.env))) (W2 := fun us Q E s1 => X.K.In s1.heap ∧ wpAny (model X.prog X.w) X.A (call (.ref C) us) Q E s1)
    (fun Q E h => wpAny_Call_Name_kw (ld_glob I hg hm (PySem.W.callWith_K (h₀ := X.base) I.ok.mod.kin T.kp h he hpl) hdb)) (ha pos pins s σ H ρ η S I tk sr st) ?_
  rintro us s1 σ1 η1 H1 ds S1 q1 tk1 I1 g1 st1 ⟨rfl, xs, rxs, rds⟩
  exact Out.via (fun Q E h => ⟨I1.kIn, h⟩) (Out.back (mono_sem _) g1 (call_mkD T hc hr I1 tk1 st1 rxs rds))
end
end MP

/-! MP17i: list(range(n)). -/
namespace MP
open PySem L2 PyProof.Rows
section
variable {τ : Tau} {X : Cx} {e : Expr}
theorem rgV_nat (n : Int) : rgV 0 n = (List.range n.toNat).map fun (i : Nat) => V.int (i : Int) := by
  unfold rgV
  rw [Int.sub_zero]
  congr 1
  funext i
  rw [Int.zero_add]
theorem reps_ints' {K : PySem.W.Frag} {η : List Addr} {H : Hp} : ∀ (l : List Nat), Reps K η H (l.map fun (i : Nat) => D.int (i : Int)) (l.map fun (i : Nat) => V.int (i : Int))
  | [] => .nil
  | _ :: l => .cons (.int _) (reps_ints' l)
theorem pd_lrng {ga : Env → M D} {m : Bool} {p p2 pos2 pos : Pos} (ha : PD τ X e ga) (hc : X.calm = true) (hg : Gl X "list") (hm : X.mg "list" = none) (hgr : Gl X "range") (hmr : X.mg "range" = none)
    (he : starEach [e] X.env = (false, eval e X.env) :: starEach [] X.env) :
    PD τ X (.Call (.Name "list" p) [.Call (.Name "range" p2) [e] [] pos2] [] pos) (fun ρ => ga ρ >>= lrngD m) := by
  intro pins s σ H ρ η S I tk sr st
  refine Out.seq (t1 := eval e X.env) (W2 := fun v Q E s1 => wpAny (model X.prog X.w) X.A (call (.type "range") [v]) (fun r s2 => wpAny (model X.prog X.w) X.A (call (.type "list") [r]) Q E s2) E s1) (fun Q E h => ?_) (ha pins s σ H ρ η S I tk sr st) ?_
  · refine Call_ (ld_blt I hg hm boot_list (PyProof.Rows.callWith_type1 (args_cons (Call_ (ld_blt I hgr hmr boot_range (PyProof.Rows.callWith_type1 (args_cons (thn h fun v s1 z => args_nil (thn z fun r s2 z2 => args_nil z2)) he) he))) rfl) rfl))
  · rintro v s1 σ1 η1 H1 d S1 _ tk1 I1 g1 st1 ⟨rfl, x, rx, rd⟩
    refine Out.back (fun Q Q' E s' hQ w => wpAny_mono w (fun r s2 z => wpAny_mono z (fun _ s3 z3 => hQ _ _ z3) fun _ _ z => z) fun _ _ z => z) g1 ?_
    cases q : lrngD m d S1 with
    | bad => trivial
    | ok d' S' =>
      intro E
      unfold lrngD at q
      cases rd with
      | int n =>
        obtain ⟨t, rfl⟩ := rx
        have q : (if 0 ≤ n ∧ n ≤ 1000000 then newL m ((List.range n.toNat).map fun (i : Nat) => D.int (i : Int)) S1 else .bad) = .ok d' S' := q
        split at q
        · rename_i hn
          have key : wpAny (model X.prog X.w) X.A (call (.type "range") [Value.int n t]) (fun r s2 => wpAny (model X.prog X.w) X.A (call (.type "list") [r]) (fun u s' => ∃ σ' η' H', Inv X pins σ' H' s' ∧ Grow η1 H1 η' H' ∧ StoOk τ X.K η' H' S' ∧ relV X.K σ1 σ' η' H' d' u) E s2) E s1 := by
            refine call_range_1 ?_
            refine call_list_range (n := n.toNat) (I1.ok.hd hc) (IsRange.new _ _ _ _ _ _ _) (small_one (by omega) (by omega) (by omega) (by omega)) (by have := rangeSize_nat 0 n; rw [Int.sub_zero] at this; exact this) (by omega) fun h' tk2 acc c' hk e' hi => ?_
            have I2 := I1.kept (t' := s1.toks + 1 + 1) (h' := s1.heap.push { cls := .type "range", data := .fields #[.int 0 s1.toks, .int n t, .int 1 (s1.toks + 1)] }) fun b u e => Heap.get?_push_of_some _ e
            have fr : H1 (s1.heap.push { cls := .type "range", data := .fields #[.int 0 s1.toks, .int n t, .int 1 (s1.toks + 1)] }).objs.size = none := I2.hok.fresh (Nat.le_refl _)
            have vr : Vals (rgV 0 n) acc.toList := vals_rg (a := 0) (b := n) (by rw [Int.sub_zero]; exact hi)
            have I3 := I2.laid (t' := tk2) (o := .lst (rgV 0 n)) hk (Nat.le_refl _) (show ObjOk X.prog X.w _ _ _ (.lst (rgV 0 n)) from ⟨by rw [rgV_length, sizeLine_eq]; omega, acc.toList, c', vr, by rw [Array.toArray_toList]; exact e'⟩)
            obtain ⟨η', gg, st', rp⟩ := good_newL st1 (vs := rgV 0 n) (by rw [rgV_nat]; exact reps_ints' _) fr q
            exact ⟨_, η', _, I3, gg, st', rfl, .ref _, rfl, rp⟩
          exact wpAny_mono (PySem.wpAny_toks key) (fun r s2 z => wpAny_mono (PySem.wpAny_toks z.2) (fun u s3 z2 => ⟨Nat.le_trans tk1 (Nat.le_trans z.1 z2.1), z2.2⟩) fun _ _ y => y.2) fun _ _ y => y.2
        · cases q
      | _ => cases q
end
end MP

/-! MP18: the small language: expressions. -/
namespace MP
open PySem L2
/-- targets: a name; names, one of them perhaps starred (and whether its list is tracked) -/
inductive T1 where
  | nm (i : Nat)
  | tp (is : List Nat)
inductive Tg where
  | nm (i : Nat)
  | tp (is : List Nat) (star : Option (Nat × Bool))
  /-- targets within targets -/
  | t2 (ts : List T1)
mutual
inductive Ex where
  | non | bl (b : Bool) | int (i : Int) | str (x : Str) | neg (i : Int)
  | var (i : Nat)
  | glb (k : Nat) (d : D)
  | bin (o : Bop) (m : Bool) (a b : Ex)
  | cmp (o : Cop) (a b : Ex)
  | chn (o p : Cop) (a b c : Ex)
  | not (a : Ex)
  | and (a r : Ex)
  | or (a r : Ex)
  | one (a : Ex)
  | ife (t : Tx) (a b : Ex)
  | ix (a b : Ex)
  | sl (m : Bool) (a : Ex) (lo hi : Ox)
  | rev (m : Bool) (a : Ex)
  | tup (es : Exs)
  | lst (m : Bool) (es : Exs)
  | dic0 (m : Bool)
  | dic1 (k : Int) (i : Nat)
  | dicC (m : Bool) (ps : List (Key × Key))
  | gin (neg : Bool) (k : Nat) (kds : List (Key × D)) (a : Ex)
  | gix (k : Nat) (kds : List (Key × D)) (a : Ex)
  | fn (f : Fn) (m : Bool) (es : Exs)
  | isi (t : Ty) (a : Ex)
  | me (f : Me) (m : Bool) (o : Ex) (es : Exs)
  | repl (y z : Str) (o : Ex)
  | call (k : Nat) (es : Exs)
  | lc (m : Bool) (tg : Tg) (it : Ix) (ifs : Txs) (elt : Ex) (own : List Nat)
  | app (i : Nat) (es : Exs)
  | callc (k : Nat) (as : Axs)
  | callkw (k : Nat) (es : Exs)
  | dicE (ks : List Key) (es : Exs)
  /-- list(zip(range(a), b)) -/
  | lzip (a b : Ex)
  /-- an exception of the class at k -/
  | mk (k : Nat) (es : Exs)
  /-- isinstance(a, y); yes: the classes under y -/
  | isx (y : Str) (yes : List Nat) (a : Ex)
  | fld (f : Str) (a : Ex)
  /-- list(range(a)) -/
  | lrng (m : Bool) (a : Ex)
inductive Ox where
  | non
  | som (e : Ex)
inductive Exs where
  | nil
  | cons (e : Ex) (r : Exs)
/-- arguments, functions among them -/
inductive Axs where
  | nil
  | d (e : Ex) (r : Axs)
  | par (i : Nat) (r : Axs)
  | glb (k : Nat) (r : Axs)
  | lam (k : Nat) (js : List Nat) (r : Axs)
  | own (i k : Nat) (js : List Nat) (r : Axs)
inductive Tx where
  | cmp (o : Cop) (a b : Ex)
  | chn (o p : Cop) (a b c : Ex)
  | not (t : Tx)
  | and (ts : Txs)
  | or (ts : Txs)
  | gin (neg : Bool) (k : Nat) (kds : List (Key × D)) (a : Ex)
  | val (e : Ex)
inductive Txs where
  | nil
  | cons (t : Tx) (r : Txs)
inductive Ix where
  | seq (e : Ex)
  | rng (es : Exs)
  | enu (es : Exs)
end

mutual
def sameD : D → D → Bool
  | .non, .non => true
  | .bl a, .bl b => a == b
  | .int a, .int b => a == b
  | .str a, .str b => a == b
  | .tup a, .tup b => sameL a b
  | .lst a, .lst b => sameL a b
  | _, _ => false
def sameL : List D → List D → Bool
  | [], [] => true
  | x :: xs, y :: ys => sameD x y && sameL xs ys
  | _, _ => false
end
mutual
theorem sameD_eq : ∀ (a b : D), sameD a b = true → a = b
  | .non, b, h => by cases b <;> first | rfl | exact (Bool.false_ne_true h).elim
  | .bl a, b, h => by cases b <;> first | exact (Bool.false_ne_true h).elim | (rw [eq_of_beq (show (a == _) = true from h)])
  | .int a, b, h => by cases b <;> first | exact (Bool.false_ne_true h).elim | (rw [eq_of_beq (show (a == _) = true from h)])
  | .str a, b, h => by cases b <;> first | exact (Bool.false_ne_true h).elim | (rw [eq_of_beq (show (a == _) = true from h)])
  | .tup a, b, h => by cases b <;> first | exact (Bool.false_ne_true h).elim | (rw [sameL_eq a _ h])
  | .lst a, b, h => by cases b <;> first | exact (Bool.false_ne_true h).elim | (rw [sameL_eq a _ h])
  | .frz a, b, h => by cases b <;> exact (Bool.false_ne_true h).elim
  | .dic a, b, h => by cases b <;> exact (Bool.false_ne_true h).elim
  | .ref a, b, h => by cases b <;> exact (Bool.false_ne_true h).elim
  | .clo _ _, b, h => by cases b <;> exact (Bool.false_ne_true h).elim
  | .own a, b, h => by cases b <;> exact (Bool.false_ne_true h).elim
theorem sameL_eq : ∀ (a b : List D), sameL a b = true → a = b
  | [], b, h => by cases b <;> first | rfl | exact (Bool.false_ne_true h).elim
  | x :: xs, b, h => by
    cases b with
    | nil => exact (Bool.false_ne_true h).elim
    | cons y ys =>
      have h : (sameD x y && sameL xs ys) = true := h
      rw [Bool.and_eq_true] at h
      rw [sameD_eq x y h.1, sameL_eq xs ys h.2]
end
def sameK : List (Key × D) → List (Key × D) → Bool
  | [], [] => true
  | x :: xs, y :: ys => decide (x.1 = y.1) && sameD x.2 y.2 && sameK xs ys
  | _, _ => false
theorem sameK_eq : ∀ (a b : List (Key × D)), sameK a b = true → a = b
  | [], b, h => by cases b <;> first | rfl | exact (Bool.false_ne_true h).elim
  | (k, x) :: xs, b, h => by
    cases b with
    | nil => exact (Bool.false_ne_true h).elim
    | cons y ys =>
      obtain ⟨k', y⟩ := y
      have h : (decide (k = k') && sameD x y && sameK xs ys) = true := h
      rw [Bool.and_eq_true, Bool.and_eq_true] at h
      rw [of_decide_eq_true h.1.1, sameD_eq x y h.1.2, sameK_eq xs ys h.2]
def setNames : List Nat → List D → Env → M Env
  | [], [], ρ => pure ρ
  | i :: is, d :: ds, ρ => setNames is ds (ρ.set i (some d))
  | _, _, _ => M.fail
def T1.ev : T1 → D → Env → M Env
  | .nm i, d, ρ => pure (ρ.set i (some d))
  | .tp is, d, ρ => unpackD is.length none d >>= fun ds => setNames is ds ρ
def Tg.ev : Tg → D → Env → M Env
  | .nm i, d, ρ => pure (ρ.set i (some d))
  | .tp is star, d, ρ => unpackD is.length star d >>= fun ds => setNames is ds ρ
  | .t2 ts, d, ρ => unpackD ts.length none d >>= fun ds => asgs (ts.map T1.ev) ds ρ
def getV (ρ : Env) (i : Nat) : M D := M.of ((ρ[i]?).bind id)

section
variable (φ : Nat → List D → M D)
mutual
def evE : Ex → Env → M D
  | .non, _ => pure .non
  | .bl b, _ => pure (.bl b)
  | .int i, _ => pure (.int i)
  | .str x, _ => pure (.str x)
  | .neg i, _ => pure (.int (-i))
  | .var i, ρ => getV ρ i
  | .glb _ d, _ => pure d
  | .bin o m a b, ρ => evE a ρ >>= fun d => evE b ρ >>= fun e => o.ev m d e
  | .cmp o a b, ρ => evE a ρ >>= fun d => evE b ρ >>= fun e => o.ev d e
  | .chn o p a b c, ρ => evE a ρ >>= fun d => evE b ρ >>= fun e => o.ev d e >>= fun z => asB z >>= fun t => if t = true then evE c ρ >>= fun e' => p.ev e e' else pure (.bl false)
  | .not a, ρ => evE a ρ >>= fun d => asB d >>= fun b => pure (.bl (!b))
  | .and a r, ρ => evE a ρ >>= fun d => asB d >>= fun t => if t = true then evE r ρ else pure (.bl false)
  | .or a r, ρ => evE a ρ >>= fun d => asB d >>= fun t => if t = true then pure (.bl true) else evE r ρ
  | .one a, ρ => evE a ρ
  | .ife t a b, ρ => evT t ρ >>= fun c => if c = true then evE a ρ else evE b ρ
  | .ix a b, ρ => evE a ρ >>= fun d => evE b ρ >>= fun e => ixD d e
  | .sl m a lo hi, ρ => evE a ρ >>= fun d => evO lo ρ >>= fun l => evO hi ρ >>= fun h => sliceE m d l h
  | .rev m a, ρ => evE a ρ >>= revE m
  | .tup es, ρ => evL es ρ >>= fun ds => pure (.tup ds)
  | .lst m es, ρ => evL es ρ >>= fun ds => newL m ds
  | .dic0 m, _ => newD m []
  | .dic1 k i, ρ => getV ρ i >>= fun d => pure (.dic [(.inl k, d)])
  | .dicC m ps, _ => newD m (mergeD [] (ps.map fun p => (p.1, keyC p.2)))
  | .gin neg _ kds a, ρ => evE a ρ >>= ginD neg kds
  | .gix _ kds a, ρ => evE a ρ >>= gixD kds
  | .fn f m es, ρ => evL es ρ >>= f.ev m
  | .isi t a, ρ => evE a ρ >>= isinstD t
  | .me f m o es, ρ => evE o ρ >>= fun d => f.rc d >>= fun _ => evL es ρ >>= fun ds => f.ev m d ds
  | .repl y z o, ρ => evE o ρ >>= replD y z
  | .call k es, ρ => evL es ρ >>= φ k
  | .lc m tg it ifs elt own, ρ => evI it ρ >>= lcS m tg.ev (evA ifs) (evE elt) (wipeE ρ own)
  | .app i es, ρ => getC ρ i >>= fun c => evL es ρ >>= fun ds => appD φ c ds
  | .callc k as, ρ => evAx as ρ >>= φ k
  | .callkw k es, ρ => evL es ρ >>= φ k
  | .dicE ks es, ρ => dispE ks (evL es) ρ
  | .lzip a b, ρ => evE a ρ >>= fun n => evE b ρ >>= fun t => lzipD n t
  | .mk k es, ρ => evL es ρ >>= φ k
  | .isx _ yes a, ρ => evE a ρ >>= isxD yes
  | .fld f a, ρ => evE a ρ >>= fldD f
  | .lrng m a, ρ => evE a ρ >>= lrngD m
def evO : Ox → Env → M (Option Int)
  | .non, _ => pure none
  | .som e, ρ => evE e ρ >>= asI
def evL : Exs → Env → M (List D)
  | .nil, _ => pure []
  | .cons e r, ρ => evE e ρ >>= fun d => evL r ρ >>= fun ds => pure (d :: ds)
def evAx : Axs → Env → M (List D)
  | .nil, _ => pure []
  | .d e r, ρ => evE e ρ >>= fun d => evAx r ρ >>= fun ds => pure (d :: ds)
  | .par i r, ρ => getC ρ i >>= fun d => evAx r ρ >>= fun ds => pure (d :: ds)
  | .glb k r, ρ => (pure (.clo k []) : M D) >>= fun d => evAx r ρ >>= fun ds => pure (d :: ds)
  | .lam k js r, ρ => (capsD ρ js >>= fun ds => pure (.clo k ds)) >>= fun d => evAx r ρ >>= fun ds => pure (d :: ds)
  | .own i k js r, ρ => (getO ρ i k >>= fun _ => capsD ρ js >>= fun ds => pure (.clo k ds)) >>= fun d => evAx r ρ >>= fun ds => pure (d :: ds)
def evT : Tx → Env → M Bool
  | .cmp o a b, ρ => evE a ρ >>= fun d => evE b ρ >>= fun e => o.ev d e >>= asB
  | .chn o p a b c, ρ => evE a ρ >>= fun d => evE b ρ >>= fun e => o.ev d e >>= fun z => asB z >>= fun t => if t = true then evE c ρ >>= fun e' => p.ev e e' >>= asB else pure false
  | .not t, ρ => evT t ρ >>= fun b => pure (!b)
  | .and ts, ρ => evA ts ρ
  | .or ts, ρ => evOr ts ρ
  | .gin neg _ kds a, ρ => evE a ρ >>= fun d => ginD neg kds d >>= asB
  | .val e, ρ => evE e ρ >>= truD
def evA : Txs → Env → M Bool
  | .nil, _ => pure true
  | .cons t r, ρ => evT t ρ >>= fun c => if c = true then evA r ρ else pure false
def evOr : Txs → Env → M Bool
  | .nil, _ => pure false
  | .cons t r, ρ => evT t ρ >>= fun c => if c = true then pure true else evOr r ρ
def evI : Ix → Env → M Src
  | .seq e, ρ => evE e ρ >>= seqSrc
  | .rng es, ρ => evL es ρ >>= rngSrc
  | .enu es, ρ => evL es ρ >>= enuL
end
end

/-! ### the check -/
structure FI where
  name : Str
  np : Nat
  /-- the places of its arguments that are functions -/
  cp : List Nat := []
  /-- of a nested function: the names that it captures -/
  fr : Option (List Str) := none
  /-- by keywords: its parameters' names -/
  kw : Option (List Str) := none
  /-- a class -/
  cls : Option CI := none
structure Tab where
  fns : List FI
  gls : List (Str × D)
  rp : Bool
  gds : List (Str × List (Key × D))
  /-- of the def at hand: the slots that hold functions; the name of what it makes -/
  cp : List Nat := []
  mkn : Option Str := none
  /-- nested functions' texts -/
  lam : Nat → Arguments → CB → Scope → Bool := fun _ _ _ _ => false
  /-- classes asked for; fields -/
  isxs : List (Str × List Nat) := []
  flds : List Str := []
def bltNames : List Str := (["len", "list", "tuple", "sum", "all", "any", "min", "int", "str", "repr", "isinstance", "range", "bool", "dict", "enumerate", "zip"] : List String).map Str.ofString
structure TabOk (τ : Tau) (X : Cx) (n : Nat) (T : Tab) (φ : Nat → List D → M D) : Prop where
  fn : ∀ (k : Nat) (p : FI), T.fns[k]? = some p → p.cp = [] → p.fr = none → ∃ f fd ps, ps.length = p.np ∧ X.mg p.name = some (.ref f) ∧ PySem.W.keepIn X.K (.ref f) = true ∧ Binds X.K fd ps [] ∧ FnD τ X.prog X.w X.K X.mg X.base n f fd ps (φ k) ∧ (∀ q, p.kw = some q → ps = q ∧ KwBinds X.K fd ps) ∧ τ.gf k f
  gl : ∀ (k : Nat) (p : Str × D), T.gls[k]? = some p → ∃ v u, X.mg p.1 = some u ∧ RelV v u ∧ ∀ η H, Rep X.K η H p.2 v
  bl : ∀ x ∈ bltNames, X.mg x = none
  rp : T.rp = true → 1 ≤ τ.lo
  gd : ∀ (k : Nat) (p : Str × List (Key × D)), T.gds[k]? = some p → KdOk X p.1 p.2
  fc : ∃ cs, BaseOk X.mg cs X.base ∧ AppOk τ X cs n φ ∧ ∀ (k : Nat) (p : FI), T.fns[k]? = some p → p.fr = none → ∃ τ' f fd ps, τ.Same τ' ∧ (∀ j ∈ p.cp, j ∈ τ'.cp) ∧ ps.length = p.np ∧ X.mg p.name = some (.ref f) ∧ PySem.W.keepIn X.K (.ref f) = true ∧ Binds X.K fd ps [] ∧ FnK τ' X.prog X.w X.K X.mg cs n f fd ps (φ k)
  mks : ∀ (k : Nat) (p : FI) (ci : CI), T.fns[k]? = some p → p.cls = some ci → ∃ C, CK X.K X.mg ci C ∧ τ.cls k C ∧ ∀ ds S d S', φ k ds S = .ok d S' → mkD k ci ds S = .ok d S' ∧ 2 ≤ n
  isx : ∀ p ∈ T.isxs, ∃ cv, (X.mg p.1 = some cv ∨ (X.mg p.1 = none ∧ bootBuiltins p.1 = some cv ∧ p.1 ≠ "__name__")) ∧ IsOk τ X.K cv p.2
  fld : ∀ f ∈ T.flds, FldOk τ X.K f
  lam : ∀ (k : Nat) (params : Arguments) (body : CB) (scope : Scope), T.lam k params body scope = true → ∀ (p : FI) (fr : List Str), T.fns[k]? = some p → p.fr = some fr → ∀ (name qual : Str) (cl : List (Str × Addr)) (c : Addr), τ.txt k ⟨name, qual, params, body, scope, cl, c⟩ fr
  txt : ∀ (k : Nat) (F : CF) (fr : List Str), τ.txt k F fr → (∃ p, T.fns[k]? = some p ∧ p.fr = some fr) ∧ (∀ y ∈ fr, (y, NameKind.free) ∈ F.scope.names) ∧ ∀ y ∈ F.scope.names, y.2 = .free → y.1 ∈ fr
def probe : Str := Str.ofString ""
structure Ctx (τ : Tau) (X : Cx) (n : Nat) (T : Tab) (φ : Nat → List D → M D) (N : List Str) (sc : Scope) (fb : Str → Bool) : Prop where
  hN : X.N = N
  hs : X.env.scope = sc
  ck : Ck n X
  tab : TabOk τ X n T φ
  hf : ∀ x, fb x = true → X.fn x = true
  cp : T.cp = τ.cp
  mkn : ∀ x, T.mkn = some x → MkOk τ X x
  tp : fb probe = true → (∀ x, X.fn x = true) ∧ X.env.cells = τ.cells
def visB (sc : Scope) (x : Str) : Bool := sc.names.lookup x == some .local || sc.names.lookup x == some .cell || sc.names.lookup x == some .free
def glB (sc : Scope) (x : Str) : Bool := sc.names.lookup x == some .globalImplicit
def okName (x : Str) : Bool := !(x == ("__debug__" : Str)) && !(x == ("__classdict__" : Str))
def bltB (sc : Scope) (x : Str) : Bool := glB sc x && bltNames.contains x
def plainTest : Expr → Bool
  | .UnaryOp .Not _ _ => false
  | .BoolOp .. => false
  | .IfExp .. => false
  | .Compare .. => false
  | _ => true
def plainIx : Expr → Bool
  | .Slice .. => false
  | _ => true
def plainBase : Expr → Bool
  | .Call (.Name _ _) [] [] _ => false
  | _ => true
def noSet : Expr → Bool
  | .Set .. => false
  | _ => true
def okNm (N : List Str) (sc : Scope) (fb : Str → Bool) (i : Nat) (x : Str) : Bool := N[i]? == some x && (sc.names.lookup x == some .local || (sc.names.lookup x == some .cell && fb x))
def chkNms (N : List Str) (sc : Scope) (fb : Str → Bool) (st : Option Nat) : Nat → List Nat → List Expr → Bool
  | _, [], [] => true
  | j, i :: is, .Name x _ :: es => st != some j && okNm N sc fb i x && chkNms N sc fb st (j + 1) is es
  | j, i :: is, .Starred (.Name x _) _ :: es => st == some j && okNm N sc fb i x && chkNms N sc fb st (j + 1) is es
  | _, _, _ => false
def chkT1 (N : List Str) (sc : Scope) (fb : Str → Bool) : T1 → Expr → Bool
  | .nm i, .Name x _ => okNm N sc fb i x
  | .tp is, .Tuple es _ _ => chkNms N sc fb none 0 is es
  | _, _ => false
def chkT1s (N : List Str) (sc : Scope) (fb : Str → Bool) : List T1 → List Expr → Bool
  | [], [] => true
  | t :: ts, e :: es => chkT1 N sc fb t e && chkT1s N sc fb ts es
  | _, _ => false
def chkG (N : List Str) (sc : Scope) (fb : Str → Bool) : Tg → Expr → Bool
  | .nm i, .Name x _ => okNm N sc fb i x
  | .tp is st, .Tuple es _ _ => chkNms N sc fb (st.map (·.1)) 0 is es && (match st with | none => true | some (j, _) => decide (j < is.length))
  | .t2 ts, .Tuple es _ _ => chkT1s N sc fb ts es
  | _, _ => false
def T1.slots : T1 → List Nat
  | .nm i => [i]
  | .tp is => is
def Tg.slots : Tg → List Nat
  | .nm i => [i]
  | .tp is _ => is
  | .t2 ts => ts.flatMap T1.slots
def ownP (N : List Str) (own : List Nat) : List (Str × Nat) := own.map fun i => ((N[i]?).getD (Str.ofString ""), i)
def blkB (N : List Str) (sc scope : Scope) (own : List Nat) : Bool :=
  !(scope.names.lookup probe == some .cell) && scope.kind == .function && scope.names.all (fun y => scope.names.lookup y.1 == some y.2) && own.all (fun i => (N[i]?).isSome) &&
  scope.names.all (fun y => !(y.2 == .free) || sc.names.lookup y.1 == some .cell || sc.names.lookup y.1 == some .free) &&
  scope.names.all (fun y => !(y.2 == .local || y.2 == .cell) || ((ownP N own).map (·.1)).contains y.1 || !(N.contains y.1))
def freeB (sc scope : Scope) : Bool := scope.names.all fun y => !(y.2 == .free) || sc.names.lookup y.1 == some .cell || sc.names.lookup y.1 == some .free
def tupT : Ix → Expr → Bool
  | .enu _, .Tuple .. => true
  | .enu _, _ => false
  | _, _ => true
section
variable (T : Tab) (N : List Str)
mutual
def chkE (sc : Scope) (fb : Str → Bool) : Ex → Expr → Bool
  | .non, .Constant .none _ _ => true
  | .bl b, .Constant (.bool c) _ _ => b == c
  | .int i, .Constant (.int j) _ _ => i == j
  | .str x, .Constant (.str y) _ _ => x == y
  | .neg i, .UnaryOp .USub (.Constant (.int j) _ _) _ => i == j
  | .var i, .Name x _ => !(T.cp.contains i) && N[i]? == some x && visB sc x && okName x
  | .glb k d, .Name x _ => (match T.gls[k]? with | some p => p.1 == x && sameD p.2 d | none => false) && glB sc x && okName x
  | .bin o _ a b, .BinOp l op r _ => op == o.op && chkE sc fb a l && chkE sc fb b r
  | .cmp o a b, .Compare l [op] [r] _ => op == o.op && !(behindInMarks op r) && chkE sc fb a l && chkE sc fb b r
  | .chn o p a b c, .Compare l [op, op'] [r, r'] _ => op == o.op && op' == p.op && !(lastMarks [op, op'] [r, r']) && chkE sc fb a l && chkE sc fb b r && chkE sc fb c r'
  | .not a, .UnaryOp .Not e _ => chkE sc fb a e
  | .and a r, .BoolOp .And (e :: e' :: es) p => chkE sc fb a e && chkE sc fb r (.BoolOp .And (e' :: es) p)
  | .or a r, .BoolOp .Or (e :: e' :: es) p => chkE sc fb a e && chkE sc fb r (.BoolOp .Or (e' :: es) p)
  | .one a, .BoolOp _ [e] _ => chkE sc fb a e
  | .ife t a b, .IfExp c x y _ => chkT sc fb t c && chkE sc fb a x && chkE sc fb b y
  | .ix a b, .Subscript x y _ => plainIx y && chkE sc fb a x && chkE sc fb b y
  | .sl _ a lo hi, .Subscript x (.Slice l h none _) _ => chkE sc fb a x && chkO sc fb lo l && chkO sc fb hi h
  | .rev _ a, .Subscript x (.Slice none none (some (.UnaryOp .USub (.Constant (.int j) _ _) _)) _) _ => j == 1 && chkE sc fb a x
  | .tup es, .Tuple xs _ _ => chkL sc fb es xs && decide (xs.length ≤ SL)
  | .lst _ es, .List xs _ => chkL sc fb es xs && decide (xs.length ≤ SL)
  | .dic0 _, .Dict [] [] _ => true
  | .dicC _ ps, .Dict ks vs _ => chkCs ps ks vs && !ps.isEmpty && decide (ps.length ≤ 15)
  | .gin neg k kds a, .Compare l [op] [.Name x _] _ => op == inOp neg && (match T.gds[k]? with | some p => p.1 == x && sameK p.2 kds | none => false) && glB sc x && okName x && chkE sc fb a l
  | .gix k kds a, .Subscript (.Name x _) y _ => plainIx y && (match T.gds[k]? with | some p => p.1 == x && sameK p.2 kds | none => false) && glB sc x && okName x && chkE sc fb a y
  | .dic1 k i, .Dict [some (.Constant (.int j) _ _)] [.Name x _] _ => !(T.cp.contains i) && k == j && N[i]? == some x && visB sc x && okName x
  | .fn f _ es, .Call (.Name x _) (a :: as) [] _ => x == Str.ofString f.name && bltB sc x && chkL sc fb es (a :: as)
  | .isi t a, .Call (.Name x _) [e, .Name y _] [] _ => x == "isinstance" && y == Str.ofString t.name && bltB sc x && bltB sc y && noStar e && chkE sc fb a e
  | .me f _ o es, .Call (.Attribute x name ap) as [] cp => name == Str.ofString f.name && plainBase x && ap.endLine == cp.line && decide (as.length < 30) && chkE sc fb o x && chkL sc fb es as
  | .repl y z o, .Call (.Attribute x name ap) [.Constant (.str y') _ _, .Constant (.str z') _ _] [] cp => T.rp && name == "replace" && y == y' && z == z' && !(y' == z') && plainBase x && ap.endLine == cp.line && chkE sc fb o x
  | .call k es, .Call (.Name x _) (a :: as) [] _ => (match T.fns[k]? with | some p => p.cp.isEmpty && p.fr.isNone && p.name == x && p.np == (a :: as).length | none => false) && glB sc x && okName x && chkL sc fb es (a :: as)
  | .lc _ tg it ifs elt own, .ListComp e [⟨tg', it', ifs', z⟩] scope _ => (z == 0) && (chkI sc fb it it' && (noSet it' && tupT it tg') && blkB N sc scope own && tg.slots.all (own.contains ·) &&
      chkG N (relS scope sc) (fun x => scope.names.lookup x == some .cell) tg tg' && decide (ifs'.length ≤ 1) && chkTs (relS scope sc) (fun x => scope.names.lookup x == some .cell) ifs ifs' && chkE (relS scope sc) (fun x => scope.names.lookup x == some .cell) elt e)
  | .app i es, .Call (.Name x _) (a :: as) [] _ => N[i]? == some x && visB sc x && okName x && chkL sc fb es (a :: as)
  | .callc k axs, .Call (.Name x _) (a :: as) [] _ => (match T.fns[k]? with | some p => p.fr.isNone && p.name == x && p.np == (a :: as).length && chkAx sc fb p.cp 0 axs (a :: as) | none => false) && glB sc x && okName x
  | .callkw k es, .Call (.Name x _) [] ks _ => (match T.fns[k]? with | some p => p.cp.isEmpty && p.fr.isNone && p.name == x && (match p.kw with | some q => kwB q ks | none => false) | none => false) && glB sc x && okName x && chkK sc fb es ks
  | .lzip a b, .Call (.Name x _) [.Call (.Name y _) [.Call (.Name z _) [e1] [] _, e2] [] _] [] _ => x == "list" && y == "zip" && z == "range" && bltB sc x && bltB sc y && bltB sc z && noStar e1 && noStar e2 && chkE sc fb a e1 && chkE sc fb b e2
  | .mk k es, .Call (.Name x _) (a :: as) [] _ => (match T.fns[k]? with | some p => (match p.cls with | some ci => ci.name == x | none => false) | none => false) && glB sc x && okName x && chkL sc fb es (a :: as)
  | .isx y yes a, .Call (.Name x _) [e, .Name y' _] [] _ => x == "isinstance" && y == y' && T.isxs.contains (y, yes) && bltB sc x && glB sc y && okName y && noStar e && chkE sc fb a e
  | .fld f a, .Attribute e f' _ => f == f' && T.flds.contains f && plainBase e && chkE sc fb a e
  | .lrng _ a, .Call (.Name x _) [.Call (.Name z _) [e] [] _] [] _ => x == "list" && z == "range" && bltB sc x && bltB sc z && noStar e && chkE sc fb a e
  | .dicE kys es, .Dict ks vs _ => chkP sc fb kys es ks vs && !kys.isEmpty && decide (kys.length ≤ 15)
  | _, _ => false
def chkAx (sc : Scope) (fb : Str → Bool) (cps : List Nat) (j : Nat) : Axs → List Expr → Bool
  | .nil, [] => true
  | .d e r, x :: xs => noStar x && chkE sc fb e x && chkAx sc fb cps (j + 1) r xs
  | .par i r, .Name x _ :: xs => cps.contains j && N[i]? == some x && visB sc x && okName x && chkAx sc fb cps (j + 1) r xs
  | .glb k r, .Name x _ :: xs => cps.contains j && (match T.fns[k]? with | some p => p.cp.isEmpty && p.fr.isNone && p.name == x | none => false) && glB sc x && okName x && chkAx sc fb cps (j + 1) r xs
  | .lam k js r, .Lambda params body scope _ :: xs => cps.contains j && fb probe && T.mkn == some (Str.ofString "<lambda>") && params.defaults.isEmpty && params.kw_defaults.isEmpty && freeB sc scope && T.lam k params (.ex body) scope &&
      (match T.fns[k]? with | some p => (match p.fr with | some fr => fr.all (fun y => decide ((y, NameKind.free) ∈ scope.names)) && js.map (fun j => N[j]?) == fr.map some && js.all (fun j => !(T.cp.contains j)) | none => false) | none => false) && chkAx sc fb cps (j + 1) r xs
  | .own i k js r, .Name x _ :: xs => cps.contains j && fb probe && N[i]? == some x && visB sc x && okName x &&
      (match T.fns[k]? with | some p => (match p.fr with | some fr => fr.all (fun y => sc.names.lookup y == some .cell || sc.names.lookup y == some .free) && js.map (fun j => N[j]?) == fr.map some && js.all (fun j => !(T.cp.contains j)) | none => false) | none => false) && chkAx sc fb cps (j + 1) r xs
  | _, _ => false
def chkK (sc : Scope) (fb : Str → Bool) : Exs → List Keyword → Bool
  | .nil, [] => true
  | .cons e r, ⟨_, x, _⟩ :: xs => chkE sc fb e x && chkK sc fb r xs
  | _, _ => false
def chkP (sc : Scope) (fb : Str → Bool) : List Key → Exs → List (Option Expr) → List Expr → Bool
  | [], .nil, [], [] => true
  | k :: kys, .cons e r, some ke :: kes, ve :: ves => chkC k ke && chkE sc fb e ve && chkP sc fb kys r kes ves
  | _, _, _, _ => false
def chkO (sc : Scope) (fb : Str → Bool) : Ox → Option Expr → Bool
  | .non, none => true
  | .som e, some x => chkE sc fb e x
  | _, _ => false
def chkL (sc : Scope) (fb : Str → Bool) : Exs → List Expr → Bool
  | .nil, [] => true
  | .cons e r, x :: xs => noStar x && chkE sc fb e x && chkL sc fb r xs
  | _, _ => false
def chkT (sc : Scope) (fb : Str → Bool) : Tx → Expr → Bool
  | .cmp o a b, .Compare l [op] [r] _ => op == o.op && !(behindInMarks op r) && chkE sc fb a l && chkE sc fb b r
  | .chn o p a b c, .Compare l [op, op'] [r, r'] _ => op == o.op && op' == p.op && !(lastMarks [op, op'] [r, r']) && chkE sc fb a l && chkE sc fb b r && chkE sc fb c r'
  | .not t, .UnaryOp .Not e _ => chkT sc fb t e
  | .and ts, .BoolOp .And es _ => chkTs sc fb ts es
  | .or ts, .BoolOp .Or es _ => chkTs sc fb ts es
  | .gin neg k kds a, .Compare l [op] [.Name x _] _ => op == inOp neg && (match T.gds[k]? with | some p => p.1 == x && sameK p.2 kds | none => false) && glB sc x && okName x && chkE sc fb a l
  | .val a, e => plainTest e && chkE sc fb a e
  | _, _ => false
def chkTs (sc : Scope) (fb : Str → Bool) : Txs → List Expr → Bool
  | .nil, [] => true
  | .cons t r, x :: xs => chkT sc fb t x && chkTs sc fb r xs
  | _, _ => false
def chkI (sc : Scope) (fb : Str → Bool) : Ix → Expr → Bool
  | .seq a, e => chkE sc fb a e
  | .rng es, .Call (.Name x _) (a :: as) [] _ => x == "range" && bltB sc x && chkL sc fb es (a :: as)
  | .enu es, .Call (.Name x _) [a] [] _ => x == "enumerate" && bltB sc x && chkL sc fb es [a]
  | _, _ => false
end
end
end MP

/-! MP19: the check is sound, for expressions. -/
namespace MP
open PySem L2
theorem and2 {a b : Bool} (h : (a && b) = true) : a = true ∧ b = true := by rw [Bool.and_eq_true] at h; exact h
theorem notF {a : Bool} (h : (!a) = true) : a = false := by cases a <;> first | rfl | cases h
theorem kind_eq (env : PySem.Env) (x : Str) : env.kindOf x = env.scope.names.lookup x := rfl
section
variable {X : Cx} {n : Nat} {T : Tab} {φ : Nat → List D → M D} {N : List Str} {sc : Scope} {fb : Str → Bool}
theorem Ctx.vis (c : Ctx τ X n T φ N sc fb) {x : Str} (h : visB sc x = true) : Vis X.env.scope x := by
  rw [c.hs]
  unfold visB at h
  rw [Bool.or_eq_true, Bool.or_eq_true] at h
  rcases h with (h | h) | h
  · exact .inl (eq_of_beq h)
  · exact .inr (.inl (eq_of_beq h))
  · exact .inr (.inr (eq_of_beq h))
theorem Ctx.gl (c : Ctx τ X n T φ N sc fb) {x : Str} (h : glB sc x = true) : Gl X x := by
  unfold Gl
  rw [kind_eq, c.hs]
  exact eq_of_beq h
theorem okName_1 {x : Str} (h : okName x = true) : (x == ("__debug__" : Str)) = false ∧ (x == ("__classdict__" : Str)) = false := ⟨notF (and2 h).1, notF (and2 h).2⟩
theorem Ctx.nm (c : Ctx τ X n T φ N sc fb) {i : Nat} {x : Str} (h : (N[i]? == some x) = true) : X.N[i]? = some x := by rw [c.hN]; exact eq_of_beq h
theorem Ctx.blt (c : Ctx τ X n T φ N sc fb) {x : Str} (h : bltB sc x = true) : Gl X x ∧ X.mg x = none := by
  obtain ⟨h1, h2⟩ := and2 h
  exact ⟨c.gl h1, c.tab.bl x (List.contains_iff_mem.mp h2)⟩
theorem Ctx.store (c : Ctx τ X n T φ N sc fb) {i : Nat} {x : Str} (h : okNm N sc fb i x = true) : X.N[i]? = some x ∧ Loc X.env.scope x ∧ (X.fn x = true ∨ X.env.scope.names.lookup x = some .local) := by
  obtain ⟨h1, h2⟩ := and2 h
  refine ⟨c.nm h1, ?_⟩
  rw [c.hs]
  rw [Bool.or_eq_true] at h2
  rcases h2 with h2 | h2
  · exact ⟨.inl (eq_of_beq h2), .inr (eq_of_beq h2)⟩
  · obtain ⟨h2, h3⟩ := and2 h2
    exact ⟨.inr (eq_of_beq h2), .inl (c.hf x h3)⟩
theorem Ctx.blk (c : Ctx τ X n T φ N sc fb) (s : Shared) (H : Hp) (scope : Scope) (hp : (scope.names.lookup probe == some .cell) = false) (cl : List (Str × Addr)) (C : Addr) (fp : List Addr) :
    Ctx τ (X.blk s H scope (compEnvC scope cl C X.env) fp) n T φ N (relS scope sc) (fun x => scope.names.lookup x == some .cell) where
  hN := c.hN
  hs := by
    show relS scope X.env.scope = relS scope sc
    rw [c.hs]
  ck := ⟨c.ck.calm, c.ck.gd, c.ck.rm, c.ck.sm, c.ck.nd⟩
  tab := ⟨c.tab.fn, c.tab.gl, c.tab.bl, c.tab.rp, c.tab.gd, c.tab.fc.imp fun _ z => ⟨z.1, ⟨z.2.1.gf, z.2.1.nf⟩, z.2.2⟩, c.tab.mks, c.tab.isx, c.tab.fld, c.tab.lam, c.tab.txt⟩
  hf := fun x h => h
  cp := c.cp
  mkn := fun x h => ⟨(c.mkn x h).ex⟩
  tp := fun h => by rw [hp] at h; cases h
/-! targets -/
theorem setNames_asgs : ∀ (is : List Nat) (ds : List D) (ρ : Env), setNames is ds ρ = asgs (is.map fun i d (ρ : Env) => pure (ρ.set i (some d))) ds ρ
  | [], [], ρ => rfl
  | [], _ :: _, ρ => rfl
  | _ :: _, [], ρ => rfl
  | i :: is, d :: ds, ρ => by
    show setNames is ds (ρ.set i (some d)) = _
    rw [setNames_asgs is ds]
    rfl
theorem chkNms_ok (c : Ctx τ X n T φ N sc fb) {st : Option Nat} : ∀ (j : Nat) (is : List Nat) (es : List Expr), chkNms N sc fb st j is es = true →
    PGDs τ X es (asgs (is.map fun i d (ρ : Env) => pure (ρ.set i (some d)))) ∧ (assignEach es X.env).length = is.length ∧ (∀ k, (assignEach es X.env).findIdx? (·.1) = some k ↔ (st = some (j + k) ∧ k < is.length))
  | j, [], [], _ => ⟨pgds_nil, rfl, fun k => by simp [assignEach]⟩
  | j, i :: is, e :: es, h => by
    cases e with
    | Name x p =>
      have h : (st != some j && okNm N sc fb i x && chkNms N sc fb st (j + 1) is es) = true := h
      obtain ⟨h1, h3⟩ := and2 h
      obtain ⟨h1, h2⟩ := and2 h1
      obtain ⟨i1, i2, i3⟩ := chkNms_ok c (j + 1) is es h3
      obtain ⟨n1, n2, n3⟩ := c.store h2
      refine ⟨pgds_cons (b := false) (pgd_name c.ck.nd n1 n2 n3) i1 rfl, by show (assignEach es X.env).length + 1 = is.length + 1; rw [i2], fun k => ?_⟩
      have hne : st ≠ some j := by simpa using h1
      show (((false, assign (.Name x p) X.env) :: assignEach es X.env).findIdx? (·.1) = some k) ↔ _
      rw [List.findIdx?_cons]
      simp only [Bool.false_eq_true, if_false]
      cases k with
      | zero =>
        constructor
        · intro z; simp at z
        · intro z; exact absurd z.1 (by simpa using hne)
      | succ k =>
        rw [Option.map_eq_some_iff]
        constructor
        · rintro ⟨a, z1, z2⟩
          obtain rfl : a = k := by omega
          obtain ⟨z3, z4⟩ := (i3 a).mp z1
          exact ⟨by rw [z3]; congr 1; omega, by simpa using z4⟩
        · rintro ⟨z1, z2⟩
          exact ⟨k, (i3 k).mpr ⟨by rw [z1]; congr 1; omega, by simpa using z2⟩, rfl⟩
    | Starred e' p =>
      cases e' with
      | Name x p' =>
        have h : (st == some j && okNm N sc fb i x && chkNms N sc fb st (j + 1) is es) = true := h
        obtain ⟨h1, h3⟩ := and2 h
        obtain ⟨h1, h2⟩ := and2 h1
        obtain ⟨i1, i2, i3⟩ := chkNms_ok c (j + 1) is es h3
        obtain ⟨n1, n2, n3⟩ := c.store h2
        refine ⟨pgds_cons (b := true) (t' := .Name x p') (pgd_name c.ck.nd n1 n2 n3) i1 rfl, by show (assignEach es X.env).length + 1 = is.length + 1; rw [i2], fun k => ?_⟩
        have he : st = some j := eq_of_beq h1
        show (((true, assign (.Name x p') X.env) :: assignEach es X.env).findIdx? (·.1) = some k) ↔ _
        rw [List.findIdx?_cons]
        simp only [if_true]
        subst he
        constructor
        · intro z
          obtain rfl : 0 = k := by simpa using z
          simp
        · rintro ⟨z1, z2⟩
          obtain rfl : k = 0 := by simpa using z1
          rfl
      | _ => exact (Bool.false_ne_true h).elim
    | _ => exact (Bool.false_ne_true h).elim
  | j, [], _ :: _, h => (Bool.false_ne_true h).elim
  | j, _ :: _, [], h => (Bool.false_ne_true h).elim
theorem chkNms_tp (c : Ctx τ X n T φ N sc fb) {is : List Nat} {st : Option (Nat × Bool)} {es : List Expr} {k : Nat} {p : Pos} (h2 : (match st with | none => true | some (j, _) => decide (j < is.length)) = true) (h1 : chkNms N sc fb (st.map (·.1)) 0 is es = true) : PGD τ X (.Tuple es k p) (Tg.ev (.tp is st)) := by
  obtain ⟨i1, i2, i3⟩ := chkNms_ok c 0 is es h1
  have hst : (assignEach es X.env).findIdx? (·.1) = st.map (·.1) := by
    cases st with
    | none =>
      cases q : (assignEach es X.env).findIdx? (·.1) with
      | none => rfl
      | some k => exact absurd ((i3 k).mp q).1 (by simp)
    | some p =>
      have h2 : p.1 < is.length := of_decide_eq_true h2
      exact (i3 p.1).mpr ⟨by simp, h2⟩
  have key := pgd_tup (k := k) (pos := p) c.ck.calm i1 i2 hst
  have e : (fun d ρ => unpackD is.length st d >>= fun ds => asgs (is.map fun i d (ρ : Env) => pure (ρ.set i (some d))) ds ρ) = Tg.ev (.tp is st) := by
    funext d ρ
    show _ = (unpackD is.length st d >>= fun ds => setNames is ds ρ)
    congr 1
    funext ds
    rw [setNames_asgs]
  rw [← e]
  exact key
theorem chkT1_ok (c : Ctx τ X n T φ N sc fb) (t : T1) (e : Expr) (h : chkT1 N sc fb t e = true) : PGD τ X e t.ev ∧ ∀ es, assignEach (e :: es) X.env = (false, assign e X.env) :: assignEach es X.env := by
  cases t with
  | nm i =>
    cases e <;> try exact (Bool.false_ne_true h).elim
    rename_i x p
    obtain ⟨n1, n2, n3⟩ := c.store (i := i) (x := x) h
    exact ⟨pgd_name c.ck.nd n1 n2 n3, fun es => rfl⟩
  | tp is =>
    cases e <;> try exact (Bool.false_ne_true h).elim
    exact ⟨chkNms_tp (st := none) c rfl h, fun es => rfl⟩
theorem chkT1s_ok (c : Ctx τ X n T φ N sc fb) : ∀ (ts : List T1) (es : List Expr), chkT1s N sc fb ts es = true → PGDs τ X es (asgs (ts.map T1.ev)) ∧ (assignEach es X.env).length = ts.length ∧ (assignEach es X.env).findIdx? (·.1) = none
  | [], [], _ => ⟨pgds_nil, rfl, rfl⟩
  | t :: ts, e :: es, h => by
    obtain ⟨h1, h2⟩ := and2 (show (chkT1 N sc fb t e && chkT1s N sc fb ts es) = true from h)
    obtain ⟨i1, i2, i3⟩ := chkT1s_ok c ts es h2
    obtain ⟨k1, k2⟩ := chkT1_ok c t e h1
    refine ⟨pgds_cons k1 i1 (k2 es), by rw [k2, List.length_cons, List.length_cons, i2], ?_⟩
    rw [k2, List.findIdx?_cons, i3]
    rfl
  | [], _ :: _, h => (Bool.false_ne_true h).elim
  | _ :: _, [], h => (Bool.false_ne_true h).elim
theorem chkG_ok (c : Ctx τ X n T φ N sc fb) : ∀ (tg : Tg) (e : Expr), chkG N sc fb tg e = true → PGD τ X e tg.ev
  | .nm i, e, h => by
    cases e with
    | Name x p =>
      obtain ⟨n1, n2, n3⟩ := c.store (i := i) (x := x) h
      exact pgd_name c.ck.nd n1 n2 n3
    | _ => exact (Bool.false_ne_true h).elim
  | .tp is st, e, h => by
    cases e with
    | Tuple es k p =>
      obtain ⟨h1, h2⟩ := and2 h
      exact chkNms_tp c h2 h1
    | _ => exact (Bool.false_ne_true h).elim
  | .t2 ts, e, h => by
    cases e with
    | Tuple es k p =>
      obtain ⟨i1, i2, i3⟩ := chkT1s_ok c ts es h
      exact pgd_tup (star := none) (k := k) (pos := p) c.ck.calm i1 i2 i3
    | _ => exact (Bool.false_ne_true h).elim
theorem setNames_wipe (own : List Nat) : ∀ (is : List Nat) (ds : List D) (ρ : Env) (S : Sto) (ρ' : Env) (S' : Sto), (∀ i ∈ is, i ∈ own) → setNames is ds ρ S = .ok ρ' S' → wipeE ρ' own = wipeE ρ own
  | [], [], ρ, S, ρ', S', _, h => by cases h; rfl
  | [], _ :: _, ρ, S, ρ', S', _, h => by cases h
  | _ :: _, [], ρ, S, ρ', S', _, h => by cases h
  | i :: is, d :: ds, ρ, S, ρ', S', ho, h => by
    rw [setNames_wipe own is ds (ρ.set i (some d)) S ρ' S' (fun x hx => ho x (List.mem_cons_of_mem _ hx)) h]
    exact wipe_set1 (ho i (by simp)) ρ d
  where
  wipe_set1 {own : List Nat} {i : Nat} (hi : i ∈ own) (ρ : Env) (d : D) : wipeE (ρ.set i (some d)) own = wipeE ρ own := by
    induction own with
    | nil => exact absurd hi (by simp)
    | cons v vs ih =>
      show (wipeE (ρ.set i (some d)) vs).set v none = (wipeE ρ vs).set v none
      by_cases h : i = v
      · subst h
        have : ∀ (ρ : Env) (vs : List Nat), wipeE (ρ.set i (some d)) vs = (wipeE ρ vs).set i ((if i ∈ vs then none else some d)) := by
          intro ρ vs
          induction vs with
          | nil => rfl
          | cons w ws ih =>
            show (wipeE (ρ.set i (some d)) ws).set w none = ((wipeE ρ ws).set w none).set i _
            rw [ih]
            by_cases hw : i = w
            · subst hw
              simp
            · rw [List.set_comm _ _ hw]
              congr 1
              have : (i ∈ w :: ws) ↔ i ∈ ws := by simp [hw]
              simp [hw]
        rw [this, List.set_set]
      · have hi' : i ∈ vs := by
          rcases List.mem_cons.mp hi with z | z
          · exact absurd z h
          · exact z
        rw [ih hi']
theorem tp_wipe {is own : List Nat} {st : Option (Nat × Bool)} (hm : ∀ i ∈ is, i ∈ own) (d : D) (ρ : Env) (S : Sto) (ρ' : Env) (S' : Sto) (q : (unpackD is.length st d >>= fun ds => setNames is ds ρ) S = .ok ρ' S') : wipeE ρ' own = wipeE ρ own := by
  rw [bind_run] at q
  cases q2 : unpackD is.length st d S with
  | bad => rw [q2] at q; cases q
  | ok ds S2 =>
    rw [q2] at q
    exact setNames_wipe own is ds ρ S2 ρ' S' hm q
theorem T1.wipe {t : T1} {own : List Nat} (hm : ∀ i ∈ t.slots, i ∈ own) (d : D) (ρ : Env) (S : Sto) (ρ' : Env) (S' : Sto) (q : t.ev d ρ S = .ok ρ' S') : wipeE ρ' own = wipeE ρ own := by
  cases t with
  | nm i =>
    cases q
    exact setNames_wipe.wipe_set1 (hm i (by simp [T1.slots])) ρ d
  | tp is => exact tp_wipe hm d ρ S ρ' S' q
theorem asgs_wipe {own : List Nat} : ∀ (ts : List T1) (ds : List D) (ρ : Env) (S : Sto) (ρ' : Env) (S' : Sto), (∀ t ∈ ts, ∀ i ∈ t.slots, i ∈ own) → asgs (ts.map T1.ev) ds ρ S = .ok ρ' S' → wipeE ρ' own = wipeE ρ own
  | [], [], ρ, S, ρ', S', _, h => by cases h; rfl
  | [], _ :: _, ρ, S, ρ', S', _, h => by cases h
  | _ :: _, [], ρ, S, ρ', S', _, h => by cases h
  | t :: ts, d :: ds, ρ, S, ρ', S', ho, h => by
    have h : (t.ev d ρ >>= fun ρ1 => asgs (ts.map T1.ev) ds ρ1) S = .ok ρ' S' := h
    rw [bind_run] at h
    cases q : t.ev d ρ S with
    | bad => rw [q] at h; cases h
    | ok ρ1 S1 =>
      rw [q] at h
      rw [asgs_wipe ts ds ρ1 S1 ρ' S' (fun t ht => ho t (List.mem_cons_of_mem _ ht)) h, T1.wipe (ho t (by simp)) d ρ S ρ1 S1 q]
theorem Tg.wipe {tg : Tg} {own : List Nat} (h : tg.slots.all (own.contains ·) = true) (d : D) (ρ : Env) (S : Sto) (ρ' : Env) (S' : Sto) (q : tg.ev d ρ S = .ok ρ' S') : wipeE ρ' own = wipeE ρ own := by
  have hm : ∀ i ∈ tg.slots, i ∈ own := fun i hi => by
    have := List.all_eq_true.mp h i hi
    exact List.contains_iff_mem.mp this
  cases tg with
  | nm i =>
    cases q
    exact setNames_wipe.wipe_set1 (hm i (by simp [Tg.slots])) ρ d
  | tp is st => exact tp_wipe hm d ρ S ρ' S' q
  | t2 ts =>
    have q : (unpackD ts.length none d >>= fun ds => asgs (ts.map T1.ev) ds ρ) S = .ok ρ' S' := q
    rw [bind_run] at q
    cases q2 : unpackD ts.length none d S with
    | bad => rw [q2] at q; cases q
    | ok ds S2 =>
      rw [q2] at q
      exact asgs_wipe ts ds ρ S2 ρ' S' (fun t ht i hi => hm i (List.mem_flatMap.mpr ⟨t, ht, hi⟩)) q
theorem blkB_probe {scope : Scope} {own : List Nat} (h : blkB N sc scope own = true) : (scope.names.lookup probe == some .cell) = false := by
  unfold blkB at h
  obtain ⟨h, h5⟩ := and2 h
  obtain ⟨h, h4⟩ := and2 h
  obtain ⟨h, h3⟩ := and2 h
  obtain ⟨h, h2⟩ := and2 h
  exact notF (and2 h).1
theorem Ctx.ncp (c : Ctx τ X n T φ N sc fb) {i : Nat} (h : (!(T.cp.contains i)) = true) : i ∉ τ.cp := by
  rw [← c.cp]
  intro hm
  have := notF h
  rw [List.contains_iff_mem.mpr hm] at this
  cases this
theorem blkB_ok {scope : Scope} {own : List Nat} (h : blkB N sc scope own = true) : BlkOk N sc scope (ownP N own) := by
  unfold blkB at h
  obtain ⟨h, h5⟩ := and2 h
  obtain ⟨h, h4⟩ := and2 h
  obtain ⟨h, h3⟩ := and2 h
  obtain ⟨h, h2⟩ := and2 h
  obtain ⟨_, h1⟩ := and2 h
  refine ⟨eq_of_beq h1, fun y hy => eq_of_beq (List.all_eq_true.mp h2 y hy), fun p hp => ?_, fun y hy e => ?_, fun y hy e => ?_⟩
  · obtain ⟨i, hi, rfl⟩ := List.mem_map.mp hp
    have := List.all_eq_true.mp h3 i hi
    cases q : N[i]? with
    | none => rw [q] at this; cases this
    | some x => simp [q]
  · have := List.all_eq_true.mp h4 y hy
    rw [e] at this
    simpa using this
  · have := List.all_eq_true.mp h5 y hy
    have e' : (y.2 == NameKind.local || y.2 == NameKind.cell) = true := by
      rcases e with e | e <;> rw [e] <;> rfl
    rw [e'] at this
    rw [Bool.not_true, Bool.false_or, Bool.or_eq_true] at this
    rcases this with z | z
    · exact .inl (List.contains_iff_mem.mp z)
    · refine .inr fun m => ?_
      have z := notF z
      rw [List.contains_iff_mem.mpr m] at z
      cases z
theorem ownP_snd (N : List Str) (own : List Nat) : (ownP N own).map (·.2) = own := by
  unfold ownP
  rw [List.map_map]
  exact List.map_id' own
theorem base_ok {e : Expr} {name : Str} {env : PySem.Env} (h : plainBase e = true) : attributeBase e name env (eval e env) = eval e env := by
  unfold attributeBase
  split
  · cases h
  · rfl
theorem pt_ok {e : Expr} {env : PySem.Env} (h : plainTest e = true) : ∀ whole, PySem.isTrue e env whole = (do let v ← whole; standAt e.pos; holding [v] (truthy v)) := by
  intro whole
  cases e <;> first
    | rfl
    | (exact (Bool.false_ne_true h).elim)
    | (rename_i op _ _; cases op <;> first | rfl | exact (Bool.false_ne_true h).elim)
theorem ix_ok {e : Expr} (h : plainIx e = true) : ∀ o i, subscripted e false o i = operate [o, i] (getItem o i) := by
  intro o i
  cases e <;> first | rfl | exact (Bool.false_ne_true h).elim
theorem set_ok' {e : Expr} {env : PySem.Env} (h : noSet e = true) : ∀ x, foldedSetIterable e env x = pure x := by
  intro x
  cases e <;> first | rfl | exact (Bool.false_ne_true h).elim
theorem one_and {m : M Bool} : (m >>= fun c => if c = true then pure true else pure false) = m := by
  funext S
  rw [bind_run]
  cases q : m S with
  | bad => rfl
  | ok b S' => cases b <;> rfl
end
end MP

/-! MP20: expressions that pass the check run as they mean. -/
namespace MP
open PySem L2
variable {τ : Tau} {n : Nat} {T : Tab} {φ : Nat → List D → M D} {N : List Str}
theorem chkL_len {sc : Scope} {fb : Str → Bool} : ∀ (es : Exs) (xs : List Expr), chkL T N sc fb es xs = true → xs.all noStar = true ∧ ∀ ρ S ds S', evL φ es ρ S = .ok ds S' → ds.length = xs.length
  | .nil, xs, h => by
    cases xs with
    | nil => exact ⟨rfl, fun ρ S ds S' q => by cases q; rfl⟩
    | cons _ _ => exact (Bool.false_ne_true h).elim
  | .cons e r, xs, h => by
    cases xs with
    | nil => exact (Bool.false_ne_true h).elim
    | cons x xs =>
      obtain ⟨h1, h3⟩ := and2 (show (noStar x && chkE T N sc fb e x && chkL T N sc fb r xs) = true from h)
      obtain ⟨h1, h2⟩ := and2 h1
      obtain ⟨i1, i2⟩ := chkL_len r xs h3
      refine ⟨by rw [List.all_cons, h1, i1]; rfl, fun ρ S ds S' q => ?_⟩
      have q : (evE φ e ρ >>= fun d => evL φ r ρ >>= fun ds => pure (d :: ds)) S = .ok ds S' := q
      rw [bind_run] at q
      cases q1 : evE φ e ρ S with
      | bad => rw [q1] at q; cases q
      | ok d S1 =>
        rw [q1] at q
        dsimp only at q
        rw [bind_run] at q
        cases q2 : evL φ r ρ S1 with
        | bad => rw [q2] at q; cases q
        | ok ds' S2 =>
          rw [q2] at q
          cases q
          rw [List.length_cons, List.length_cons, i2 ρ S1 ds' _ q2]
theorem pd_weak {X : Cx} {e : Expr} {g g' : Env → M D} (h : PD τ X e g) (w : ∀ ρ S d S', g' ρ S = .ok d S' → g ρ S = .ok d S') : PD τ X e g' := by
  intro pins s σ H ρ η S I tk sr st
  cases q : g' ρ S with
  | bad => trivial
  | ok d S' =>
    have := h pins s σ H ρ η S I tk sr st
    rw [w ρ S d S' q] at this
    exact this
theorem bind_weak {m : M (List D)} {f g : List D → M D} {S : Sto} {d : D} {S' : Sto} (w : ∀ ds S d S', f ds S = .ok d S' → g ds S = .ok d S') (h : (m >>= f) S = .ok d S') : (m >>= g) S = .ok d S' := by
  rw [bind_run] at h ⊢
  cases q : m S with
  | bad => rw [q] at h; cases h
  | ok ds S1 =>
    rw [q] at h
    exact w _ _ _ _ h
theorem chk_lc {sc : Scope} {fb : Str → Bool} {m : Bool} {tg : Tg} {it : Ix} {ifs : Txs} {elt : Ex} {own : List Nat} {e tg' it' : Expr} {ifs' : List Expr} {z : Int} {scope : Scope} {p : Pos} (h : chkE T N sc fb (.lc m tg it ifs elt own) (.ListComp e [⟨tg', it', ifs', z⟩] scope p) = true) :
    z = 0 ∧ (chkI T N sc fb it it' && (noSet it' && tupT it tg') && blkB N sc scope own && tg.slots.all (own.contains ·) &&
      chkG N (relS scope sc) (fun x => scope.names.lookup x == some .cell) tg tg' && decide (ifs'.length ≤ 1) && chkTs T N (relS scope sc) (fun x => scope.names.lookup x == some .cell) ifs ifs' && chkE T N (relS scope sc) (fun x => scope.names.lookup x == some .cell) elt e) = true := by
  have h : ((z == 0) && (chkI T N sc fb it it' && (noSet it' && tupT it tg') && blkB N sc scope own && tg.slots.all (own.contains ·) &&
      chkG N (relS scope sc) (fun x => scope.names.lookup x == some .cell) tg tg' && decide (ifs'.length ≤ 1) && chkTs T N (relS scope sc) (fun x => scope.names.lookup x == some .cell) ifs ifs' && chkE T N (relS scope sc) (fun x => scope.names.lookup x == some .cell) elt e)) = true := h
  obtain ⟨h1, h2⟩ := and2 h
  exact ⟨eq_of_beq h1, h2⟩
theorem chk_lc2 {sc : Scope} {fb : Str → Bool} {m : Bool} {tg : Tg} {it : Ix} {ifs : Txs} {elt : Ex} {own : List Nat} {e : Expr} {g g' : Comprehension} {gs : List Comprehension} {scope : Scope} {p : Pos} (h : chkE T N sc fb (.lc m tg it ifs elt own) (.ListComp e (g :: g' :: gs) scope p) = true) : False := by
  cases g
  exact Bool.false_ne_true h
theorem gd_ok {X : Cx} (t : TabOk τ X n T φ) {k : Nat} {x : Str} {kds : List (Key × D)} (h : (match T.gds[k]? with | some p => p.1 == x && sameK p.2 kds | none => false) = true) : KdOk X x kds := by
  cases q : T.gds[k]? with
  | none => rw [q] at h; exact (Bool.false_ne_true h).elim
  | some p =>
    rw [q] at h
    obtain ⟨h1, h2⟩ := and2 (show (p.1 == x && sameK p.2 kds) = true from h)
    obtain rfl := eq_of_beq h1
    rw [← sameK_eq _ _ h2]
    exact t.gd k p q
theorem chkAx_len {sc : Scope} {fb : Str → Bool} {cps : List Nat} : ∀ (es : Axs) (j : Nat) (xs : List Expr), chkAx T N sc fb cps j es xs = true → xs.all noStar = true ∧ ∀ ρ S ds S', evAx φ es ρ S = .ok ds S' → ds.length = xs.length := by
  have step : ∀ {ga : Env → M D} {gr : Env → M (List D)} {m : Nat}, (∀ ρ S ds S', gr ρ S = .ok ds S' → ds.length = m) → ∀ ρ S ds S', (ga ρ >>= fun d => gr ρ >>= fun ds => pure (d :: ds)) S = .ok ds S' → ds.length = m + 1 := by
    intro ga gr m hr ρ S ds S' q
    rw [bind_run] at q
    cases q1 : ga ρ S with
    | bad => rw [q1] at q; cases q
    | ok d S1 =>
      rw [q1] at q
      dsimp only at q
      rw [bind_run] at q
      cases q2 : gr ρ S1 with
      | bad => rw [q2] at q; cases q
      | ok ds' S2 =>
        rw [q2] at q
        cases q
        rw [List.length_cons, hr ρ S1 ds' _ q2]
  have key : ∀ (n : Nat) (es : Axs) (j : Nat) (xs : List Expr), xs.length = n → chkAx T N sc fb cps j es xs = true → xs.all noStar = true ∧ ∀ ρ S ds S', evAx φ es ρ S = .ok ds S' → ds.length = xs.length := by
    intro n
    induction n with
    | zero =>
      intro es j xs hn h
      cases xs with
      | cons _ _ => cases hn
      | nil =>
        cases es <;> first | exact ⟨rfl, fun ρ S ds S' q => by cases q; rfl⟩ | exact (Bool.false_ne_true h).elim
    | succ n ih =>
      intro es j xs hn h
      cases xs with
      | nil => cases hn
      | cons x xs =>
        have hn : xs.length = n := by simpa using hn
        have fin : ∀ (r : Axs) (ga : Env → M D), noStar x = true → chkAx T N sc fb cps (j + 1) r xs = true → (x :: xs).all noStar = true ∧ ∀ ρ S ds S', (ga ρ >>= fun d => evAx φ r ρ >>= fun ds => pure (d :: ds)) S = .ok ds S' → ds.length = (x :: xs).length := fun r ga h1 h2 => by
          obtain ⟨i1, i2⟩ := ih r (j + 1) xs hn h2
          exact ⟨by rw [List.all_cons, h1, i1]; rfl, step (ga := ga) i2⟩
        cases es with
        | nil => exact (Bool.false_ne_true h).elim
        | d e r =>
          obtain ⟨h1, h3⟩ := and2 (show (noStar x && chkE T N sc fb e x && chkAx T N sc fb cps (j + 1) r xs) = true from h)
          exact fin r (evE φ e) (and2 h1).1 h3
        | par i r =>
          cases x <;> try exact (Bool.false_ne_true h).elim
          rename_i x p
          exact fin r (fun ρ => getC ρ i) rfl (and2 (show (cps.contains j && N[i]? == some x && visB sc x && okName x && chkAx T N sc fb cps (j + 1) r xs) = true from h)).2
        | glb k r =>
          cases x <;> try exact (Bool.false_ne_true h).elim
          rename_i x p
          exact fin r (fun _ => pure (.clo k [])) rfl (and2 (show (cps.contains j && (match T.fns[k]? with | some p => p.cp.isEmpty && p.fr.isNone && p.name == x | none => false) && glB sc x && okName x && chkAx T N sc fb cps (j + 1) r xs) = true from h)).2
        | lam k js r =>
          cases x <;> try exact (Bool.false_ne_true h).elim
          rename_i params body scope p
          exact fin r (fun ρ => capsD ρ js >>= fun ds => pure (.clo k ds)) rfl (and2 (show (cps.contains j && fb probe && T.mkn == some (Str.ofString "<lambda>") && params.defaults.isEmpty && params.kw_defaults.isEmpty && freeB sc scope && T.lam k params (.ex body) scope &&
      (match T.fns[k]? with | some p => (match p.fr with | some fr => fr.all (fun y => decide ((y, NameKind.free) ∈ scope.names)) && js.map (fun j => N[j]?) == fr.map some && js.all (fun j => !(T.cp.contains j)) | none => false) | none => false) && chkAx T N sc fb cps (j + 1) r xs) = true from h)).2
        | own i k js r =>
          cases x <;> try exact (Bool.false_ne_true h).elim
          rename_i x p
          exact fin r (fun ρ => getO ρ i k >>= fun _ => capsD ρ js >>= fun ds => pure (.clo k ds)) rfl (and2 (show (cps.contains j && fb probe && N[i]? == some x && visB sc x && okName x &&
      (match T.fns[k]? with | some p => (match p.fr with | some fr => fr.all (fun y => sc.names.lookup y == some .cell || sc.names.lookup y == some .free) && js.map (fun j => N[j]?) == fr.map some && js.all (fun j => !(T.cp.contains j)) | none => false) | none => false) && chkAx T N sc fb cps (j + 1) r xs) = true from h)).2
  exact fun es j xs h => key _ es j xs rfl h
theorem chkK_len {sc : Scope} {fb : Str → Bool} : ∀ (es : Exs) (ks : List Keyword), chkK T N sc fb es ks = true → ∀ ρ S ds S', evL φ es ρ S = .ok ds S' → ds.length = ks.length
  | .nil, [], h, ρ, S, ds, S', q => by cases q; rfl
  | .nil, _ :: _, h, ρ, S, ds, S', q => (Bool.false_ne_true h).elim
  | .cons e r, [], h, ρ, S, ds, S', q => (Bool.false_ne_true h).elim
  | .cons e r, ⟨nm, x, kp⟩ :: xs, h, ρ, S, ds, S', q => by
    obtain ⟨h1, h2⟩ := and2 (show (chkE T N sc fb e x && chkK T N sc fb r xs) = true from h)
    have q : (evE φ e ρ >>= fun d => evL φ r ρ >>= fun ds => pure (d :: ds)) S = .ok ds S' := q
    rw [bind_run] at q
    cases q1 : evE φ e ρ S with
    | bad => rw [q1] at q; cases q
    | ok d S1 =>
      rw [q1] at q
      dsimp only at q
      rw [bind_run] at q
      cases q2 : evL φ r ρ S1 with
      | bad => rw [q2] at q; cases q
      | ok ds' S2 =>
        rw [q2] at q
        cases q
        rw [List.length_cons, List.length_cons, chkK_len r xs h2 ρ S1 ds' _ q2]
theorem kwB_len : ∀ {ps : List Str} {ks : List Keyword}, kwB ps ks = true → ps.length = ks.length
  | [], [], _ => rfl
  | p :: ps, ⟨some x, e, kp⟩ :: ks, h => by
    rw [List.length_cons, List.length_cons, kwB_len (and2 (show (p == x && kwB ps ks) = true from h)).2]
  | [], ⟨_, _, _⟩ :: _, h => (Bool.false_ne_true h).elim
  | _ :: _, [], h => (Bool.false_ne_true h).elim
  | _ :: _, ⟨none, _, _⟩ :: _, h => (Bool.false_ne_true h).elim
theorem chkP_len {sc : Scope} {fb : Str → Bool} : ∀ (kys : List Key) (es : Exs) (ks : List (Option Expr)) (vs : List Expr), chkP T N sc fb kys es ks vs = true → ks.all (·.isSome) = true ∧ ks.length = kys.length ∧ vs.length = kys.length
  | [], .nil, [], [], _ => ⟨rfl, rfl, rfl⟩
  | k :: kys, .cons a r, some ke :: ks, v :: vs, h => by
    obtain ⟨h1, h3⟩ := and2 (show (chkC k ke && chkE T N sc fb a v && chkP T N sc fb kys r ks vs) = true from h)
    obtain ⟨a1, a2, a3⟩ := chkP_len kys r ks vs h3
    exact ⟨by rw [List.all_cons, a1]; rfl, by rw [List.length_cons, List.length_cons, a2], by rw [List.length_cons, List.length_cons, a3]⟩
  | [], .nil, [], _ :: _, h => (Bool.false_ne_true h).elim
  | [], .nil, _ :: _, [], h => (Bool.false_ne_true h).elim
  | [], .nil, _ :: _, _ :: _, h => (Bool.false_ne_true h).elim
  | [], .cons _ _, ks, vs, h => by cases ks <;> cases vs <;> exact (Bool.false_ne_true h).elim
  | _ :: _, .nil, ks, vs, h => by
    cases ks with
    | nil => cases vs <;> exact (Bool.false_ne_true h).elim
    | cons ke ks => cases ke <;> cases vs <;> exact (Bool.false_ne_true h).elim
  | _ :: _, .cons _ _, [], vs, h => by cases vs <;> exact (Bool.false_ne_true h).elim
  | _ :: _, .cons _ _, none :: _, vs, h => by cases vs <;> exact (Bool.false_ne_true h).elim
  | _ :: _, .cons _ _, some _ :: _, [], h => (Bool.false_ne_true h).elim
theorem Ctx.free {X : Cx} {sc : Scope} {fb : Str → Bool} {scope : Scope} (c : Ctx τ X n T φ N sc fb) (h : freeB sc scope = true) : ∀ y ∈ scope.names, y.2 = .free → X.env.scope.names.lookup y.1 = some .cell ∨ X.env.scope.names.lookup y.1 = some .free := fun y hy e => by
  have := List.all_eq_true.mp h y hy
  rw [e] at this
  rw [c.hs]
  simpa using this
mutual
theorem sndE : ∀ (ir : Ex) {X : Cx} {sc : Scope} {fb : Str → Bool}, Ctx τ X n T φ N sc fb → ∀ (e : Expr), chkE T N sc fb ir e = true → PD τ X e (evE φ ir)
  | .non, X, sc, fb, c, e, h => by
    cases e with
    | Constant v k p => cases v <;> first | exact pd_const (fun _ _ => rfl) (fun E => pe_non) (fun _ _ => .non) | exact (Bool.false_ne_true h).elim
    | _ => exact (Bool.false_ne_true h).elim
  | .bl b, X, sc, fb, c, e, h => by
    cases e with
    | Constant v k p =>
      cases v <;> first
        | (obtain rfl := eq_of_beq (show (b == _) = true from h); exact pd_const (fun _ _ => rfl) (fun E => pe_bl) (fun _ _ => .bl _))
        | exact (Bool.false_ne_true h).elim
    | _ => exact (Bool.false_ne_true h).elim
  | .int i, X, sc, fb, c, e, h => by
    cases e with
    | Constant v k p =>
      cases v <;> first
        | (obtain rfl := eq_of_beq (show (i == _) = true from h); exact pd_const (fun _ _ => rfl) (fun E => pe_int) (fun _ _ => .int _))
        | exact (Bool.false_ne_true h).elim
    | _ => exact (Bool.false_ne_true h).elim
  | .str x, X, sc, fb, c, e, h => by
    cases e with
    | Constant v k p =>
      cases v <;> first
        | (obtain rfl := eq_of_beq (show (x == _) = true from h); exact pd_const (fun _ _ => rfl) (fun E => pe_str) (fun _ _ => .str _))
        | exact (Bool.false_ne_true h).elim
    | _ => exact (Bool.false_ne_true h).elim
  | .neg i, X, sc, fb, c, e, h => by
    cases e with
    | UnaryOp op e' p =>
      cases op <;> try exact (Bool.false_ne_true h).elim
      cases e' <;> try exact (Bool.false_ne_true h).elim
      rename_i v k p'
      cases v <;> try exact (Bool.false_ne_true h).elim
      obtain rfl := eq_of_beq (show (i == _) = true from h)
      refine pd_of fun E σ H ρ η S d S' sr st q => ?_
      cases q
      exact ⟨_, pe_un un_neg pe_int, ⟨_, rfl, good_here st (.int _)⟩⟩
    | _ => exact (Bool.false_ne_true h).elim
  | .var i, X, sc, fb, c, e, h => by
    cases e with
    | Name x p =>
      obtain ⟨h1, h3⟩ := and2 (show (!(T.cp.contains i) && N[i]? == some x && visB sc x && okName x) = true from h)
      obtain ⟨h1, h2⟩ := and2 h1
      obtain ⟨h0, h1⟩ := and2 h1
      exact pd_var (c.ncp h0) (c.nm h1) (c.vis h2) (okName_1 h3).1 (okName_1 h3).2
    | _ => exact (Bool.false_ne_true h).elim
  | .glb k d, X, sc, fb, c, e, h => by
    cases e with
    | Name x p =>
      obtain ⟨h1, h3⟩ := and2 (show ((match T.gls[k]? with | some p => p.1 == x && sameD p.2 d | none => false) && glB sc x && okName x) = true from h)
      obtain ⟨h1, h2⟩ := and2 h1
      cases q : T.gls[k]? with
      | none => rw [q] at h1; exact (Bool.false_ne_true h1).elim
      | some p =>
        rw [q] at h1
        obtain ⟨h1, h4⟩ := and2 (show (p.1 == x && sameD p.2 d) = true from h1)
        obtain rfl := eq_of_beq h1
        obtain ⟨v, u, t1, t2, t3⟩ := c.tab.gl k p q
        rw [sameD_eq _ _ h4] at t3
        exact pd_glob (c.gl h2) t1 t2 t3 (okName_1 h3).1
    | _ => exact (Bool.false_ne_true h).elim
  | .bin o m a b, X, sc, fb, c, e, h => by
    cases e with
    | BinOp l op r p =>
      obtain ⟨h1, h3⟩ := and2 (show (op == o.op && chkE T N sc fb a l && chkE T N sc fb b r) = true from h)
      obtain ⟨h1, h2⟩ := and2 h1
      obtain rfl := eq_of_beq h1
      exact pd_bin (o.ok m) (sndE a c l h2) (sndE b c r h3)
    | _ => exact (Bool.false_ne_true h).elim
  | .cmp o a b, X, sc, fb, c, e, h => by
    cases e with
    | Compare l ops rs p =>
      cases ops with
      | nil => exact (Bool.false_ne_true h).elim
      | cons op ops =>
        cases ops with
        | cons _ _ => cases rs with | nil => exact (Bool.false_ne_true h).elim | cons _ rs => cases rs <;> exact (Bool.false_ne_true h).elim
        | nil =>
          cases rs with
          | nil => exact (Bool.false_ne_true h).elim
          | cons r rs =>
            cases rs with
            | cons _ _ => exact (Bool.false_ne_true h).elim
            | nil =>
              obtain ⟨h1, h4⟩ := and2 (show (op == o.op && !(behindInMarks op r) && chkE T N sc fb a l && chkE T N sc fb b r) = true from h)
              obtain ⟨h1, h3⟩ := and2 h1
              obtain ⟨h1, h2⟩ := and2 h1
              obtain rfl := eq_of_beq h1
              exact pd_cmp (o.ok c.ck) (sndE a c l h3) (sndE b c r h4) (notF h2)
    | _ => exact (Bool.false_ne_true h).elim
  | .chn o q a b d, X, sc, fb, c, e, h => by
    cases e with
    | Compare l ops rs p =>
      cases ops with
      | nil => exact (Bool.false_ne_true h).elim
      | cons op ops =>
        cases ops with
        | nil => cases rs with | nil => exact (Bool.false_ne_true h).elim | cons _ rs => cases rs <;> exact (Bool.false_ne_true h).elim
        | cons op' ops =>
          cases ops with
          | cons _ _ => cases rs with | nil => exact (Bool.false_ne_true h).elim | cons _ rs => cases rs with | nil => exact (Bool.false_ne_true h).elim | cons _ rs => cases rs <;> exact (Bool.false_ne_true h).elim
          | nil =>
            cases rs with
            | nil => exact (Bool.false_ne_true h).elim
            | cons r rs =>
              cases rs with
              | nil => exact (Bool.false_ne_true h).elim
              | cons r' rs =>
                cases rs with
                | cons _ _ => exact (Bool.false_ne_true h).elim
                | nil =>
                  obtain ⟨h1, h6⟩ := and2 (show (op == o.op && op' == q.op && !(lastMarks [op, op'] [r, r']) && chkE T N sc fb a l && chkE T N sc fb b r && chkE T N sc fb d r') = true from h)
                  obtain ⟨h1, h5⟩ := and2 h1
                  obtain ⟨h1, h4⟩ := and2 h1
                  obtain ⟨h1, h3⟩ := and2 h1
                  obtain ⟨h1, h2⟩ := and2 h1
                  obtain rfl := eq_of_beq h1
                  obtain rfl := eq_of_beq h2
                  exact pd_chain (o.ok c.ck) (q.ok c.ck) (sndE a c l h4) (sndE b c r h5) (sndE d c r' h6) (notF h3)
    | _ => exact (Bool.false_ne_true h).elim
  | .not a, X, sc, fb, c, e, h => by
    cases e with
    | UnaryOp op e' p =>
      cases op <;> first | exact (Bool.false_ne_true h).elim | exact pd_not (sndE a c e' h)
    | _ => exact (Bool.false_ne_true h).elim
  | .and a r, X, sc, fb, c, e, h => by
    cases e with
    | BoolOp op es p =>
      cases op <;> cases es with
      | nil => exact (Bool.false_ne_true h).elim
      | cons e1 es => cases es with
        | nil => exact (Bool.false_ne_true h).elim
        | cons e2 es => first
          | exact (Bool.false_ne_true h).elim
          | (obtain ⟨h1, h2⟩ := and2 (show (chkE T N sc fb a e1 && chkE T N sc fb r (.BoolOp .And (e2 :: es) p)) = true from h)
             exact pd_and (sndE a c e1 h1) (sndE r c _ h2))
    | _ => exact (Bool.false_ne_true h).elim
  | .or a r, X, sc, fb, c, e, h => by
    cases e with
    | BoolOp op es p =>
      cases op <;> cases es with
      | nil => exact (Bool.false_ne_true h).elim
      | cons e1 es => cases es with
        | nil => exact (Bool.false_ne_true h).elim
        | cons e2 es => first
          | exact (Bool.false_ne_true h).elim
          | (obtain ⟨h1, h2⟩ := and2 (show (chkE T N sc fb a e1 && chkE T N sc fb r (.BoolOp .Or (e2 :: es) p)) = true from h)
             exact pd_or (sndE a c e1 h1) (sndE r c _ h2))
    | _ => exact (Bool.false_ne_true h).elim
  | .one a, X, sc, fb, c, e, h => by
    cases e with
    | BoolOp op es p =>
      cases es with
      | nil => exact (Bool.false_ne_true h).elim
      | cons e1 es => cases es with
        | nil => exact pd_one (sndE a c e1 h)
        | cons e2 es => exact (Bool.false_ne_true h).elim
    | _ => exact (Bool.false_ne_true h).elim
  | .ife t a b, X, sc, fb, c, e, h => by
    cases e with
    | IfExp q x y p =>
      obtain ⟨h1, h3⟩ := and2 (show (chkT T N sc fb t q && chkE T N sc fb a x && chkE T N sc fb b y) = true from h)
      obtain ⟨h1, h2⟩ := and2 h1
      exact pd_ife (sndT t c q h1) (sndE a c x h2) (sndE b c y h3)
    | _ => exact (Bool.false_ne_true h).elim
  | .ix a b, X, sc, fb, c, e, h => by
    cases e with
    | Subscript x y p =>
      obtain ⟨h1, h3⟩ := and2 (show (plainIx y && chkE T N sc fb a x && chkE T N sc fb b y) = true from h)
      obtain ⟨h1, h2⟩ := and2 h1
      exact pd_ix (c.ck.units (k := 1) (by decide)) (sndE a c x h2) (sndE b c y h3) (ix_ok h1)
    | _ => exact (Bool.false_ne_true h).elim
  | .sl m a lo hi, X, sc, fb, c, e, h => by
    cases e with
    | Subscript x y p =>
      cases y <;> try exact (Bool.false_ne_true h).elim
      rename_i l u s' p'
      cases s' with
      | some _ => exact (Bool.false_ne_true h).elim
      | none =>
        obtain ⟨h1, h3⟩ := and2 (show (chkE T N sc fb a x && chkO T N sc fb lo l && chkO T N sc fb hi u) = true from h)
        obtain ⟨h1, h2⟩ := and2 h1
        exact pd_slice (sndE a c x h1) (sndO lo c l h2) (sndO hi c u h3)
    | _ => exact (Bool.false_ne_true h).elim
  | .rev m a, X, sc, fb, c, e, h => by
    cases e with
    | Subscript x y p =>
      cases y <;> try exact (Bool.false_ne_true h).elim
      rename_i l u s' p'
      cases l <;> cases u <;> cases s' <;> try exact (Bool.false_ne_true h).elim
      rename_i s'
      cases s' <;> try exact (Bool.false_ne_true h).elim
      rename_i op e' p1
      cases op <;> cases e' <;> try exact (Bool.false_ne_true h).elim
      rename_i v k p2
      cases v <;> try exact (Bool.false_ne_true h).elim
      rename_i j
      obtain ⟨h1, h2⟩ := and2 (show (j == 1 && chkE T N sc fb a x) = true from h)
      obtain rfl := eq_of_beq h1
      exact pd_rev (sndE a c x h2)
    | _ => exact (Bool.false_ne_true h).elim
  | .tup es, X, sc, fb, c, e, h => by
    cases e with
    | Tuple xs k p =>
      obtain ⟨h1, h2⟩ := and2 (show (chkL T N sc fb es xs && decide (xs.length ≤ SL)) = true from h)
      exact pd_tup (sndL es c xs h1) fun ρ S ds S' q => by rw [(chkL_len es xs h1).2 ρ S ds S' q]; exact of_decide_eq_true h2
    | _ => exact (Bool.false_ne_true h).elim
  | .lst m es, X, sc, fb, c, e, h => by
    cases e with
    | List xs p =>
      obtain ⟨h1, h2⟩ := and2 (show (chkL T N sc fb es xs && decide (xs.length ≤ SL)) = true from h)
      exact pd_lst (sndL es c xs h1) fun ρ S ds S' q => by rw [(chkL_len es xs h1).2 ρ S ds S' q]; exact of_decide_eq_true h2
    | _ => exact (Bool.false_ne_true h).elim
  | .dic0 m, X, sc, fb, c, e, h => by
    cases e with
    | Dict ks vs p => cases ks <;> cases vs <;> first | exact pd_dict0m | exact (Bool.false_ne_true h).elim
    | _ => exact (Bool.false_ne_true h).elim
  | .dicC m ps, X, sc, fb, c, e, h => by
    cases e with
    | Dict ks vs p =>
      obtain ⟨h, h3⟩ := and2 (show (chkCs ps ks vs && !ps.isEmpty && decide (ps.length ≤ 15)) = true from h)
      obtain ⟨h1, h2⟩ := and2 h
      exact pd_dispC h1 (fun z => by rw [z] at h2; cases h2) (of_decide_eq_true h3)
    | _ => exact (Bool.false_ne_true h).elim
  | .gin neg k kds a, X, sc, fb, c, e, h => by
    cases e with
    | Compare l ops rs p =>
      cases ops with
      | nil => exact (Bool.false_ne_true h).elim
      | cons op ops =>
        cases ops with
        | cons _ _ => cases rs with | nil => exact (Bool.false_ne_true h).elim | cons r rs => cases r <;> first | exact (Bool.false_ne_true h).elim | (cases rs <;> exact (Bool.false_ne_true h).elim)
        | nil =>
          cases rs with
          | nil => exact (Bool.false_ne_true h).elim
          | cons r rs =>
            cases r <;> try exact (Bool.false_ne_true h).elim
            rename_i x p'
            cases rs with
            | cons _ _ => exact (Bool.false_ne_true h).elim
            | nil =>
              obtain ⟨h, h5⟩ := and2 (show (op == inOp neg && (match T.gds[k]? with | some p => p.1 == x && sameK p.2 kds | none => false) && glB sc x && okName x && chkE T N sc fb a l) = true from h)
              obtain ⟨h, h4⟩ := and2 h
              obtain ⟨h, h3⟩ := and2 h
              obtain ⟨h1, h2⟩ := and2 h
              obtain rfl := eq_of_beq h1
              exact pd_gin (gd_ok c.tab h2) (c.gl h3) (okName_1 h4).1 (sndE a c l h5) (by cases neg <;> rfl)
    | _ => exact (Bool.false_ne_true h).elim
  | .gix k kds a, X, sc, fb, c, e, h => by
    cases e with
    | Subscript x y p =>
      cases x <;> try exact (Bool.false_ne_true h).elim
      rename_i x p'
      obtain ⟨h, h5⟩ := and2 (show (plainIx y && (match T.gds[k]? with | some p => p.1 == x && sameK p.2 kds | none => false) && glB sc x && okName x && chkE T N sc fb a y) = true from h)
      obtain ⟨h, h4⟩ := and2 h
      obtain ⟨h, h3⟩ := and2 h
      obtain ⟨h1, h2⟩ := and2 h
      exact pd_gix (gd_ok c.tab h2) (c.gl h3) (okName_1 h4).1 (sndE a c y h5) (ix_ok h1)
    | _ => exact (Bool.false_ne_true h).elim
  | .dic1 k i, X, sc, fb, c, e, h => by
    cases e with
    | Dict ks vs p =>
      cases ks with
      | nil => cases vs <;> exact (Bool.false_ne_true h).elim
      | cons k1 ks =>
        cases k1 with
        | none => exact (Bool.false_ne_true h).elim
        | some k1 =>
          cases k1 <;> try exact (Bool.false_ne_true h).elim
          rename_i v _ p1
          cases v <;> try exact (Bool.false_ne_true h).elim
          rename_i j
          cases ks with
          | cons _ _ => exact (Bool.false_ne_true h).elim
          | nil =>
            cases vs with
            | nil => exact (Bool.false_ne_true h).elim
            | cons v1 vs =>
              cases v1 <;> try exact (Bool.false_ne_true h).elim
              rename_i x p2
              cases vs with
              | cons _ _ => exact (Bool.false_ne_true h).elim
              | nil =>
                obtain ⟨h1, h4⟩ := and2 (show (!(T.cp.contains i) && k == j && N[i]? == some x && visB sc x && okName x) = true from h)
                obtain ⟨h1, h3⟩ := and2 h1
                obtain ⟨h1, h2⟩ := and2 h1
                obtain ⟨h0, h1⟩ := and2 h1
                obtain rfl := eq_of_beq h1
                exact pd_dict1 (c.ncp h0) (c.nm h2) (c.vis h3) (okName_1 h4).1 (okName_1 h4).2
    | _ => exact (Bool.false_ne_true h).elim
  | .fn f m es, X, sc, fb, c, e, h => by
    cases e with
    | Call g as ks p =>
      cases g <;> try exact (Bool.false_ne_true h).elim
      rename_i x p'
      cases as with
      | nil => exact (Bool.false_ne_true h).elim
      | cons a as =>
        cases ks with
        | cons _ _ => exact (Bool.false_ne_true h).elim
        | nil =>
          obtain ⟨h1, h3⟩ := and2 (show (x == Str.ofString f.name && bltB sc x && chkL T N sc fb es (a :: as)) = true from h)
          obtain ⟨h1, h2⟩ := and2 h1
          obtain rfl := eq_of_beq h1
          obtain ⟨g1, g2⟩ := c.blt h2
          obtain ⟨l1, l2⟩ := chkL_len (φ := φ) es _ h3
          obtain ⟨l3, l4⟩ := and2 l1
          cases q : f.isType with
          | true => exact pd_fnT (Fn.okT c.ck.calm f m q) g1 g2 (by rw [f.boot, q]; rfl) (sndL es c _ h3) f.nn.1 f.nn.2 (starEach_cons l3) (star_any l4)
          | false => exact pd_fnB (Fn.okB c.ck f m q) g1 g2 (by rw [f.boot, q]; rfl) (sndL es c _ h3) f.nn.1 f.nn.2 (starEach_cons l3) (star_any l4)
    | _ => exact (Bool.false_ne_true h).elim
  | .lzip a b, X, sc, fb, c, e, h => by
    cases e with
    | Call g as ks p =>
      cases g <;> try exact (Bool.false_ne_true h).elim
      rename_i x p1
      match as, ks, h with
      | [.Call (.Name y p2) [.Call (.Name z p3) [e1] [] c3, e2] [] c2], [], h =>
        obtain ⟨h1, h10⟩ := and2 (show (x == "list" && y == "zip" && z == "range" && bltB sc x && bltB sc y && bltB sc z && noStar e1 && noStar e2 && chkE T N sc fb a e1 && chkE T N sc fb b e2) = true from h)
        obtain ⟨h1, h9⟩ := and2 h1
        obtain ⟨h1, h8⟩ := and2 h1
        obtain ⟨h1, h7⟩ := and2 h1
        obtain ⟨h1, h6⟩ := and2 h1
        obtain ⟨h1, h5⟩ := and2 h1
        obtain ⟨h1, h4⟩ := and2 h1
        obtain ⟨h1, h3⟩ := and2 h1
        obtain ⟨h1, h2⟩ := and2 h1
        obtain rfl := eq_of_beq h1
        obtain rfl := eq_of_beq h2
        obtain rfl := eq_of_beq h3
        exact pd_lzip (c.blt h4).1 (c.blt h4).2 (c.blt h5).1 (c.blt h5).2 (c.blt h6).1 (c.blt h6).2 c.ck.calm (sndE a c e1 h9) (sndE b c e2 h10) h7 h8
    | _ => exact (Bool.false_ne_true h).elim
  | .mk k es, X, sc, fb, c, e, h => by
    cases e with
    | Call g as ks p =>
      cases g <;> try exact (Bool.false_ne_true h).elim
      rename_i x p'
      cases as with
      | nil => exact (Bool.false_ne_true h).elim
      | cons a as =>
        cases ks with
        | cons _ _ => exact (Bool.false_ne_true h).elim
        | nil =>
          obtain ⟨h1, h4⟩ := and2 (show ((match T.fns[k]? with | some p => (match p.cls with | some ci => ci.name == x | none => false) | none => false) && glB sc x && okName x && chkL T N sc fb es (a :: as)) = true from h)
          obtain ⟨h1, h3⟩ := and2 h1
          obtain ⟨h1, h2⟩ := and2 h1
          cases q : T.fns[k]? with
          | none => rw [q] at h1; exact (Bool.false_ne_true h1).elim
          | some p =>
            rw [q] at h1
            cases q2 : p.cls with
            | none => dsimp only at h1; rw [q2] at h1; exact (Bool.false_ne_true h1).elim
            | some ci =>
              dsimp only at h1
              rw [q2] at h1
              obtain ⟨C, t1, t2, t3⟩ := c.tab.mks k p ci q q2
              obtain ⟨l1, l2⟩ := chkL_len (φ := φ) es _ h4
              obtain ⟨l3, l4⟩ := and2 l1
              by_cases hn : 2 ≤ n
              · exact pd_weak (pd_mk (p := p') t1 t2 (c.ck.rm.mono hn) (c.gl h2) (eq_of_beq h1) (sndL es c _ h4) (okName_1 h3).1 (starEach_cons l3) (star_any l4)) fun ρ S d S' z => bind_weak (fun ds S d S' y => (t3 ds S d S' y).1) z
              · intro pins s σ H ρ η S I tk sr st
                have hb : ∀ ds S, φ k ds S = .bad := fun ds S => by
                  cases z : φ k ds S with
                  | bad => rfl
                  | ok d S' => exact absurd (t3 ds S d S' z).2 hn
                show Out τ X pins η H (relV X.K σ) ((evL φ es ρ >>= φ k) S) _ s
                rw [bind_run]
                cases evL φ es ρ S with
                | bad => trivial
                | ok ds S1 =>
                  show Out τ X pins η H (relV X.K σ) (φ k ds S1) _ s
                  rw [hb]
                  trivial
    | _ => exact (Bool.false_ne_true h).elim
  | .isx y yes a, X, sc, fb, c, e, h => by
    cases e with
    | Call g as ks p =>
      cases g <;> try exact (Bool.false_ne_true h).elim
      rename_i x p'
      cases as with
      | nil => exact (Bool.false_ne_true h).elim
      | cons e1 as =>
        cases as with
        | nil => exact (Bool.false_ne_true h).elim
        | cons e2 as =>
          cases e2 <;> try exact (Bool.false_ne_true h).elim
          rename_i y' p2
          cases as with
          | cons _ _ => exact (Bool.false_ne_true h).elim
          | nil =>
            cases ks with
            | cons _ _ => exact (Bool.false_ne_true h).elim
            | nil =>
              obtain ⟨h1, h8⟩ := and2 (show (x == "isinstance" && y == y' && T.isxs.contains (y, yes) && bltB sc x && glB sc y && okName y && noStar e1 && chkE T N sc fb a e1) = true from h)
              obtain ⟨h1, h7⟩ := and2 h1
              obtain ⟨h1, h6⟩ := and2 h1
              obtain ⟨h1, h5⟩ := and2 h1
              obtain ⟨h1, h4⟩ := and2 h1
              obtain ⟨h1, h3⟩ := and2 h1
              obtain ⟨h1, h2⟩ := and2 h1
              obtain rfl := eq_of_beq h1
              obtain rfl := eq_of_beq h2
              obtain ⟨cv, n1, n2⟩ := c.tab.isx _ (List.contains_iff_mem.mp h3)
              exact pd_isx (sndE a c e1 h8) (c.blt h4).1 (c.blt h4).2 ⟨c.gl h5, (okName_1 h6).1, n1⟩ n2 (starEach_cons h7)
    | _ => exact (Bool.false_ne_true h).elim
  | .fld f a, X, sc, fb, c, e, h => by
    cases e with
    | Attribute e1 f' p =>
      obtain ⟨h1, h4⟩ := and2 (show (f == f' && T.flds.contains f && plainBase e1 && chkE T N sc fb a e1) = true from h)
      obtain ⟨h1, h3⟩ := and2 h1
      obtain ⟨h1, h2⟩ := and2 h1
      obtain rfl := eq_of_beq h1
      exact pd_fld (sndE a c e1 h4) (c.tab.fld _ (List.contains_iff_mem.mp h2)) (base_ok h3)
    | _ => exact (Bool.false_ne_true h).elim
  | .lrng m a, X, sc, fb, c, e, h => by
    cases e with
    | Call g as ks p =>
      cases g <;> try exact (Bool.false_ne_true h).elim
      rename_i x p1
      match as, ks, h with
      | [.Call (.Name z p3) [e1] [] c3], [], h =>
        obtain ⟨h1, h6⟩ := and2 (show (x == "list" && z == "range" && bltB sc x && bltB sc z && noStar e1 && chkE T N sc fb a e1) = true from h)
        obtain ⟨h1, h5⟩ := and2 h1
        obtain ⟨h1, h4⟩ := and2 h1
        obtain ⟨h1, h3⟩ := and2 h1
        obtain ⟨h1, h2⟩ := and2 h1
        obtain rfl := eq_of_beq h1
        obtain rfl := eq_of_beq h2
        exact pd_lrng (sndE a c e1 h6) c.ck.calm (c.blt h3).1 (c.blt h3).2 (c.blt h4).1 (c.blt h4).2 (starEach_cons h5)
    | _ => exact (Bool.false_ne_true h).elim
  | .isi t a, X, sc, fb, c, e, h => by
    cases e with
    | Call g as ks p =>
      cases g <;> try exact (Bool.false_ne_true h).elim
      rename_i x p'
      cases as with
      | nil => exact (Bool.false_ne_true h).elim
      | cons e1 as =>
        cases as with
        | nil => exact (Bool.false_ne_true h).elim
        | cons e2 as =>
          cases e2 <;> try exact (Bool.false_ne_true h).elim
          rename_i y p2
          cases as with
          | cons _ _ => exact (Bool.false_ne_true h).elim
          | nil =>
            cases ks with
            | cons _ _ => exact (Bool.false_ne_true h).elim
            | nil =>
              obtain ⟨h1, h6⟩ := and2 (show (x == "isinstance" && y == Str.ofString t.name && bltB sc x && bltB sc y && noStar e1 && chkE T N sc fb a e1) = true from h)
              obtain ⟨h1, h5⟩ := and2 h1
              obtain ⟨h1, h4⟩ := and2 h1
              obtain ⟨h1, h3⟩ := and2 h1
              obtain ⟨h1, h2⟩ := and2 h1
              obtain rfl := eq_of_beq h1
              obtain rfl := eq_of_beq h2
              exact pd_isi (sndE a c e1 h6) (c.blt h3).1 (c.blt h3).2 (c.blt h4).1 (c.blt h4).2 (starEach_cons h5)
    | _ => exact (Bool.false_ne_true h).elim
  | .me f m o es, X, sc, fb, c, e, h => by
    cases e with
    | Call g as ks cp =>
      cases g <;> try exact (Bool.false_ne_true h).elim
      rename_i x name ap
      cases ks with
      | cons _ _ => exact (Bool.false_ne_true h).elim
      | nil =>
        obtain ⟨h1, h6⟩ := and2 (show (name == Str.ofString f.name && plainBase x && ap.endLine == cp.line && decide (as.length < 30) && chkE T N sc fb o x && chkL T N sc fb es as) = true from h)
        obtain ⟨h1, h5⟩ := and2 h1
        obtain ⟨h1, h4⟩ := and2 h1
        obtain ⟨h1, h3⟩ := and2 h1
        obtain ⟨h1, h2⟩ := and2 h1
        obtain rfl := eq_of_beq h1
        cases as with
        | nil =>
          cases es with
          | cons _ _ => exact (Bool.false_ne_true h6).elim
          | nil =>
            have key := pd_meth0 (apos := ap) (cpos := cp) f.pa f.slot f.hty (f.ok m) (fun st r q => f.tyv st r q) (sndE o c x h5) (base_ok h2) h3
            exact key
        | cons a as =>
          obtain ⟨l1, l2⟩ := chkL_len (φ := φ) es _ h6
          obtain ⟨l3, l4⟩ := and2 l1
          refine pd_meth f.pa f.slot f.hty (f.ok m) (fun st r q => f.tyv st r q) (sndE o c x h5) (sndL es c _ h6) (base_ok h2) ?_ h3 (starEach_cons l3) (star_any l4)
          rw [star_all l1]
          show (true && true && decide ((a :: as).length + 0 + 0 < 30)) = true
          rw [Bool.true_and, Bool.true_and, Nat.add_zero]
          exact h4
    | _ => exact (Bool.false_ne_true h).elim
  | .repl y z o, X, sc, fb, c, e, h => by
    cases e with
    | Call g as ks cp =>
      cases g <;> try exact (Bool.false_ne_true h).elim
      rename_i x name ap
      cases as with
      | nil => exact (Bool.false_ne_true h).elim
      | cons e1 as =>
        cases e1 <;> try exact (Bool.false_ne_true h).elim
        rename_i v1 k1 p1
        cases v1 <;> try exact (Bool.false_ne_true h).elim
        rename_i y'
        cases as with
        | nil => exact (Bool.false_ne_true h).elim
        | cons e2 as =>
          cases e2 <;> try exact (Bool.false_ne_true h).elim
          rename_i v2 k2 p2
          cases v2 <;> try exact (Bool.false_ne_true h).elim
          rename_i z'
          cases as with
          | cons _ _ => exact (Bool.false_ne_true h).elim
          | nil =>
            cases ks with
            | cons _ _ => exact (Bool.false_ne_true h).elim
            | nil =>
              obtain ⟨h1, h7⟩ := and2 (show (T.rp && name == "replace" && y == y' && z == z' && !(y' == z') && plainBase x && ap.endLine == cp.line && chkE T N sc fb o x) = true from h)
              obtain ⟨h1, h6⟩ := and2 h1
              obtain ⟨h1, h5⟩ := and2 h1
              obtain ⟨h1, h4⟩ := and2 h1
              obtain ⟨h1, h3⟩ := and2 h1
              obtain ⟨h1, h2⟩ := and2 h1
              obtain ⟨h0, h1⟩ := and2 h1
              obtain rfl := eq_of_beq h1
              obtain rfl := eq_of_beq h2
              obtain rfl := eq_of_beq h3
              exact pd_repl (c.tab.rp h0) (sndE o c x h7) (notF h4) (base_ok h5) h6
    | _ => exact (Bool.false_ne_true h).elim
  | .call k es, X, sc, fb, c, e, h => by
    cases e with
    | Call g as ks p =>
      cases g <;> try exact (Bool.false_ne_true h).elim
      rename_i x p'
      cases as with
      | nil => exact (Bool.false_ne_true h).elim
      | cons a as =>
        cases ks with
        | cons _ _ => exact (Bool.false_ne_true h).elim
        | nil =>
          obtain ⟨h1, h4⟩ := and2 (show ((match T.fns[k]? with | some p => p.cp.isEmpty && p.fr.isNone && p.name == x && p.np == (a :: as).length | none => false) && glB sc x && okName x && chkL T N sc fb es (a :: as)) = true from h)
          obtain ⟨h1, h3⟩ := and2 h1
          obtain ⟨h1, h2⟩ := and2 h1
          cases q : T.fns[k]? with
          | none => rw [q] at h1; exact (Bool.false_ne_true h1).elim
          | some p =>
            rw [q] at h1
            obtain ⟨h1, h5⟩ := and2 (show (p.cp.isEmpty && p.fr.isNone && p.name == x && p.np == (a :: as).length) = true from h1)
            obtain ⟨h0, h1⟩ := and2 h1
            obtain ⟨h0, h00⟩ := and2 h0
            obtain rfl := eq_of_beq h1
            obtain ⟨f, fd, ps, t1, t2, t3, t4, t5, _⟩ := c.tab.fn k p q (List.isEmpty_iff.mp h0) (Option.isNone_iff_eq_none.mp h00)
            obtain ⟨l1, l2⟩ := chkL_len (φ := φ) es _ h4
            obtain ⟨l3, l4⟩ := and2 l1
            refine pd_call t5 c.ck (c.gl h2) t2 t3 t4 (sndL es c _ h4) (fun ρ S ds S' w => ?_) (okName_1 h3).1 (starEach_cons l3) (star_any l4)
            rw [l2 ρ S ds S' w, t1]
            exact (eq_of_beq h5).symm
    | _ => exact (Bool.false_ne_true h).elim
  | .lc m tg it ifs elt own, X, sc, fb, c, e, h => by
    cases e with
    | ListComp e1 gs scope p =>
      cases gs with
      | nil => exact (Bool.false_ne_true h).elim
      | cons g gs =>
        cases gs with
        | cons _ _ => exact (chk_lc2 h).elim
        | nil =>
          obtain ⟨tg', it', ifs', z⟩ := g
          obtain ⟨ez, hh⟩ := chk_lc h
          subst ez
          obtain ⟨h, h8⟩ := and2 hh
          obtain ⟨h, h7⟩ := and2 h
          obtain ⟨h, h6⟩ := and2 h
          obtain ⟨h, h5⟩ := and2 h
          obtain ⟨h, h4⟩ := and2 h
          obtain ⟨h, h3⟩ := and2 h
          obtain ⟨h1, h2⟩ := and2 h
          have ok : BlkOk X.N X.env.scope scope (ownP N own) := by rw [c.hN, c.hs]; exact blkB_ok h3
          have key := pd_lc (m := m) (pos := p) c.ck.calm c.ck.nd (sndI it c tg' it' h1 (and2 h2).2) ok (fun s H C cl fp => chkG_ok (c.blk s H scope (blkB_probe h3) cl C fp) tg tg' h5)
            (by rw [ownP_snd]; exact Tg.wipe h4) (fun s H C cl fp => sndTs ifs (c.blk s H scope (blkB_probe h3) cl C fp) ifs' (of_decide_eq_true h6) h7) (fun s H C cl fp => sndE elt (c.blk s H scope (blkB_probe h3) cl C fp) e1 h8) (set_ok' (and2 h2).1)
          rw [ownP_snd] at key
          exact key
    | _ => exact (Bool.false_ne_true h).elim
  | .app i es, X, sc, fb, c, e, h => by
    cases e with
    | Call g as ks p =>
      cases g <;> try exact (Bool.false_ne_true h).elim
      rename_i x p'
      cases as with
      | nil => exact (Bool.false_ne_true h).elim
      | cons a as =>
        cases ks with
        | cons _ _ => exact (Bool.false_ne_true h).elim
        | nil =>
          obtain ⟨h1, h4⟩ := and2 (show (N[i]? == some x && visB sc x && okName x && chkL T N sc fb es (a :: as)) = true from h)
          obtain ⟨h1, h3⟩ := and2 h1
          obtain ⟨h1, h2⟩ := and2 h1
          obtain ⟨l1, _⟩ := chkL_len (φ := φ) es _ h4
          obtain ⟨l3, l4⟩ := and2 l1
          obtain ⟨cs, b, ap, _⟩ := c.tab.fc
          exact pd_app ap b c.ck (c.nm h1) (c.vis h2) (okName_1 h3).1 (okName_1 h3).2 (sndL es c _ h4) (starEach_cons l3) (star_any l4)
    | _ => exact (Bool.false_ne_true h).elim
  | .callc k axs, X, sc, fb, c, e, h => by
    cases e with
    | Call g as ks p =>
      cases g <;> try exact (Bool.false_ne_true h).elim
      rename_i x p'
      cases as with
      | nil => exact (Bool.false_ne_true h).elim
      | cons a as =>
        cases ks with
        | cons _ _ => exact (Bool.false_ne_true h).elim
        | nil =>
          obtain ⟨h1, h3⟩ := and2 (show ((match T.fns[k]? with | some p => p.fr.isNone && p.name == x && p.np == (a :: as).length && chkAx T N sc fb p.cp 0 axs (a :: as) | none => false) && glB sc x && okName x) = true from h)
          obtain ⟨h1, h2⟩ := and2 h1
          cases q : T.fns[k]? with
          | none => rw [q] at h1; exact (Bool.false_ne_true h1).elim
          | some p =>
            rw [q] at h1
            obtain ⟨h1, h6⟩ := and2 (show (p.fr.isNone && p.name == x && p.np == (a :: as).length && chkAx T N sc fb p.cp 0 axs (a :: as)) = true from h1)
            obtain ⟨h1, h5⟩ := and2 h1
            obtain ⟨h0, h1⟩ := and2 h1
            obtain rfl := eq_of_beq h1
            obtain ⟨cs, b, _, fc⟩ := c.tab.fc
            obtain ⟨τ', f, fd, ps, t0, t01, t1, t2, t3, t4, t5⟩ := fc k p q (Option.isNone_iff_eq_none.mp h0)
            obtain ⟨l1, l2⟩ := chkAx_len (φ := φ) axs _ _ h6
            obtain ⟨l3, l4⟩ := and2 l1
            refine pd_callc t01 t5 t0 b c.ck (c.gl h2) t2 t3 t4 ?_ (fun ρ S ds S' w => ?_) (okName_1 h3).1 (starEach_cons l3) (star_any l4)
            · exact sndAx axs c p.cp 0 _ h6
            · rw [l2 ρ S ds S' w, t1]
              exact (eq_of_beq h5).symm
    | _ => exact (Bool.false_ne_true h).elim
  | .callkw k es, X, sc, fb, c, e, h => by
    cases e with
    | Call g as ks p =>
      cases g <;> try exact (Bool.false_ne_true h).elim
      rename_i x p'
      cases as with
      | cons _ _ => exact (Bool.false_ne_true h).elim
      | nil =>
        obtain ⟨h1, h4⟩ := and2 (show ((match T.fns[k]? with | some p => p.cp.isEmpty && p.fr.isNone && p.name == x && (match p.kw with | some q => kwB q ks | none => false) | none => false) && glB sc x && okName x && chkK T N sc fb es ks) = true from h)
        obtain ⟨h1, h3⟩ := and2 h1
        obtain ⟨h1, h2⟩ := and2 h1
        cases q : T.fns[k]? with
        | none => rw [q] at h1; exact (Bool.false_ne_true h1).elim
        | some p =>
          rw [q] at h1
          obtain ⟨h1, h6⟩ := and2 (show (p.cp.isEmpty && p.fr.isNone && p.name == x && (match p.kw with | some q => kwB q ks | none => false)) = true from h1)
          obtain ⟨h1, h5⟩ := and2 h1
          obtain ⟨h0, h00⟩ := and2 h1
          obtain rfl := eq_of_beq h5
          cases qk : p.kw with
          | none => rw [qk] at h6; exact (Bool.false_ne_true h6).elim
          | some qs =>
            rw [qk] at h6
            obtain ⟨f, fd, ps, t1, t2, t3, t4, t5, t6, _⟩ := c.tab.fn k p q (List.isEmpty_iff.mp h0) (Option.isNone_iff_eq_none.mp h00)
            obtain ⟨rfl, t7⟩ := t6 qs qk
            exact pd_callkw t5 c.ck (c.gl h2) t2 t3 t7 (sndK es c ks h4) (fun ρ S ds S' w => by rw [chkK_len es ks h4 ρ S ds S' w]; exact (kwB_len h6).symm) (okName_1 h3).1 h6
    | _ => exact (Bool.false_ne_true h).elim
  | .dicE kys es, X, sc, fb, c, e, h => by
    cases e with
    | Dict ks vs p =>
      obtain ⟨h1, h3⟩ := and2 (show (chkP T N sc fb kys es ks vs && !kys.isEmpty && decide (kys.length ≤ 15)) = true from h)
      obtain ⟨h1, h2⟩ := and2 h1
      obtain ⟨l1, l2, l3⟩ := chkP_len kys es ks vs h1
      exact pd_dicE (sndP kys es c ks vs h1) l1 (l2.trans l3.symm) (fun z => by subst z; cases kys with | nil => exact Bool.false_ne_true h2 | cons _ _ => cases l2) (by rw [l2]; exact of_decide_eq_true h3)
    | _ => exact (Bool.false_ne_true h).elim
theorem sndAx : ∀ (ir : Axs) {X : Cx} {sc : Scope} {fb : Str → Bool}, Ctx τ X n T φ N sc fb → ∀ (cps : List Nat) (j : Nat) (e : List Expr), chkAx T N sc fb cps j ir e = true → PDA τ X cps j e (evAx φ ir)
  | .nil, X, sc, fb, c, cps, j, e, h => by
    cases e with
    | nil => exact pda_nil
    | cons _ _ => exact (Bool.false_ne_true h).elim
  | .d a r, X, sc, fb, c, cps, j, e, h => by
    cases e with
    | nil => exact (Bool.false_ne_true h).elim
    | cons x xs =>
      obtain ⟨h1, h3⟩ := and2 (show (noStar x && chkE T N sc fb a x && chkAx T N sc fb cps (j + 1) r xs) = true from h)
      obtain ⟨h1, h2⟩ := and2 h1
      exact pda_d (sndE a c x h2) (sndAx r c cps (j + 1) xs h3) (starEach_cons h1)
  | .par i r, X, sc, fb, c, cps, j, e, h => by
    cases e with
    | nil => exact (Bool.false_ne_true h).elim
    | cons x xs =>
      cases x <;> try exact (Bool.false_ne_true h).elim
      rename_i x p
      obtain ⟨h, h5⟩ := and2 (show (cps.contains j && N[i]? == some x && visB sc x && okName x && chkAx T N sc fb cps (j + 1) r xs) = true from h)
      obtain ⟨h, h4⟩ := and2 h
      obtain ⟨h, h3⟩ := and2 h
      obtain ⟨h1, h2⟩ := and2 h
      exact pda_c (List.contains_iff_mem.mp h1) (pdc_par (c.nm h2) (c.vis h3) (okName_1 h4).1 (okName_1 h4).2) (sndAx r c cps (j + 1) xs h5) rfl
  | .glb k r, X, sc, fb, c, cps, j, e, h => by
    cases e with
    | nil => exact (Bool.false_ne_true h).elim
    | cons x xs =>
      cases x <;> try exact (Bool.false_ne_true h).elim
      rename_i x p
      obtain ⟨h, h5⟩ := and2 (show (cps.contains j && (match T.fns[k]? with | some p => p.cp.isEmpty && p.fr.isNone && p.name == x | none => false) && glB sc x && okName x && chkAx T N sc fb cps (j + 1) r xs) = true from h)
      obtain ⟨h, h4⟩ := and2 h
      obtain ⟨h, h3⟩ := and2 h
      obtain ⟨h1, h2⟩ := and2 h
      cases q : T.fns[k]? with
      | none => rw [q] at h2; exact (Bool.false_ne_true h2).elim
      | some p =>
        rw [q] at h2
        obtain ⟨h2, h7⟩ := and2 (show (p.cp.isEmpty && p.fr.isNone && p.name == x) = true from h2)
        obtain ⟨h0, h00⟩ := and2 h2
        obtain rfl := eq_of_beq h7
        obtain ⟨f, fd, ps, t1, t2, t3, t4, t5, t6, t7⟩ := c.tab.fn k p q (List.isEmpty_iff.mp h0) (Option.isNone_iff_eq_none.mp h00)
        exact pda_c (List.contains_iff_mem.mp h1) (pdc_glb (c.gl h3) t2 t7 (okName_1 h4).1) (sndAx r c cps (j + 1) xs h5) rfl
  | .lam k js r, X, sc, fb, c, cps, j, e, h => by
    cases e with
    | nil => exact (Bool.false_ne_true h).elim
    | cons x xs =>
      cases x <;> try exact (Bool.false_ne_true h).elim
      rename_i params body scope p
      obtain ⟨h, h9⟩ := and2 (show (cps.contains j && fb probe && T.mkn == some (Str.ofString "<lambda>") && params.defaults.isEmpty && params.kw_defaults.isEmpty && freeB sc scope && T.lam k params (.ex body) scope &&
      (match T.fns[k]? with | some p => (match p.fr with | some fr => fr.all (fun y => decide ((y, NameKind.free) ∈ scope.names)) && js.map (fun j => N[j]?) == fr.map some && js.all (fun j => !(T.cp.contains j)) | none => false) | none => false) && chkAx T N sc fb cps (j + 1) r xs) = true from h)
      obtain ⟨h, h8⟩ := and2 h
      obtain ⟨h, h7⟩ := and2 h
      obtain ⟨h, h6⟩ := and2 h
      obtain ⟨h, h5⟩ := and2 h
      obtain ⟨h, h4⟩ := and2 h
      obtain ⟨h, h3⟩ := and2 h
      obtain ⟨h1, h2⟩ := and2 h
      cases q : T.fns[k]? with
      | none => rw [q] at h8; exact (Bool.false_ne_true h8).elim
      | some p =>
        rw [q] at h8
        dsimp only at h8
        cases qf : p.fr with
        | none => rw [qf] at h8; exact (Bool.false_ne_true h8).elim
        | some fr =>
          rw [qf] at h8
          obtain ⟨h8, k3⟩ := and2 (show (fr.all (fun y => decide ((y, NameKind.free) ∈ scope.names)) && js.map (fun j => N[j]?) == fr.map some && js.all (fun j => !(T.cp.contains j))) = true from h8)
          obtain ⟨k1, k2⟩ := and2 h8
          exact pda_c (List.contains_iff_mem.mp h1) (pdc_lam (c.mkn _ (eq_of_beq h3)) (List.isEmpty_iff.mp h4) (List.isEmpty_iff.mp h5) (c.tp h2).1 (c.free h6) (fun y hy => of_decide_eq_true (List.all_eq_true.mp k1 y hy)) (by rw [c.hN]; exact eq_of_beq k2) (fun j hj => c.ncp (List.all_eq_true.mp k3 j hj))
            (fun c' => c.tab.lam k params (.ex body) scope h7 p fr q qf _ _ _ c')) (sndAx r c cps (j + 1) xs h9) rfl
  | .own i k js r, X, sc, fb, c, cps, j, e, h => by
    cases e with
    | nil => exact (Bool.false_ne_true h).elim
    | cons x xs =>
      cases x <;> try exact (Bool.false_ne_true h).elim
      rename_i x p
      obtain ⟨h, h7⟩ := and2 (show (cps.contains j && fb probe && N[i]? == some x && visB sc x && okName x &&
      (match T.fns[k]? with | some p => (match p.fr with | some fr => fr.all (fun y => sc.names.lookup y == some .cell || sc.names.lookup y == some .free) && js.map (fun j => N[j]?) == fr.map some && js.all (fun j => !(T.cp.contains j)) | none => false) | none => false) && chkAx T N sc fb cps (j + 1) r xs) = true from h)
      obtain ⟨h, h6⟩ := and2 h
      obtain ⟨h, h5⟩ := and2 h
      obtain ⟨h, h4⟩ := and2 h
      obtain ⟨h, h3⟩ := and2 h
      obtain ⟨h1, h2⟩ := and2 h
      cases q : T.fns[k]? with
      | none => rw [q] at h6; exact (Bool.false_ne_true h6).elim
      | some p =>
        rw [q] at h6
        dsimp only at h6
        cases qf : p.fr with
        | none => rw [qf] at h6; exact (Bool.false_ne_true h6).elim
        | some fr =>
          rw [qf] at h6
          obtain ⟨h6, k3⟩ := and2 (show (fr.all (fun y => sc.names.lookup y == some .cell || sc.names.lookup y == some .free) && js.map (fun j => N[j]?) == fr.map some && js.all (fun j => !(T.cp.contains j))) = true from h6)
          obtain ⟨k1, k2⟩ := and2 h6
          have same : ∀ F fr', τ.txt k F fr' → fr' = fr := fun F fr' t => by
            obtain ⟨⟨p', e1, e2⟩, _⟩ := c.tab.txt k F fr' t
            rw [q] at e1
            cases e1
            rw [qf] at e2
            exact (Option.some.inj e2).symm
          refine pda_c (List.contains_iff_mem.mp h1) (pdc_own (fr := fr) (c.nm h3) (c.vis h4) (okName_1 h5).1 (okName_1 h5).2 (c.tp h2).1 (c.tp h2).2 (fun F fr' t => ⟨same F fr' t, ?_⟩) (fun F fr' t y hy e => ?_) (fun y hy => ?_) (by rw [c.hN]; exact eq_of_beq k2) (fun j hj => c.ncp (List.all_eq_true.mp k3 j hj))) (sndAx r c cps (j + 1) xs h7) rfl
          · rw [← same F fr' t]
            exact (c.tab.txt k F fr' t).2.1
          · rw [← same F fr' t]
            exact (c.tab.txt k F fr' t).2.2 y hy e
          · have := List.all_eq_true.mp k1 y hy
            rw [Bool.or_eq_true] at this
            rw [c.hs]
            exact this.imp eq_of_beq eq_of_beq
theorem sndK : ∀ (ir : Exs) {X : Cx} {sc : Scope} {fb : Str → Bool}, Ctx τ X n T φ N sc fb → ∀ (e : List Keyword), chkK T N sc fb ir e = true → PDK τ X e (evL φ ir)
  | .nil, X, sc, fb, c, e, h => by
    cases e with
    | nil => exact pdk_nil
    | cons _ _ => exact (Bool.false_ne_true h).elim
  | .cons a r, X, sc, fb, c, e, h => by
    cases e with
    | nil => exact (Bool.false_ne_true h).elim
    | cons x xs =>
      obtain ⟨nm, x, kp⟩ := x
      obtain ⟨h1, h2⟩ := and2 (show (chkE T N sc fb a x && chkK T N sc fb r xs) = true from h)
      exact pdk_cons (sndE a c x h1) (sndK r c xs h2)
theorem sndP : ∀ (kys : List Key) (ir : Exs) {X : Cx} {sc : Scope} {fb : Str → Bool}, Ctx τ X n T φ N sc fb → ∀ (ks : List (Option Expr)) (vs : List Expr), chkP T N sc fb kys ir ks vs = true → PDP τ X kys ks vs (evL φ ir)
  | [], .nil, X, sc, fb, c, ks, vs, h => by
    cases ks with
    | nil =>
      cases vs with
      | nil => exact pdp_nil
      | cons _ _ => exact (Bool.false_ne_true h).elim
    | cons _ _ => cases vs <;> exact (Bool.false_ne_true h).elim
  | k :: kys, .cons a r, X, sc, fb, c, ks, vs, h => by
    cases ks with
    | nil => cases vs <;> exact (Bool.false_ne_true h).elim
    | cons ke ks =>
      cases ke with
      | none => cases vs <;> exact (Bool.false_ne_true h).elim
      | some ke =>
        cases vs with
        | nil => exact (Bool.false_ne_true h).elim
        | cons v vs =>
          obtain ⟨h1, h3⟩ := and2 (show (chkC k ke && chkE T N sc fb a v && chkP T N sc fb kys r ks vs) = true from h)
          obtain ⟨h1, h2⟩ := and2 h1
          exact pdp_cons h1 (sndE a c v h2) (sndP kys r c ks vs h3)
  | [], .cons _ _, X, sc, fb, c, ks, vs, h => by cases ks <;> cases vs <;> exact (Bool.false_ne_true h).elim
  | _ :: _, .nil, X, sc, fb, c, ks, vs, h => by
    cases ks with
    | nil => cases vs <;> exact (Bool.false_ne_true h).elim
    | cons ke ks => cases ke <;> cases vs <;> exact (Bool.false_ne_true h).elim
theorem sndO : ∀ (ir : Ox) {X : Cx} {sc : Scope} {fb : Str → Bool}, Ctx τ X n T φ N sc fb → ∀ (e : Option Expr), chkO T N sc fb ir e = true → POD τ X e (evO φ ir)
  | .non, X, sc, fb, c, e, h => by
    cases e with
    | none => exact pod_none
    | some _ => exact (Bool.false_ne_true h).elim
  | .som a, X, sc, fb, c, e, h => by
    cases e with
    | none => exact (Bool.false_ne_true h).elim
    | some x => exact pod_some (sndE a c x h)
theorem sndL : ∀ (ir : Exs) {X : Cx} {sc : Scope} {fb : Str → Bool}, Ctx τ X n T φ N sc fb → ∀ (e : List Expr), chkL T N sc fb ir e = true → PDL τ X e (evL φ ir)
  | .nil, X, sc, fb, c, e, h => by
    cases e with
    | nil => exact pdl_nil
    | cons _ _ => exact (Bool.false_ne_true h).elim
  | .cons a r, X, sc, fb, c, e, h => by
    cases e with
    | nil => exact (Bool.false_ne_true h).elim
    | cons x xs =>
      obtain ⟨h1, h3⟩ := and2 (show (noStar x && chkE T N sc fb a x && chkL T N sc fb r xs) = true from h)
      obtain ⟨h1, h2⟩ := and2 h1
      exact pdl_cons (sndE a c x h2) (sndL r c xs h3) (starEach_cons h1)
theorem sndT : ∀ (ir : Tx) {X : Cx} {sc : Scope} {fb : Str → Bool}, Ctx τ X n T φ N sc fb → ∀ (e : Expr), chkT T N sc fb ir e = true → PDB τ X e (evT φ ir)
  | .cmp o a b, X, sc, fb, c, e, h => by
    cases e with
    | Compare l ops rs p =>
      cases ops with
      | nil => exact (Bool.false_ne_true h).elim
      | cons op ops =>
        cases ops with
        | cons _ _ => cases rs with | nil => exact (Bool.false_ne_true h).elim | cons _ rs => cases rs <;> exact (Bool.false_ne_true h).elim
        | nil =>
          cases rs with
          | nil => exact (Bool.false_ne_true h).elim
          | cons r rs =>
            cases rs with
            | cons _ _ => exact (Bool.false_ne_true h).elim
            | nil =>
              obtain ⟨h1, h4⟩ := and2 (show (op == o.op && !(behindInMarks op r) && chkE T N sc fb a l && chkE T N sc fb b r) = true from h)
              obtain ⟨h1, h3⟩ := and2 h1
              obtain ⟨h1, h2⟩ := and2 h1
              obtain rfl := eq_of_beq h1
              exact pdb_cmp (o.ok c.ck) (sndE a c l h3) (sndE b c r h4) (notF h2)
    | _ => exact (Bool.false_ne_true h).elim
  | .chn o q a b d, X, sc, fb, c, e, h => by
    cases e with
    | Compare l ops rs p =>
      cases ops with
      | nil => exact (Bool.false_ne_true h).elim
      | cons op ops =>
        cases ops with
        | nil => cases rs with | nil => exact (Bool.false_ne_true h).elim | cons _ rs => cases rs <;> exact (Bool.false_ne_true h).elim
        | cons op' ops =>
          cases ops with
          | cons _ _ => cases rs with | nil => exact (Bool.false_ne_true h).elim | cons _ rs => cases rs with | nil => exact (Bool.false_ne_true h).elim | cons _ rs => cases rs <;> exact (Bool.false_ne_true h).elim
          | nil =>
            cases rs with
            | nil => exact (Bool.false_ne_true h).elim
            | cons r rs =>
              cases rs with
              | nil => exact (Bool.false_ne_true h).elim
              | cons r' rs =>
                cases rs with
                | cons _ _ => exact (Bool.false_ne_true h).elim
                | nil =>
                  obtain ⟨h1, h6⟩ := and2 (show (op == o.op && op' == q.op && !(lastMarks [op, op'] [r, r']) && chkE T N sc fb a l && chkE T N sc fb b r && chkE T N sc fb d r') = true from h)
                  obtain ⟨h1, h5⟩ := and2 h1
                  obtain ⟨h1, h4⟩ := and2 h1
                  obtain ⟨h1, h3⟩ := and2 h1
                  obtain ⟨h1, h2⟩ := and2 h1
                  obtain rfl := eq_of_beq h1
                  obtain rfl := eq_of_beq h2
                  exact pdb_chain (o.ok c.ck) (q.ok c.ck) (sndE a c l h4) (sndE b c r h5) (sndE d c r' h6) (notF h3)
    | _ => exact (Bool.false_ne_true h).elim
  | .not t, X, sc, fb, c, e, h => by
    cases e with
    | UnaryOp op e' p =>
      cases op <;> first | exact (Bool.false_ne_true h).elim | exact pdb_not (sndT t c e' h)
    | _ => exact (Bool.false_ne_true h).elim
  | .and ts, X, sc, fb, c, e, h => by
    cases e with
    | BoolOp op es p => cases op <;> first | exact (Bool.false_ne_true h).elim | exact (sndA ts c es h).pdb
    | _ => exact (Bool.false_ne_true h).elim
  | .or ts, X, sc, fb, c, e, h => by
    cases e with
    | BoolOp op es p => cases op <;> first | exact (Bool.false_ne_true h).elim | exact (sndR ts c es h).pdb
    | _ => exact (Bool.false_ne_true h).elim
  | .gin neg k kds a, X, sc, fb, c, e, h => by
    cases e with
    | Compare l ops rs p =>
      cases ops with
      | nil => exact (Bool.false_ne_true h).elim
      | cons op ops =>
        cases ops with
        | cons _ _ => cases rs with | nil => exact (Bool.false_ne_true h).elim | cons r rs => cases r <;> first | exact (Bool.false_ne_true h).elim | (cases rs <;> exact (Bool.false_ne_true h).elim)
        | nil =>
          cases rs with
          | nil => exact (Bool.false_ne_true h).elim
          | cons r rs =>
            cases r <;> try exact (Bool.false_ne_true h).elim
            rename_i x p'
            cases rs with
            | cons _ _ => exact (Bool.false_ne_true h).elim
            | nil =>
              obtain ⟨h, h5⟩ := and2 (show (op == inOp neg && (match T.gds[k]? with | some p => p.1 == x && sameK p.2 kds | none => false) && glB sc x && okName x && chkE T N sc fb a l) = true from h)
              obtain ⟨h, h4⟩ := and2 h
              obtain ⟨h, h3⟩ := and2 h
              obtain ⟨h1, h2⟩ := and2 h
              obtain rfl := eq_of_beq h1
              exact pdb_gin (gd_ok c.tab h2) (c.gl h3) (okName_1 h4).1 (sndE a c l h5) (by cases neg <;> rfl)
    | _ => exact (Bool.false_ne_true h).elim
  | .val a, X, sc, fb, c, e, h => by
    have h : (plainTest e && chkE T N sc fb a e) = true := by
      cases e <;> exact h
    obtain ⟨h1, h2⟩ := and2 h
    exact pdb_val (sndE a c e h2) (pt_ok h1)
theorem sndA : ∀ (ir : Txs) {X : Cx} {sc : Scope} {fb : Str → Bool}, Ctx τ X n T φ N sc fb → ∀ (e : List Expr) {pos : Pos}, chkTs T N sc fb ir e = true → PDW τ X (.BoolOp .And e pos) (evA φ ir)
  | .nil, X, sc, fb, c, e, pos, h => by
    cases e with
    | nil => exact pdw_and_nil
    | cons _ _ => exact (Bool.false_ne_true h).elim
  | .cons t r, X, sc, fb, c, e, pos, h => by
    cases e with
    | nil => exact (Bool.false_ne_true h).elim
    | cons x xs =>
      obtain ⟨h1, h2⟩ := and2 (show (chkT T N sc fb t x && chkTs T N sc fb r xs) = true from h)
      exact pdw_and (sndT t c x h1) (sndA r c xs h2)
theorem sndR : ∀ (ir : Txs) {X : Cx} {sc : Scope} {fb : Str → Bool}, Ctx τ X n T φ N sc fb → ∀ (e : List Expr) {pos : Pos}, chkTs T N sc fb ir e = true → PDW τ X (.BoolOp .Or e pos) (evOr φ ir)
  | .nil, X, sc, fb, c, e, pos, h => by
    cases e with
    | nil => exact pdw_or_nil
    | cons _ _ => exact (Bool.false_ne_true h).elim
  | .cons t r, X, sc, fb, c, e, pos, h => by
    cases e with
    | nil => exact (Bool.false_ne_true h).elim
    | cons x xs =>
      obtain ⟨h1, h2⟩ := and2 (show (chkT T N sc fb t x && chkTs T N sc fb r xs) = true from h)
      exact pdw_or (sndT t c x h1) (sndR r c xs h2)
theorem sndTs : ∀ (ir : Txs) {X : Cx} {sc : Scope} {fb : Str → Bool}, Ctx τ X n T φ N sc fb → ∀ (e : List Expr), e.length ≤ 1 → chkTs T N sc fb ir e = true → PTD τ X e (evA φ ir)
  | .nil, X, sc, fb, c, e, hl, h => by
    cases e with
    | nil => exact ptd_nil
    | cons _ _ => exact (Bool.false_ne_true h).elim
  | .cons t r, X, sc, fb, c, e, hl, h => by
    cases e with
    | nil => exact (Bool.false_ne_true h).elim
    | cons x xs =>
      cases xs with
      | cons _ _ => exact absurd hl (by simp)
      | nil =>
        obtain ⟨h1, h2⟩ := and2 (show (chkT T N sc fb t x && chkTs T N sc fb r []) = true from h)
        cases r with
        | cons _ _ => exact (Bool.false_ne_true h2).elim
        | nil =>
          have e : evA φ (.cons t .nil) = evT φ t := by
            funext ρ
            exact one_and
          rw [e]
          exact ptd_one (sndT t c x h1)
theorem sndI : ∀ (ir : Ix) {X : Cx} {sc : Scope} {fb : Str → Bool}, Ctx τ X n T φ N sc fb → ∀ (tg e : Expr), chkI T N sc fb ir e = true → tupT ir tg = true → PID τ X tg e (evI φ ir)
  | .seq a, X, sc, fb, c, tg, e, h, _ => by
    have h : chkE T N sc fb a e = true := by cases e <;> exact h
    exact pid_seq (sndE a c e h)
  | .rng es, X, sc, fb, c, tg, e, h, _ => by
    cases e with
    | Call g as ks p =>
      cases g <;> try exact (Bool.false_ne_true h).elim
      rename_i x p'
      cases as with
      | nil => exact (Bool.false_ne_true h).elim
      | cons a as =>
        cases ks with
        | cons _ _ => exact (Bool.false_ne_true h).elim
        | nil =>
          obtain ⟨h1, h3⟩ := and2 (show (x == "range" && bltB sc x && chkL T N sc fb es (a :: as)) = true from h)
          obtain ⟨h1, h2⟩ := and2 h1
          obtain rfl := eq_of_beq h1
          obtain ⟨l1, l2⟩ := chkL_len (φ := φ) es _ h3
          obtain ⟨l3, l4⟩ := and2 l1
          exact pid_range (c.blt h2).1 (c.blt h2).2 (sndL es c _ h3) (starEach_cons l3) (star_any l4)
    | _ => exact (Bool.false_ne_true h).elim
  | .enu es, X, sc, fb, c, tg, e, h, ht => by
    cases tg <;> try exact (Bool.false_ne_true ht).elim
    cases e with
    | Call g as ks p =>
      cases g <;> try exact (Bool.false_ne_true h).elim
      rename_i x p'
      cases as with
      | nil => exact (Bool.false_ne_true h).elim
      | cons a as =>
        cases as with
        | cons _ _ => exact (Bool.false_ne_true h).elim
        | nil =>
          cases ks with
          | cons _ _ => exact (Bool.false_ne_true h).elim
          | nil =>
            obtain ⟨h1, h3⟩ := and2 (show (x == "enumerate" && bltB sc x && chkL T N sc fb es [a]) = true from h)
            obtain ⟨h1, h2⟩ := and2 h1
            obtain rfl := eq_of_beq h1
            obtain ⟨l1, l2⟩ := chkL_len (φ := φ) es _ h3
            obtain ⟨l3, l4⟩ := and2 l1
            exact pid_enum (c.blt h2).1 (c.blt h2).2 (sndL es c _ h3) (starEach_cons l3)
    | _ => exact (Bool.false_ne_true h).elim
end
end MP

/-! MP21: the small language: statements, functions. -/
namespace MP
open PySem L2
mutual
inductive Sx where
  | pass | brk | cont
  /-- what no way reaches -/
  | dead
  | ret (e : Ex)
  | set (i : Nat) (e : Ex)
  | par (is : List Nat) (e : Ex)
  | asg (tg : Tg) (e : Ex)
  | put (o i e : Ex)
  | exp (e : Ex)
  | ite (t : Tx) (a b : Sxs)
  | forr (tg : Tg) (it : Ix) (b : Sxs)
  /-- while, so many turns at most -/
  | whl (n : Nat) (t : Tx) (b : Sxs)
  | aug (i : Nat) (e : Ex)
  | dfn (i k : Nat)
inductive Sxs where
  | nil
  | cons (s : Sx) (r : Sxs)
end
section
variable (φ : Nat → List D → M D)
mutual
def evS : Sx → Env → M Fl
  | .pass, ρ => pure (.next ρ)
  | .brk, ρ => pure (.brk ρ)
  | .cont, ρ => pure (.cont ρ)
  | .dead, _ => M.fail
  | .ret e, ρ => evE φ e ρ >>= fun d => pure (.ret d)
  | .set i e, ρ => evE φ e ρ >>= fun d => pure (.next (ρ.set i (some d)))
  | .par is e, ρ => evE φ e ρ >>= fun d => unpackD is.length none d >>= fun ds => pure (.next (setsL is.reverse ds.reverse ρ))
  | .asg tg e, ρ => evE φ e ρ >>= fun d => tg.ev d ρ >>= fun ρ' => pure (.next ρ')
  | .put o i e, ρ => evE φ e ρ >>= fun d => evE φ o ρ >>= fun od => evE φ i ρ >>= fun id => setD od id d >>= fun _ => pure (.next ρ)
  | .exp e, ρ => evE φ e ρ >>= fun _ => pure (.next ρ)
  | .ite t a b, ρ => evT φ t ρ >>= fun c => if c = true then evSs a ρ else evSs b ρ
  | .forr tg it b, ρ => evI φ it ρ >>= forF tg.ev (evSs b) ρ
  | .whl n t b, ρ => whlF (evT φ t) (evSs b) n ρ
  | .aug i e, ρ => getV ρ i >>= fun d => evE φ e ρ >>= fun b => augI d b >>= fun r => pure (.next (ρ.set i (some r)))
  | .dfn i k, ρ => pure (.next (ρ.set i (some (.own k))))
def evSs : Sxs → Env → M Fl
  | .nil, ρ => pure (.next ρ)
  | .cons s r, ρ => evS s ρ >>= thenF (evSs r)
end
end
def noComp : Expr → Bool
  | .ListComp .. => false
  | .SetComp .. => false
  | .DictComp .. => false
  | _ => true
def noTup : Expr → Bool
  | .Tuple .. => false
  | _ => true
def parB (sc : Scope) (ts vs : List Expr) (names : List Str) : Bool :=
  (ts.length == 2 || ts.length == 3) && vs.length == ts.length && sc.kind == .function && vs.all noStar &&
  (ts.filterMap fun
    | .Name id pos => if sc.names.lookup id == some .local && pos.line == (ts.head?.map (·.pos.line)).getD 0 then some id else none
    | _ => none) == names && names.length == ts.length && names.eraseDups.length == names.length && !(vs.all (foldedForSure 8)) && !(vs.all (constantsAlone 8))
def slotsB (N : List Str) (sc : Scope) : List Str → List Nat → Bool
  | [], [] => true
  | x :: xs, i :: is => (N[i]? == some x && sc.names.lookup x == some .local) && slotsB N sc xs is
  | _, _ => false
def setB (sc : Scope) (y : Str) (py : Pos) : Expr → Bool
  | .ListComp _ _ scope pos => sc.names.lookup y == some .cell || (sc.kind == .function && sc.names.lookup y == some .local && py.line == pos.line && !(scope.names.any fun (n, k) => n == y && (k == .local || k == .cell)))
  | v => noComp v
def argsA (p : Arguments) : Bool := match p with
  | ⟨[], as, none, [], [], none, []⟩ => as.all (·.annotation.isNone)
  | _ => false
section
variable (T : Tab) (N : List Str) (fb : Str → Bool)
mutual
def chkS (sc : Scope) : Sx → Stmt → Bool
  | .pass, .Pass _ => true
  | .brk, .Break _ => true
  | .cont, .Continue _ => true
  | .dead, _ => true
  | .ret e, .Return (some x) _ => chkE T N sc fb e x
  | .set i e, .Assign [.Name y py] v _ => okNm N sc fb i y && chkE T N sc fb e v &&
      setB sc y py v
  | .par is e, .Assign [.Tuple ts _ _] (.Tuple vs k p) _ => (match is.mapM (fun i => N[i]?) with | some names => parB sc ts vs names && slotsB N sc names.reverse is.reverse | none => false) && chkE T N sc fb e (.Tuple vs k p)
  | .asg tg e, .Assign [.Tuple ts k p] v _ => chkG N sc fb tg (.Tuple ts k p) && noTup v && chkE T N sc fb e v
  | .put o i e, .Assign [.Subscript x y _] v _ => plainIx y && noComp v && chkE T N sc fb e v && chkE T N sc fb o x && chkE T N sc fb i y
  | .exp e, .Expr v _ => noComp v && chkE T N sc fb e v
  | .ite t a b, .If c x y _ => chkT T N sc fb t c && chkSs sc a x && chkSs sc b y
  | .forr tg it b, .For tg' it' x [] _ => chkI T N sc fb it it' && (noSet it' && tupT it tg') && chkG N sc fb tg tg' && chkSs sc b x
  | .whl _ t b, .While x y [] _ => chkT T N sc fb t x && chkSs sc b y
  | .aug i e, .AugAssign (.Name x _) .Add v _ => !(T.cp.contains i) && okNm N sc fb i x && chkE T N sc fb e v
  | .dfn i k, .FunctionDef name params body [] none [] scope none nm2 _ => name == nm2 && okNm N sc fb i name && T.cp.contains i && fb probe && T.mkn == some name && argsA params && freeB sc scope && T.lam k params (.st body) scope &&
      (match T.fns[k]? with | some p => p.fr.isSome | none => false)
  | _, _ => false
def chkSs (sc : Scope) : Sxs → List Stmt → Bool
  | .nil, [] => true
  | .cons s r, x :: xs => chkS sc s x && chkSs sc r xs
  | _, _ => false
end
end
theorem argsA_ok {p : Arguments} {env : PySem.Env} (h : argsA p = true) : p.defaults = [] ∧ p.kw_defaults = [] ∧ PySem.annTrees p none env = [] := by
  obtain ⟨po, args, va, ko, kd, ka, df⟩ := p
  have hargs : po = [] ∧ va = none ∧ ko = [] ∧ kd = [] ∧ ka = none ∧ df = [] := by
    cases po <;> cases va <;> cases ko <;> cases kd <;> cases ka <;> cases df <;> first | exact ⟨rfl, rfl, rfl, rfl, rfl, rfl⟩ | exact (Bool.false_ne_true h).elim
  obtain ⟨rfl, rfl, rfl, rfl, rfl, rfl⟩ := hargs
  refine ⟨rfl, rfl, ?_⟩
  have h : args.all (·.annotation.isNone) = true := h
  show PySem.annotationsOf (args ++ [] ++ [] ++ [] ++ []) env ++ [] = []
  simp only [List.append_nil]
  induction args with
  | nil => rfl
  | cons a as ih =>
    obtain ⟨h1, h2⟩ := and2 (show (a.annotation.isNone && as.all (·.annotation.isNone)) = true from h)
    obtain ⟨x, an, p⟩ := a
    cases an with
    | some _ => exact (Bool.false_ne_true h1).elim
    | none => exact ih h2 h2
theorem noComp_ok {e : Expr} {t : Option Expr} {l : Nat} {env : PySem.Env} (h : noComp e = true) : swapsWith e t l env = pure false := by
  cases e <;> first | rfl | exact (Bool.false_ne_true h).elim
theorem noTup_ok {tg e : Expr} {env : PySem.Env} (h : noTup e = true) : swappedStores [tg] e env = pure none := by
  cases e <;> first
    | exact (Bool.false_ne_true h).elim
    | (unfold swappedStores; cases tg <;> rfl)
theorem sub_none {o i e : Expr} {p : Pos} {env : PySem.Env} : swappedStores [.Subscript o i p] e env = pure none := by
  cases e <;> rfl
theorem sole_tup {ts : List Expr} {k : Nat} {p : Pos} {e : Expr} {l : Nat} {env : PySem.Env} : swapsWithSole [.Tuple ts k p] e l env = pure false := by
  cases e <;> rfl
theorem starB : ∀ (vs : List Expr), vs.all noStar = true → (vs.any fun | .Starred .. => true | _ => false) = false
  | [], _ => rfl
  | v :: vs, h => by
    obtain ⟨a, b⟩ := and2 (show (noStar v && vs.all noStar) = true from h)
    rw [List.any_cons, starB vs b]
    cases v <;> first | rfl | exact (Bool.false_ne_true a).elim
theorem parFin (L names : List Str) (ts : List Expr) (h : L = names) (h6 : names.length = ts.length) (h7 : names.eraseDups.length = names.length) :
    (if (L.length != ts.length || L.eraseDups.length != L.length) = true then (pure none : Sem (Option (List Str))) else if false = true then pure none else if false = true then (do unsupported "assign.tuple-of-constant-expressions:order-of-the-stores"; pure (some L)) else pure (some L)) = pure (some names) := by
  subst h
  simp [h6, h7]
theorem parB_ok {sc : Scope} {ts vs : List Expr} {names : List Str} {env : PySem.Env} {kt k : Nat} {pt p : Pos} (hs : env.scope = sc) (h : parB sc ts vs names = true) : swappedStores [.Tuple ts kt pt] (.Tuple vs k p) env = pure (some names) := by
  unfold parB at h
  obtain ⟨h, h9⟩ := and2 h
  obtain ⟨h, h8⟩ := and2 h
  obtain ⟨h, h7⟩ := and2 h
  obtain ⟨h, h6⟩ := and2 h
  obtain ⟨h, h5⟩ := and2 h
  obtain ⟨h, h4⟩ := and2 h
  obtain ⟨h, h3⟩ := and2 h
  obtain ⟨h1, h2⟩ := and2 h
  have hb : env.blockKind = .function := by unfold Env.blockKind; rw [hs, eq_of_beq h3]; rfl
  have hstar := starB vs h4
  have hn := eq_of_beq h5
  have e2 := eq_of_beq h2
  have e6 := eq_of_beq h6
  have e7 := eq_of_beq h7
  unfold swappedStores
  have hk : ∀ id, env.kindOf id = sc.names.lookup id := fun id => by rw [kind_eq, hs]
  simp only [hb, hk, e2, notF h8, notF h9, h1]
  rw [if_neg (by simp)]
  refine (if_neg ?hh).trans (parFin _ names ts hn e6 e7)
  intro z
  exact Bool.false_ne_true (hstar.symm.trans z)
section
variable {τ : Tau} {n : Nat} {T : Tab} {φ : Nat → List D → M D} {N : List Str} {X : Cx} {sc : Scope}
theorem slotsB_ok (hN : X.N = N) (hs : X.env.scope = sc) : ∀ (xs : List Str) (is : List Nat), slotsB N sc xs is = true → Slots X xs is
  | [], [], _ => trivial
  | x :: xs, i :: is, h => by
    obtain ⟨h1, h2⟩ := and2 (show ((N[i]? == some x && sc.names.lookup x == some .local) && slotsB N sc xs is) = true from h)
    obtain ⟨h1, h3⟩ := and2 h1
    exact ⟨⟨by rw [hN]; exact eq_of_beq h1, by rw [hs]; exact eq_of_beq h3⟩, slotsB_ok hN hs xs is h2⟩
  | [], _ :: _, h => (Bool.false_ne_true h).elim
  | _ :: _, [], h => (Bool.false_ne_true h).elim
theorem mapM_len : ∀ (is : List Nat) (names : List Str), is.mapM (fun i => N[i]?) = some names → names.length = is.length
  | [], names, h => by cases h; rfl
  | i :: is, names, h => by
    rw [List.mapM_cons] at h
    cases q1 : N[i]? with
    | none => rw [q1] at h; cases h
    | some x =>
      cases q2 : is.mapM (fun i => N[i]?) with
      | none => rw [q1, q2] at h; cases h
      | some xs =>
        rw [q1, q2] at h
        cases h
        rw [List.length_cons, List.length_cons, mapM_len is xs q2]
mutual
theorem sndS {fb : Str → Bool} (c : Ctx τ X n T φ N sc fb) : ∀ (ir : Sx) (s : Stmt), chkS T N fb sc ir s = true → PSD τ X s (evS φ ir)
  | .pass, s, h => by cases s <;> first | exact psd_pass | exact (Bool.false_ne_true h).elim
  | .brk, s, h => by cases s <;> first | exact psd_brk | exact (Bool.false_ne_true h).elim
  | .cont, s, h => by cases s <;> first | exact psd_cont | exact (Bool.false_ne_true h).elim
  | .dead, s, h => fun pins s σ H ρ η S I tk sr st => trivial
  | .ret e, s, h => by
    cases s <;> try exact (Bool.false_ne_true h).elim
    rename_i v p
    cases v with
    | none => exact (Bool.false_ne_true h).elim
    | some x => exact psd_ret (sndE e c x h)
  | .set i e, s, h => by
    cases s <;> try exact (Bool.false_ne_true h).elim
    rename_i ts v p
    cases ts with
    | nil => exact (Bool.false_ne_true h).elim
    | cons t ts =>
      cases t <;> try exact (Bool.false_ne_true h).elim
      rename_i y py
      cases ts with
      | cons _ _ => exact (Bool.false_ne_true h).elim
      | nil =>
        obtain ⟨h', h3⟩ := and2 (show (okNm N sc fb i y && chkE T N sc fb e v && setB sc y py v) = true from h)
        obtain ⟨h1, h2⟩ := and2 h'
        clear h'
        obtain ⟨n1, n2, n3⟩ := c.store h1
        have plain : swapsWith v (some (.Name y py)) p.line X.env = pure false → PSD τ X (.Assign [.Name y py] v p) (evS φ (.set i e)) := fun hs => psd_set c.ck.nd n1 n2 n3 (sndE e c v h2) hs
        by_cases hv : noComp v = true
        · exact plain (noComp_ok hv)
        · clear h
          cases v <;> try exact absurd rfl hv
          · rename_i e1 gs scope pos
            have h3 : (sc.names.lookup y == some .cell || (sc.kind == .function && sc.names.lookup y == some .local && py.line == pos.line && !(scope.names.any fun (n, k) => n == y && (k == .local || k == .cell)))) = true := h3
            rw [Bool.or_eq_true] at h3
            rcases h3 with h3 | h3
            · refine plain ?_
              unfold swapsWith
              have : X.env.kindOf y = some .cell := by rw [kind_eq, c.hs]; exact eq_of_beq h3
              simp [this]
              rw [show (NameKind.cell == NameKind.local) = false from rfl, Bool.and_false, Bool.false_and, Bool.false_and]
            · obtain ⟨h3, h7⟩ := and2 h3
              obtain ⟨h3, h6⟩ := and2 h3
              obtain ⟨h4, h5⟩ := and2 h3
              have hyl : X.env.scope.names.lookup y = some .local := by rw [c.hs]; exact eq_of_beq h5
              have hsw := sw_true (elt := e1) (gs := gs) (l := p.line) (by rw [c.hs]; exact eq_of_beq h4) hyl h6 (notF h7)
              cases e <;> try exact (Bool.false_ne_true h2).elim
              rename_i m tg it ifs elt own
              cases gs with
              | nil => exact (Bool.false_ne_true h2).elim
              | cons g gs =>
                cases gs with
                | cons _ _ => exact (chk_lc2 h2).elim
                | nil =>
                  obtain ⟨tg', it', ifs', z⟩ := g
                  obtain ⟨ez, hh⟩ := chk_lc h2
                  subst ez
                  obtain ⟨h, g8⟩ := and2 hh
                  obtain ⟨h, g7⟩ := and2 h
                  obtain ⟨h, g6⟩ := and2 h
                  obtain ⟨h, g5⟩ := and2 h
                  obtain ⟨h, g4⟩ := and2 h
                  obtain ⟨h, g3⟩ := and2 h
                  obtain ⟨g1, g2⟩ := and2 h
                  have ok : BlkOk X.N X.env.scope scope (ownP N own) := by rw [c.hN, c.hs]; exact blkB_ok g3
                  have key := psd_setLc (m := m) (i := i) (py := py) (pos := pos) (spos := p) c.ck.calm c.ck.nd n1 hyl hsw (sndI it c tg' it' g1 (and2 g2).2) ok (fun s H C cl fp => chkG_ok (c.blk s H scope (blkB_probe g3) cl C fp) tg tg' g5)
                    (by rw [ownP_snd]; exact Tg.wipe g4) (fun s H C cl fp => sndTs ifs (c.blk s H scope (blkB_probe g3) cl C fp) ifs' (of_decide_eq_true g6) g7) (fun s H C cl fp => sndE elt (c.blk s H scope (blkB_probe g3) cl C fp) e1 g8) (set_ok' (and2 g2).1)
                  rw [ownP_snd] at key
                  exact key
          · exact (Bool.false_ne_true h3).elim
          · exact (Bool.false_ne_true h3).elim
  | .par is e, s, h => by
    cases s <;> try exact (Bool.false_ne_true h).elim
    rename_i ts v p
    cases ts with
    | nil => exact (Bool.false_ne_true h).elim
    | cons t ts =>
      cases t <;> try exact (Bool.false_ne_true h).elim
      rename_i ts' kt pt
      cases ts with
      | cons _ _ => exact (Bool.false_ne_true h).elim
      | nil =>
        cases v <;> try exact (Bool.false_ne_true h).elim
        rename_i vs k p'
        obtain ⟨h1, h2⟩ := and2 (show ((match is.mapM (fun i => N[i]?) with | some names => parB sc ts' vs names && slotsB N sc names.reverse is.reverse | none => false) && chkE T N sc fb e (.Tuple vs k p')) = true from h)
        cases q : is.mapM (fun i => N[i]?) with
        | none => rw [q] at h1; exact (Bool.false_ne_true h1).elim
        | some names =>
          rw [q] at h1
          obtain ⟨h3, h4⟩ := and2 h1
          have key := psd_par (pos := p) (is := is) c.ck.calm c.ck.nd (slotsB_ok c.hN c.hs _ _ h4) (sndE e c _ h2) (parB_ok (kt := kt) (pt := pt) c.hs h3) sole_tup
          rw [mapM_len is names q] at key
          exact key
  | .asg tg e, s, h => by
    cases s <;> try exact (Bool.false_ne_true h).elim
    rename_i ts v p
    cases ts with
    | nil => exact (Bool.false_ne_true h).elim
    | cons t ts =>
      cases t <;> try exact (Bool.false_ne_true h).elim
      rename_i ts' kt pt
      cases ts with
      | cons _ _ => exact (Bool.false_ne_true h).elim
      | nil =>
        obtain ⟨h, h3⟩ := and2 (show (chkG N sc fb tg (.Tuple ts' kt pt) && noTup v && chkE T N sc fb e v) = true from h)
        obtain ⟨h1, h2⟩ := and2 h
        exact psd_asg (sndE e c v h3) (chkG_ok c tg _ h1) sole_tup (noTup_ok h2) rfl
  | .put o i e, s, h => by
    cases s <;> try exact (Bool.false_ne_true h).elim
    rename_i ts v p
    cases ts with
    | nil => exact (Bool.false_ne_true h).elim
    | cons t ts =>
      cases t <;> try exact (Bool.false_ne_true h).elim
      rename_i x y p'
      cases ts with
      | cons _ _ => exact (Bool.false_ne_true h).elim
      | nil =>
        obtain ⟨h, h5⟩ := and2 (show (plainIx y && noComp v && chkE T N sc fb e v && chkE T N sc fb o x && chkE T N sc fb i y) = true from h)
        obtain ⟨h, h4⟩ := and2 h
        obtain ⟨h, h3⟩ := and2 h
        obtain ⟨h1, h2⟩ := and2 h
        have hp := pgd_sub (pos := p') (c.ck.units (k := 1) (by decide)) (sndE o c x h4) (sndE i c y h5) (by intro u; cases y <;> first | rfl | exact (Bool.false_ne_true h1).elim)
        have key := psd_asg (pos := p) (sndE e c v h3) hp (by unfold swapsWithSole; exact noComp_ok h2) sub_none rfl
        have e : (fun ρ => evE φ e ρ >>= fun d => (evE φ o ρ >>= fun od => evE φ i ρ >>= fun id => setD od id d >>= fun _ => pure ρ) >>= fun ρ' => pure (Fl.next ρ')) = evS φ (.put o i e) := by
          funext ρ S
          show (evE φ e ρ >>= fun d => (evE φ o ρ >>= fun od => evE φ i ρ >>= fun id => setD od id d >>= fun _ => pure ρ) >>= fun ρ' => pure (Fl.next ρ')) S = (evE φ e ρ >>= fun d => evE φ o ρ >>= fun od => evE φ i ρ >>= fun id => setD od id d >>= fun _ => pure (.next ρ)) S
          simp only [bind_run]
          cases evE φ e ρ S with
          | bad => rfl
          | ok d S1 =>
            dsimp only
            cases evE φ o ρ S1 with
            | bad => rfl
            | ok od S2 =>
              dsimp only
              cases evE φ i ρ S2 with
              | bad => rfl
              | ok id S3 =>
                dsimp only
                cases setD od id d S3 <;> rfl
        rw [← e]
        exact key
  | .exp e, s, h => by
    cases s <;> try exact (Bool.false_ne_true h).elim
    rename_i v p
    obtain ⟨h1, h2⟩ := and2 (show (noComp v && chkE T N sc fb e v) = true from h)
    exact psd_expr (sndE e c v h2) (noComp_ok h1)
  | .ite t a b, s, h => by
    cases s <;> try exact (Bool.false_ne_true h).elim
    rename_i q x y p
    obtain ⟨h, h3⟩ := and2 (show (chkT T N sc fb t q && chkSs T N fb sc a x && chkSs T N fb sc b y) = true from h)
    obtain ⟨h1, h2⟩ := and2 h
    exact psd_if (sndT t c q h1) (sndSs c a x h2) (sndSs c b y h3)
  | .forr tg it b, s, h => by
    cases s <;> try exact (Bool.false_ne_true h).elim
    rename_i tg' it' x oe p
    cases oe with
    | cons _ _ => exact (Bool.false_ne_true h).elim
    | nil =>
      obtain ⟨h, h4⟩ := and2 (show (chkI T N sc fb it it' && (noSet it' && tupT it tg') && chkG N sc fb tg tg' && chkSs T N fb sc b x) = true from h)
      obtain ⟨h, h3⟩ := and2 h
      obtain ⟨h1, h2⟩ := and2 h
      exact psd_for c.ck.calm (sndI it c tg' it' h1 (and2 h2).2) (chkG_ok c tg tg' h3) (sndSs c b x h4) (set_ok' (and2 h2).1)
  | .whl m t b, s, h => by
    cases s <;> try exact (Bool.false_ne_true h).elim
    rename_i x y oe p
    cases oe with
    | cons _ _ => exact (Bool.false_ne_true h).elim
    | nil =>
      obtain ⟨h1, h2⟩ := and2 (show (chkT T N sc fb t x && chkSs T N fb sc b y) = true from h)
      exact psd_while (sndT t c x h1) (sndSs c b y h2)
  | .aug i e, s, h => by
    cases s <;> try exact (Bool.false_ne_true h).elim
    rename_i t op v p
    cases t <;> try exact (Bool.false_ne_true h).elim
    rename_i x px
    cases op <;> try exact (Bool.false_ne_true h).elim
    obtain ⟨h, h3⟩ := and2 (show (!(T.cp.contains i) && okNm N sc fb i x && chkE T N sc fb e v) = true from h)
    obtain ⟨h1, h2⟩ := and2 h
    obtain ⟨n1, n2, n3⟩ := c.store h2
    exact psd_aug (c.ncp h1) c.ck.nd n1 n2 n3 (sndE e c v h3)
  | .dfn i k, s, h => by
    cases s <;> try exact (Bool.false_ne_true h).elim
    rename_i name params body decs rets tps scope tscope nm2 p
    cases decs with
    | cons _ _ => exact (Bool.false_ne_true h).elim
    | nil =>
      cases rets with
      | some _ => exact (Bool.false_ne_true h).elim
      | none =>
        cases tps with
        | cons _ _ => exact (Bool.false_ne_true h).elim
        | nil =>
          cases tscope with
          | some _ => exact (Bool.false_ne_true h).elim
          | none =>
            obtain ⟨h, h9⟩ := and2 (show (name == nm2 && okNm N sc fb i name && T.cp.contains i && fb probe && T.mkn == some name && argsA params && freeB sc scope && T.lam k params (.st body) scope &&
      (match T.fns[k]? with | some p => p.fr.isSome | none => false)) = true from h)
            obtain ⟨h, h8⟩ := and2 h
            obtain ⟨h, h7⟩ := and2 h
            obtain ⟨h, h6⟩ := and2 h
            obtain ⟨h, h5⟩ := and2 h
            obtain ⟨h, h4⟩ := and2 h
            obtain ⟨h, h3⟩ := and2 h
            obtain ⟨h1, h2⟩ := and2 h
            obtain rfl := eq_of_beq h1
            obtain ⟨n1, n2, n3⟩ := c.store h2
            obtain ⟨a1, a2, a3⟩ := argsA_ok (env := X.env) h6
            cases q : T.fns[k]? with
            | none => rw [q] at h9; exact (Bool.false_ne_true h9).elim
            | some pp =>
              rw [q] at h9
              obtain ⟨fr, qf⟩ := Option.isSome_iff_exists.mp (show pp.fr.isSome = true from h9)
              exact psd_dfn (fr := fr) (c.mkn _ (eq_of_beq h5)) a1 a2 a3 c.ck.nd n1 n2 n3 (by rw [← c.cp]; exact List.contains_iff_mem.mp h3) (c.tp h4).2 (c.free h7) (fun c' => c.tab.lam k params (.st body) scope h8 pp fr q qf _ _ _ c')
theorem sndSs {fb : Str → Bool} (c : Ctx τ X n T φ N sc fb) : ∀ (ir : Sxs) (s : List Stmt), chkSs T N fb sc ir s = true → PSDs τ X s (evSs φ ir)
  | .nil, s, h => by
    cases s with
    | nil => exact psd_nil
    | cons _ _ => exact (Bool.false_ne_true h).elim
  | .cons a r, s, h => by
    cases s with
    | nil => exact (Bool.false_ne_true h).elim
    | cons x xs =>
      obtain ⟨h1, h2⟩ := and2 (show (chkS T N fb sc a x && chkSs T N fb sc r xs) = true from h)
      exact psd_cons (sndS c a x h1) (sndSs c r xs h2)
end
end
end MP

/-! MP22: the table of functions; the law's end. -/
namespace MP
open PySem L2 PyProof.Rows
structure FDef where
  name : Str
  N : List Str
  np : Nat
  body : Sxs
  /-- slots that hold functions -/
  cp : List Nat := []
  /-- the name of what it makes -/
  mkn : Option Str := none
  /-- of a nested one: what it captures -/
  fr : Option (List Str) := none
  /-- called by keywords, too -/
  kw : Bool := false
  /-- a class (fr is some [] then) -/
  cls : Option CI := none
def FDef.nfr (f : FDef) : Nat := match f.fr with
  | none => 0
  | some l => l.length
def runF (P : List FDef) : Nat → Nat → List D → M D
  | 0, _, _ => M.fail
  | n + 1, k, ds => match P[k]? with
    | some f => match f.cls with
      | some ci => if 1 ≤ n then mkD k ci ds else M.fail
      | none => if ds.length = f.np + f.nfr then bodyD f.N.length (evSs (runF P n) f.body) ds else M.fail
    | none => M.fail
/-- what stands at a law's top -/
structure Top where
  P : List FDef
  gls : List (Str × D)
  rp : Bool := true
  gds : List (Str × List (Key × D)) := []
  isxs : List (Str × List Nat) := []
  flds : List Str := []
def fiOf (p : FDef) : FI := ⟨p.name, p.np, p.cp.filter (· < p.np), p.fr, if p.kw then some (p.N.take p.np) else none, p.cls⟩
def tab0 (t : Top) : Tab := { fns := t.P.map fiOf, gls := t.gls, rp := t.rp, gds := t.gds, isxs := t.isxs, flds := t.flds }
def argsB (p : Arguments) : Bool := match p with
  | ⟨[], _, none, [], [], none, []⟩ => true
  | _ => false
def lamOf (t : Top) (k : Nat) (params : Arguments) (body : CB) (scope : Scope) : Bool := match t.P[k]? with
  | some p => (match p.fr with
    | some fr => p.cls.isNone && argsB params && params.args.map (·.arg) == p.N.take p.np && decide (p.np ≤ p.N.length) && p.cp.isEmpty && NdefX.nscB p.N (p.N.take p.np) fr scope && (match body with
      | .st b => chkSs (tab0 t) p.N (fun _ => false) scope p.body b
      | .ex e => (match p.body with
        | .cons (.ret ir) .nil => chkE (tab0 t) p.N scope (fun _ => false) ir e
        | _ => false))
    | none => false)
  | none => false
def tabP (t : Top) (p : FDef) : Tab := { tab0 t with cp := p.cp, mkn := p.mkn, lam := lamOf t }
def mkDef (x : Str) (params : Arguments) (body : List Stmt) (scope : Scope) : Stmt := .FunctionDef x params body [] none [] scope none x ⟨0, 0, 0, 0⟩
/-- how the arguments of a def of these names bind -/
def BindOk (ps : List Str) : Prop := ∀ (x q : Str) (args : List Arg) (body : List Stmt) (scope : Scope) (kV doc pm cdv ct : Value) (an : Option Addr) (us : List Value), args.map (·.arg) = ps → us.length = ps.length →
  bindArgs (PySem.W.fnOf x q ⟨[], args, none, [], [], none, []⟩ body scope .none kV doc pm an cdv ct) ⟨us, []⟩ = pure (ps.zip us)
/-- .. of a nested def, a lambda -/
def BindNOk (ps : List Str) : Prop := ∀ (F : CF) (args : List Arg) (doc pm ctv : Value) (us : List Value), F.params = ⟨[], args, none, [], [], none, []⟩ → args.map (·.arg) = ps → us.length = ps.length → bindArgs (F.fd doc pm ctv) ⟨us, []⟩ = pure (ps.zip us)
/-- .. by keywords -/
def BindKOk (ps : List Str) : Prop := ∀ (x q : Str) (args : List Arg) (body : List Stmt) (scope : Scope) (kV doc pm cdv ct : Value) (an : Option Addr) (us : List Value), args.map (·.arg) = ps → us.length = ps.length →
  bindArgs (PySem.W.fnOf x q ⟨[], args, none, [], [], none, []⟩ body scope .none kV doc pm an cdv ct) ⟨[], ps.zip us⟩ = pure (ps.zip us)
/-- what the top has left of a def -/
structure FFact (K : PySem.W.Frag) (mg : Str → Option Value) (T : Tab) (p : FDef) : Prop where
  ex : ∃ f fd ps sm, Fun K p.name p.name sm f fd ∧ FnScope p.N ps (defScope sm) ∧ mg p.name = some (.ref f) ∧ Binds K fd ps [] ∧ chkSs T p.N (fun _ => true) (defScope sm) p.body (defBody sm) = true ∧ ps.length = p.np ∧ (p.kw = true → ps = p.N.take p.np ∧ KwBinds K fd ps) ∧
    ∀ x, p.mkn = some x → ∃ c P, fd.code = .ref c ∧ PySem.W.tabIn K p.name = some (c, P)
structure GFact (K : PySem.W.Frag) (mg : Str → Option Value) (p : Str × D) : Prop where
  ex : ∃ v u, mg p.1 = some u ∧ RelV v u ∧ ∀ η H, Rep K η H p.2 v
/-- the makers' code objects and tables -/
def csOf (K : PySem.W.Frag) (t : Top) : List (Addr × Addr) := t.P.filterMap fun p => p.mkn.bind fun _ => PySem.W.tabIn K p.name
def tabsOf (K : PySem.W.Frag) (t : Top) : List NdefX.NTab := t.P.filterMap fun p => p.mkn.bind fun x => (PySem.W.tabIn K p.name).map fun q => (q.2, fun _ _ => p.name ++ ".<locals>." ++ x)
section
variable {Pg : Program} {w : World} {K : PySem.W.Frag} {mg : Str → Option Value} {base : Heap} {t : Top} {τ : Tau}
/-- what the top has left -/
structure Left (K : PySem.W.Frag) (w : World) (mg : Str → Option Value) (t : Top) : Prop where
  fns : ∀ p ∈ t.P, p.fr = none → FFact K mg (tabP t p) p
  gls : ∀ p ∈ t.gls, GFact K mg p
  bls : ∀ x ∈ bltNames, mg x = none
  gds : ∀ p ∈ t.gds, KdAt K w mg p.1 p.2
  nst : ∀ p ∈ t.P, p.fr ≠ none → p.cls = none → BindNOk (p.N.take p.np) ∧ p.np ≤ p.N.length
  cfr : ∀ p ∈ t.P, p.cls ≠ none → p.fr ≠ none
  cls : ∀ p ∈ t.P, ∀ ci, p.cls = some ci → ∃ C, CK K mg ci C
  isx : ∀ p ∈ t.isxs, ∃ cv, (mg p.1 = some cv ∨ (mg p.1 = none ∧ bootBuiltins p.1 = some cv ∧ p.1 ≠ "__name__")) ∧ ∀ k q ci C, t.P[k]? = some q → q.cls = some ci → mg ci.name = some (.ref C) → PySem.W.kitOne K (.ref C) cv = some (p.2.contains k)
  fld : ∀ f ∈ t.flds, ∀ q ∈ t.P, ∀ ci C, q.cls = some ci → mg ci.name = some (.ref C) → PySem.W.findIn K (.ref C) f = some none
  tb1 : ∀ p ∈ tabsOf K t, ∀ q ∈ tabsOf K t, p.1 = q.1 → p.2 = q.2
/-- what stands throughout -/
def tauOf (K : PySem.W.Frag) (mg : Str → Option Value) (t : Top) (lo : Nat) : Tau where
  lo := lo
  tabs := tabsOf K t
  txt := fun k F fr => lamOf t k F.params F.body F.scope = true ∧ ∃ p, t.P[k]? = some p ∧ p.fr = some fr
  gf := fun k f => ∃ p, t.P[k]? = some p ∧ p.fr = none ∧ p.cp.filter (· < p.np) = [] ∧ mg p.name = some (.ref f)
  cp := []
  cells := []
  cls := fun k C => ∃ p ci, t.P[k]? = some p ∧ p.cls = some ci ∧ mg ci.name = some (.ref C)
theorem fnD_weak {n : Nat} {f : Addr} {fd : FuncData} {ps : List Str} {g g' : List D → M D} (F : FnD τ Pg w K mg base n f fd ps g) (h : ∀ ds S d S', g' ds S = .ok d S' → g ds S = .ok d S') : FnD τ Pg w K mg base n f fd ps g' :=
  fun A outer s H args us vs ds η S d S' h1 h2 h3 h4 h5 h6 h7 h8 h9 q => F A outer s H args us vs ds η S d S' h1 h2 h3 h4 h5 h6 h7 h8 h9 (h _ _ _ _ q)
theorem fnK_weak {cs : List (Addr × Addr)} {n : Nat} {f : Addr} {fd : FuncData} {ps : List Str} {g g' : List D → M D} (F : FnK τ Pg w K mg cs n f fd ps g) (h : ∀ ds S d S', g' ds S = .ok d S' → g ds S = .ok d S') : FnK τ Pg w K mg cs n f fd ps g' :=
  fun base A outer s H args us vs ds η S d S' h0 h1 h2 h3 h4 h5 h6 h7 h8 h9 q => F base A outer s H args us vs ds η S d S' h0 h1 h2 h3 h4 h5 h6 h7 h8 h9 (h _ _ _ _ q)
theorem nfn_weak {cs : List (Addr × Addr)} {n k np : Nat} {g g' : List D → M D} (F : NFn τ Pg w K mg cs n k np g) (h : ∀ ds S d S', g' ds S = .ok d S' → g ds S = .ok d S') : NFn τ Pg w K mg cs n k np g' :=
  fun base A outer s H f F' fr us vs ds caps ws η S d S' h0 h1 h2 h3 h4 h5 h6 h7 h8 h9 h10 h11 h12 q => F base A outer s H f F' fr us vs ds caps ws η S d S' h0 h1 h2 h3 h4 h5 h6 h7 h8 h9 h10 h11 h12 (h _ _ _ _ q)
theorem fnD_same {τ' : Tau} {n : Nat} {f : Addr} {fd : FuncData} {ps : List Str} {g : List D → M D} (F : FnD τ Pg w K mg base n f fd ps g) (e : τ.Same τ') : FnD τ' Pg w K mg base n f fd ps g := by
  intro A outer s H args us vs ds η S d S' h1 h2 h3 h4 h5 h6 h7 h8 h9 q
  refine codeAny_mono (F A outer s H args us vs ds η S d S' h1 h2 (by rw [← e.lo]; exact h3) h4 h5 h6 h7 h8 (h9.of e.symm) q) fun r s' z => ?_
  obtain ⟨u, v, η', H', z1, z2, z3, z4, z5, z6, z7, z8, z9, z10⟩ := z
  exact ⟨u, v, η', H', z1, by rw [e.lo]; exact z2, z3, z4, z5, z6, z7, z8.of e, z9, z10⟩
theorem nfn_same {τ' : Tau} {cs : List (Addr × Addr)} {n k np : Nat} {g : List D → M D} (F : NFn τ Pg w K mg cs n k np g) (e : τ.Same τ') : NFn τ' Pg w K mg cs n k np g := by
  intro base A outer s H f F' fr us vs ds caps ws η S d S' h0 h1 h2 h3 h4 h5 h6 h7 h8 h9 h10 h11 h12 q
  refine codeAny_mono (F base A outer s H f F' fr us vs ds caps ws η S d S' h0 h1 h2 (by rw [← e.lo]; exact h3) h4 (by rw [← e.txt]; exact h5) h6 h7 h8 h9 h10 h11 (h12.of e.symm) q) fun r s' z => ?_
  obtain ⟨u, v, η', H', z1, z2, z3, z4, z5, z6, z7, z8, z9, z10⟩ := z
  exact ⟨u, v, η', H', z1, by rw [e.lo]; exact z2, z3, z4, z5, z6, z7, z8.of e, z9, z10⟩
theorem runF_len {P : List FDef} {n k : Nat} {ds : List D} {S : Sto} {d : D} {S' : Sto} (q : runF P n k ds S = .ok d S') : ∃ p, P[k]? = some p ∧ (p.cls = none → ds.length = p.np + p.nfr) := by
  cases n with
  | zero => cases q
  | succ n =>
    unfold runF at q
    cases qp : P[k]? with
    | none => rw [qp] at q; cases q
    | some p =>
      refine ⟨p, rfl, fun hc => ?_⟩
      rw [qp] at q
      dsimp only at q
      rw [hc] at q
      dsimp only at q
      split at q
      · rename_i h
        exact h
      · cases q
theorem runF_weak {n k : Nat} {p : FDef} (q : t.P[k]? = some p) (hc : p.cls = none) (ds : List D) (S : Sto) (d : D) (S' : Sto) (z : runF t.P (n + 1) k ds S = .ok d S') : bodyD p.N.length (evSs (runF t.P n) p.body) ds S = .ok d S' := by
  unfold runF at z
  rw [q] at z
  dsimp only at z
  rw [hc] at z
  dsimp only at z
  split at z
  · exact z
  · cases z
def FnsOk (Pg : Program) (w : World) (K : PySem.W.Frag) (mg : Str → Option Value) (t : Top) (lo : Nat) (n : Nat) : Prop :=
  (∀ (k : Nat) (p : FDef), t.P[k]? = some p → p.fr = none → ∃ f fd ps, ps.length = p.np ∧ mg p.name = some (.ref f) ∧ PySem.W.keepIn K (.ref f) = true ∧ Binds K fd ps [] ∧ (ps = p.N.take p.np ∧ (p.kw = true → KwBinds K fd ps)) ∧ (∀ h, K.In h → PySem.W.FnAt f h) ∧
    FnK { tauOf K mg t lo with cp := p.cp } Pg w K mg (csOf K t) n f fd ps (runF t.P n k)) ∧
  ∀ (k : Nat) (p : FDef) (fr : List Str), t.P[k]? = some p → p.fr = some fr → NFn (tauOf K mg t lo) Pg w K mg (csOf K t) n k p.np (runF t.P n k)
theorem fi_get {k : Nat} {i : FI} (q : (t.P.map fiOf)[k]? = some i) : ∃ p, t.P[k]? = some p ∧ i = fiOf p := by
  rw [List.getElem?_map] at q
  cases q2 : t.P[k]? with
  | none => rw [q2] at q; cases q
  | some p => rw [q2] at q; exact ⟨p, rfl, (Option.some.inj q).symm⟩
theorem tab_ctx {X : Cx} {n lo : Nat} {T : Tab} (hP : X.prog = Pg) (hw : X.w = w) (hK : X.K = K) (hm : X.mg = mg) (hb : BaseOk mg (csOf K t) X.base) (G : FnsOk Pg w K mg t lo n) (L : Left K w mg t) (hr : t.rp = true → 1 ≤ lo)
    (e : (tauOf K mg t lo).Same τ) (t1 : T.fns = t.P.map fiOf) (t2 : T.gls = t.gls) (t3 : T.rp = t.rp) (t4 : T.gds = t.gds) (t6 : T.isxs = t.isxs) (t7 : T.flds = t.flds) (t5 : ∀ k a b s, T.lam k a b s = true → lamOf t k a b s = true) : TabOk τ X n T (runF t.P n) := by
  subst hP hw hK hm
  have fnAll : ∀ (k : Nat) (p : FDef), t.P[k]? = some p → p.fr = none → p.cp.filter (· < p.np) = [] → ∃ f fd ps, ps.length = p.np ∧ X.mg p.name = some (.ref f) ∧ PySem.W.keepIn X.K (.ref f) = true ∧ Binds X.K fd ps [] ∧ (ps = p.N.take p.np ∧ (p.kw = true → KwBinds X.K fd ps)) ∧ (∀ h, X.K.In h → PySem.W.FnAt f h) ∧ FnD τ X.prog X.w X.K X.mg X.base n f fd ps (runF t.P n k) := fun k p q h1 h2 => by
    obtain ⟨f, fd, ps, a1, a2, a3, a4, a5, a6, a7⟩ := G.1 k p q h1
    exact ⟨f, fd, ps, a1, a2, a3, a4, a5, a6, fnD_same (a7.plain hb) ⟨e.lo, e.tabs, e.txt, e.gf, e.cls⟩⟩
  have noC : ∀ {p : FDef}, p ∈ t.P → p.fr = none → p.cls = none := fun {p} hp hf => by
    cases hc : p.cls with
    | none => rfl
    | some ci => exact absurd hf (L.cfr p hp (by rw [hc]; simp))
  refine ⟨fun k i q h1 h2 => ?_, fun k p q => ?_, L.bls, fun h => by rw [e.lo]; exact hr (by rw [← t3]; exact h), fun k p q => ?_, ⟨csOf X.K t, hb, ⟨fun k f h => ?_, fun k F fr h => ?_⟩, fun k i q h1 => ?_⟩, fun k i ci q h1 => ?_, fun p hp => ?_, fun f hf c C hC => ?_, fun k params body scope h i fr q h2 name qual cl c => ?_, fun k F fr h => ?_⟩
  · rw [t1] at q
    obtain ⟨p, qp, rfl⟩ := fi_get q
    obtain ⟨f, fd, ps, a1, a2, a3, a4, a5, a6, a7⟩ := fnAll k p qp h2 h1
    refine ⟨f, fd, ps, a1, a2, a3, a4, a7, fun qs hq => ?_, ?_⟩
    · have hq : (if p.kw then some (p.N.take p.np) else none) = some qs := hq
      split at hq
      · rename_i hk
        cases hq
        exact ⟨a5.1, a5.2 hk⟩
      · cases hq
    · rw [e.gf]
      exact ⟨p, qp, h2, h1, a2⟩
  · rw [t2] at q
    exact (L.gls p (List.mem_of_getElem? q)).ex
  · rw [t4] at q
    exact L.gds p (List.mem_of_getElem? q)
  · rw [e.gf] at h
    obtain ⟨p, qp, h1, h2, h3⟩ := h
    obtain ⟨f', fd, ps, a1, a2, a3, a4, a5, a6, a7⟩ := fnAll k p qp h1 h2
    rw [h3] at a2
    cases a2
    refine ⟨fd, ps, a4, a6, a7, fun ds S d S' z => ?_⟩
    obtain ⟨p', q', hl⟩ := runF_len z
    rw [qp] at q'
    cases q'
    rw [hl (noC (List.mem_of_getElem? qp) h1), a1]
    unfold FDef.nfr
    rw [h1]
    rfl
  · rw [e.txt] at h
    obtain ⟨h1, p, qp, h2⟩ := h
    refine ⟨p.np, nfn_same (G.2 k p fr qp h2) e, fun ds S d S' z => ?_⟩
    obtain ⟨p', q', hl⟩ := runF_len z
    rw [qp] at q'
    cases q'
    have hc : p.cls = none := by
      have h1 : lamOf t k F.params F.body F.scope = true := h1
      unfold lamOf at h1
      rw [qp] at h1
      dsimp only at h1
      rw [h2] at h1
      cases hc : p.cls with
      | none => rfl
      | some ci =>
        dsimp only at h1
        rw [hc] at h1
        simp at h1
    rw [hl hc]
    unfold FDef.nfr
    rw [h2]
  · rw [t1] at q
    obtain ⟨p, qp, rfl⟩ := fi_get q
    obtain ⟨f, fd, ps, a1, a2, a3, a4, a5, a6, a7⟩ := G.1 k p qp h1
    exact ⟨{ tauOf X.K X.mg t lo with cp := p.cp }, f, fd, ps, ⟨e.lo.symm, e.tabs.symm, e.txt.symm, e.gf.symm, e.cls.symm⟩, fun j hj => (List.mem_filter.mp hj).1, a1, a2, a3, a4, a7⟩
  · rw [t1] at q
    obtain ⟨p, qp, rfl⟩ := fi_get q
    have h1 : p.cls = some ci := h1
    obtain ⟨C, hC⟩ := L.cls p (List.mem_of_getElem? qp) ci h1
    refine ⟨C, hC, by rw [e.cls]; exact ⟨p, ci, qp, h1, hC.here⟩, fun ds S d S' z => ?_⟩
    cases n with
    | zero => cases z
    | succ n =>
      have z : runF t.P (n + 1) k ds S = .ok d S' := z
      unfold runF at z
      rw [qp] at z
      dsimp only at z
      rw [h1] at z
      dsimp only at z
      split at z
      · exact ⟨z, by omega⟩
      · cases z
  · rw [t6] at hp
    obtain ⟨cv, h1, h2⟩ := L.isx p hp
    refine ⟨cv, h1, fun c C hC => ?_⟩
    rw [e.cls] at hC
    obtain ⟨q, ci, qp, hq, hm⟩ := hC
    obtain ⟨C', hC'⟩ := L.cls q (List.mem_of_getElem? qp) ci hq
    have hm' := hC'.here
    rw [hm] at hm'
    cases hm'
    exact ⟨h2 c q ci C qp hq hm, hC'.ex⟩
  · rw [t7] at hf
    rw [e.cls] at hC
    obtain ⟨q, ci, qp, hq, hm⟩ := hC
    obtain ⟨C', hC'⟩ := L.cls q (List.mem_of_getElem? qp) ci hq
    have hm' := hC'.here
    rw [hm] at hm'
    cases hm'
    exact ⟨L.fld f hf q (List.mem_of_getElem? qp) ci C hq hm, hC'.xf⟩
  · rw [t1] at q
    obtain ⟨p, qp, rfl⟩ := fi_get q
    rw [e.txt]
    exact ⟨t5 _ _ _ _ h, p, qp, h2⟩
  · rw [e.txt] at h
    obtain ⟨h1, p, qp, h2⟩ := h
    have h1 : lamOf t k F.params F.body F.scope = true := h1
    unfold lamOf at h1
    rw [qp] at h1
    dsimp only at h1
    rw [h2] at h1
    obtain ⟨h1, _⟩ := and2 h1
    obtain ⟨h1, hn⟩ := and2 h1
    have S := NdefX.nscope_by hn
    exact ⟨⟨fiOf p, by rw [t1, List.getElem?_map, qp]; rfl, h2⟩, fun y hy => PySem.mem_of_lookup (S.frk y hy), S.free⟩
theorem fns_ok (L : Left K w mg t) {lo : Nat} (hr : t.rp = true → 1 ≤ lo) : ∀ n : Nat, FnsOk Pg w K mg t lo n
  | 0 => by
    refine ⟨fun k p q hfr => ?_, fun k p fr q hfr base A outer s H f F fr us vs ds caps ws η S d S' h0 h1 h2 h3 h4 h5 h6 h7 h8 h9 h10 h11 h12 z => by cases z⟩
    obtain ⟨f, fd, ps, sm, F, Sc, hm, hb, hc, hl, hk, _⟩ := (L.fns p (List.mem_of_getElem? q) hfr).ex
    refine ⟨f, fd, ps, hl, hm, F.kp, hb, ⟨by rw [← hl]; exact Sc.pre.symm, fun z => (hk z).2⟩, fun h KX => ?_, fun base A outer s H args us vs ds η S d S' h0 h1 h2 h3 h4 h5 h6 h7 h8 h9 z => by cases z⟩
    obtain ⟨oc, od, kV, doc, pm, an, cdv, ct, osl, rfl, lk, hcd⟩ := F.ex
    exact ⟨_, _, _, _, KX _ _ lk⟩
  | n + 1 => by
    have G := fns_ok L hr n
    refine ⟨fun k p q hfr => ?_, fun k p fr q hfr => ?_⟩
    · obtain ⟨f, fd, ps, sm, F, Sc, hm, hb, hc, hl, hk, hmk⟩ := (L.fns p (List.mem_of_getElem? q) hfr).ex
      refine ⟨f, fd, ps, hl, hm, F.kp, hb, ⟨by rw [← hl]; exact Sc.pre.symm, fun z => (hk z).2⟩, fun h KX => ?_, fnK_weak (fnk_of (g := evSs (runF t.P n) p.body) F Sc fun X e1 e2 e3 e4 e5 e6 e7 e8 e9 e10 c => ?_) (runF_weak q (by
        cases hc : p.cls with
        | none => rfl
        | some ci => exact absurd hfr (L.cfr p (List.mem_of_getElem? q) (by rw [hc]; simp))))⟩
      · obtain ⟨oc, od, kV, doc, pm, an, cdv, ct, osl, rfl, lk, hcd⟩ := F.ex
        exact ⟨_, _, _, _, KX _ _ lk⟩
      · refine sndSs (τ := { ({ tauOf K mg t lo with cp := p.cp } : Tau) with cells := X.env.cells }) (fb := fun _ => true) ⟨e6, e7, c, tab_ctx (t := t) (lo := lo) e1 e2 e3 e4 e5 G L hr ⟨rfl, rfl, rfl, rfl, rfl⟩ rfl rfl rfl rfl rfl rfl (fun _ _ _ _ h => h), fun x _ => e10 x, rfl, fun x hx => ?_, fun _ => ⟨e10, rfl⟩⟩ p.body _ hc
        obtain ⟨c', P', h1, h2⟩ := hmk x hx
        have hmem := List.mem_of_getElem? q
        have m1 : (c', P') ∈ csOf K t := List.mem_filterMap.mpr ⟨p, hmem, by rw [show p.mkn = some x from hx]; exact h2⟩
        have m2 : (P', fun _ _ => p.name ++ ".<locals>." ++ x) ∈ tabsOf K t := List.mem_filterMap.mpr ⟨p, hmem, by rw [show p.mkn = some x from hx, Option.bind_some, h2]; rfl⟩
        refine ⟨c', P', e8.trans h1, ?_, ?_, fun p' hp' ep => ?_⟩
        · rw [e4]
          exact e5.2 _ m1
        · rw [e9]
          exact m2
        · rw [e9]
          exact L.tb1 p' hp' _ m2 ep
    · cases hc : p.cls with
      | some ci =>
        intro base A outer s H f F fr us vs ds caps ws η S d S' h0 h1 h2 h3 h4 h5
        exfalso
        obtain ⟨h1, p', q', hfr'⟩ := h5
        rw [q] at q'
        cases q'
        have h1 : lamOf t k F.params F.body F.scope = true := h1
        unfold lamOf at h1
        rw [q] at h1
        dsimp only at h1
        rw [hfr'] at h1
        dsimp only at h1
        rw [hc] at h1
        simp at h1
      | none =>
      refine nfn_weak (g := bodyD p.N.length (evSs (runF t.P n) p.body)) ?_ (runF_weak q hc)
      have hB := L.nst p (List.mem_of_getElem? q) (by rw [hfr]; simp) hc
      have key : NFn (tauOf K mg t lo) Pg w K mg (csOf K t) (n + 1) k (p.N.take p.np).length (bodyD p.N.length (evSs (runF t.P n) p.body)) := by
        refine nfn_of (N := p.N) fun F fr' ht => ?_
        obtain ⟨h1, p', q', hfr'⟩ := ht
        rw [q] at q'
        cases q'
        have h1 : lamOf t k F.params F.body F.scope = true := h1
        unfold lamOf at h1
        rw [q] at h1
        dsimp only at h1
        rw [hfr'] at h1
        obtain ⟨h1, hbody⟩ := and2 h1
        obtain ⟨h1, hn⟩ := and2 h1
        obtain ⟨h1, hcp⟩ := and2 h1
        obtain ⟨h1, h3⟩ := and2 h1
        obtain ⟨h1, h2⟩ := and2 h1
        obtain ⟨_, h1⟩ := and2 h1
        refine ⟨NdefX.nscope_by hn, fun doc pm ctv us hl => ?_, fun X e1 e2 e3 e4 e5 e6 e7 e8 c => ?_⟩
        · obtain ⟨nm, ql, params, bd, sc, cl, cc⟩ := F
          obtain ⟨po, args, va, ko, kd, ka, df⟩ := params
          have hargs : po = [] ∧ va = none ∧ ko = [] ∧ kd = [] ∧ ka = none ∧ df = [] := by
            cases po <;> cases va <;> cases ko <;> cases kd <;> cases ka <;> cases df <;> first | exact ⟨rfl, rfl, rfl, rfl, rfl, rfl⟩ | exact (Bool.false_ne_true h1).elim
          obtain ⟨rfl, rfl, rfl, rfl, rfl, rfl⟩ := hargs
          exact hB.1 _ args doc pm ctv us rfl (eq_of_beq h2) hl
        · have cx : Ctx (tauOf K mg t lo) X n (tab0 t) (runF t.P n) p.N F.scope (fun _ => false) := ⟨e6, e7, c, tab_ctx (t := t) (lo := lo) e1 e2 e3 e4 e5 G L hr ⟨rfl, rfl, rfl, rfl, rfl⟩ rfl rfl rfl rfl rfl rfl (fun _ _ _ _ h => (Bool.false_ne_true h).elim), fun x h => (Bool.false_ne_true h).elim, rfl, (fun x hx => nomatch hx), fun h => (Bool.false_ne_true h).elim⟩
          cases hF : F.body with
          | st b =>
            rw [hF] at hbody
            exact sndSs cx p.body b hbody
          | ex e =>
            rw [hF] at hbody
            dsimp only at hbody
            split at hbody
            · rename_i ir hp
              rw [hp]
              refine ⟨evE (runF t.P n) ir, sndE ir cx e hbody, fun ρ S => ?_⟩
              show ((evE (runF t.P n) ir ρ >>= fun d => pure (Fl.ret d)) >>= thenF (evSs (runF t.P n) .nil)) S = (evE (runF t.P n) ir ρ >>= fun d => pure (Fl.ret d)) S
              simp only [bind_run]
              cases evE (runF t.P n) ir ρ S <;> rfl
            · exact (Bool.false_ne_true hbody).elim
      have hl : (p.N.take p.np).length = p.np := by
        rw [List.length_take]
        have := hB.2
        omega
      rw [hl] at key
      exact key
end
end MP

/-! MP22b: the law's call: the script is known to the object, the makers' tables stand empty. -/
namespace MP
open PySem L2 PyProof.Rows
abbrev noTab : Obj := { cls := .none, data := .fields #[] }
abbrev lstO (us : List Value) : Obj := { cls := .type "list", data := .seq us.toArray }
/-- what is tracked as the law begins: the tables T, and the script where the top's reading doesn't hold it -/
def hp0 (T : List Addr) (a : Addr) (u : Option HO) : Hp := fun b => if b ∈ T then some (.tbl #[]) else if b = a then u else none
section
variable {T : List Addr} {a : Addr} {u : Option HO} {h : Heap} {us : List Value}
theorem hp0_tab {b : Addr} (m : b ∈ T) : hp0 T a u b = some (.tbl #[]) := by unfold hp0; rw [if_pos m]
theorem hp0_self (m : a ∉ T) : hp0 T a u a = u := by unfold hp0; rw [if_neg m, if_pos rfl]
theorem hp0_cases {b : Addr} {o : HO} (e : hp0 T a u b = some o) : (b ∈ T ∧ o = .tbl #[]) ∨ (b ∉ T ∧ b = a ∧ u = some o) := by
  unfold hp0 at e
  by_cases m : b ∈ T
  · rw [if_pos m] at e
    exact .inl ⟨m, (Option.some.inj e).symm⟩
  · rw [if_neg m] at e
    by_cases q : b = a
    · rw [if_pos q] at e
      exact .inr ⟨m, q, e⟩
    · rw [if_neg q] at e
      cases e
/-- whatever is neither a table nor the script is untracked -/
theorem hp0_free (hT : ∀ b ∈ T, h.get? b = some noTab) (ha : h.get? a = some (lstO us)) {b : Addr} {o : Obj} (e : h.get? b = some o) (n1 : o ≠ noTab) (n2 : o ≠ lstO us) : hp0 T a u b = none := by
  cases q : hp0 T a u b with
  | none => rfl
  | some w =>
    rcases hp0_cases q with ⟨m, _⟩ | ⟨_, rfl, _⟩
    · exact absurd (Option.some.inj (e.symm.trans (hT b m))) n1
    · exact absurd (Option.some.inj (e.symm.trans ha)) n2
end
theorem of_dict {o : Obj} {es : Array DictEntry} {ep : Nat} {us : List Value} (d : o.data = .dict es ep) : o ≠ noTab ∧ o ≠ lstO us := by
  refine ⟨fun z => ?_, fun z => ?_⟩ <;> (rw [z] at d; cases d)
theorem of_cls {x : String} (hx : "list" ≠ x) {o : Obj} {us : List Value} (c : o.cls = .type x) : o ≠ noTab ∧ o ≠ lstO us := by
  refine ⟨fun z => ?_, fun z => ?_⟩
  · rw [z] at c
    cases c
  · rw [z] at c
    have c : Value.type "list" = Value.type x := c
    injection c with c
    exact hx c
section
variable {P : Program} {w : World} {K : PySem.W.Frag} {mg mb : Str → Option Value} {t : Top} {s₁ : Shared}
/-- what the law's call asks of the makers' tables -/
structure TabsLeft (K : PySem.W.Frag) (t : Top) (h : Heap) : Prop where
  at_ : ∀ p ∈ csOf K t, h.get? p.2 = some noTab
  out : ∀ p ∈ csOf K t, K.lookup p.2 = none
  hd : ∀ p ∈ csOf K t, PySem.W.CodeHd h p.1 p.2
theorem tabs_cs : ∀ p ∈ tabsOf K t, p.1 ∈ (csOf K t).map (·.2) := by
  intro p hp
  obtain ⟨q, hq, e⟩ := List.mem_filterMap.mp hp
  cases hx : q.mkn with
  | none => rw [hx] at e; cases e
  | some x =>
    rw [hx, Option.bind_some] at e
    cases hy : PySem.W.tabIn K q.name with
    | none => rw [hy] at e; cases e
    | some r =>
      rw [hy] at e
      cases e
      exact List.mem_map.mpr ⟨r, List.mem_filterMap.mpr ⟨q, hq, by rw [hx, Option.bind_some, hy]⟩, rfl⟩
/-- the ground that the law stands on, its tracked objects hidden -/
structure Ground0 (K : PySem.W.Frag) (mg : Str → Option Value) (t : Top) (h : Heap) : Prop where
  kin : K.In h
  ns : h.Ns mainGlobals mg
  bl : ∃ mb, h.Ns builtinsNs mb ∧ ∀ x : Str, x ≠ "__name__" → mb x = bootBuiltins x
  lim : h.NoLimit
  sm : ∃ o, h.get? sysModules = some o ∧ o.cls = .type "dict"
  tabs : TabsLeft K t h
  bm : ∃ (bm : Addr) (ob : Obj), mg "__builtins__" = some (.ref bm) ∧ bm ≠ builtinsNs ∧ h.get? bm = some ob ∧ ob.cls = .type "module" ∧ ob.dict = some builtinsNs ∧ ob.data = .plain
theorem ground_hid {h : Heap} {a : Addr} {us : List Value} {u : Option HO} (G : Ground0 K mg t h) (ha : h.get? a = some (lstO us)) (hu : u ≠ none → K.lookup a = none) (aT : a ∉ (csOf K t).map (·.2)) :
    L2.Mod K mg (hidT h (hp0 ((csOf K t).map (·.2)) a u)) ∧ BaseOk mg (csOf K t) (hidT h (hp0 ((csOf K t).map (·.2)) a u)) := by
  have hT : ∀ b ∈ (csOf K t).map (·.2), h.get? b = some noTab := fun b m => by
    obtain ⟨p, hp, e⟩ := List.mem_map.mp m
    subst e
    exact G.tabs.at_ p hp
  have stay : ∀ {b : Addr} {o : Obj}, h.get? b = some o → o ≠ noTab → o ≠ lstO us → (hidT h (hp0 ((csOf K t).map (·.2)) a u)).get? b = some o := fun e n1 n2 => hidT_get e (hp0_free hT ha e n1 n2)
  have nsK : ∀ {b : Addr} {m : Str → Option Value}, h.Ns b m → (hidT h (hp0 ((csOf K t).map (·.2)) a u)).Ns b m := fun ⟨o, es, ep, e, d, r⟩ => ⟨o, es, ep, stay e (of_dict (us := us) d).1 (of_dict d).2, d, r⟩
  have kin : K.In (hidT h (hp0 ((csOf K t).map (·.2)) a u)) := fun b o e => by
    refine hidT_get (G.kin b o e) ?_
    cases q : hp0 ((csOf K t).map (·.2)) a u b with
    | none => rfl
    | some w =>
      exfalso
      rcases hp0_cases q with ⟨m, _⟩ | ⟨_, rfl, z⟩
      · obtain ⟨p, hp, rfl⟩ := List.mem_map.mp m
        rw [G.tabs.out p hp] at e
        cases e
      · rw [hu (by rw [z]; simp)] at e
        cases e
  refine ⟨⟨kin, nsK G.ns, G.bl.imp fun _ z => ⟨nsK z.1, z.2⟩, let ⟨mc, h1, h2⟩ := G.lim; ⟨mc, nsK h1, h2⟩⟩, ?_, fun p hp => ⟨?_, ?_, fun z => ?_⟩⟩
  · obtain ⟨o, e, c⟩ := G.sm
    exact ⟨o, stay e (of_cls (us := us) (by decide) c).1 (of_cls (by decide) c).2⟩
  · obtain ⟨o, fs, f1, f2, f3, f4, f5, f6, f7, e, c, r⟩ := G.tabs.hd p hp
    exact ⟨o, fs, f1, f2, f3, f4, f5, f6, f7, stay e (of_cls (us := us) (by decide) c).1 (of_cls (by decide) c).2, c, r⟩
  · obtain ⟨bm, ob, b1, b2, b3, b4, b5, b6⟩ := G.bm
    refine ⟨bm, ob, b1, b2, fun q => ?_, fun q => ?_, stay b3 (of_cls (us := us) (by decide) b4).1 (of_cls (by decide) b4).2, b4, b5, b6⟩
    · obtain ⟨o, es, ep, e, d, _⟩ := G.ns
      rw [← q, b3] at e
      cases e
      rw [b6] at d
      cases d
    · have z := G.tabs.at_ p hp
      rw [← q, b3] at z
      cases z
      cases b4
  · obtain ⟨o, es, ep, e, d, _⟩ := G.ns
    rw [z, G.tabs.at_ p hp] at e
    cases e
    cases d
theorem law_callDT {k : Nat} {fa a : Addr} {fd : FuncData} {x : Str} {g : List D → M D} {us : List Value} {ns : List Int} {S' : Sto} (G : Ground0 K mg t s₁.heap) (hg : s₁.gens = #[])
    (ha : s₁.heap.get? a = some (lstO us)) (hi : IntsAre us ns) (hl : ns.length ≤ sizeLine) (hr : Room k callerA) (F : FnK (tauOf K mg t 0) P w K mg (csOf K t) k fa fd [x] g) (hbind : ∀ (s : Shared) (u : Value), K.In s.heap → BindsTo s fd ⟨[u], []⟩ [(x, u)])
    (hrun : g [.frz (ns.map D.int)] [] = .ok (.bl true) S') :
    codeAny (model P w) callerA (.call (.ref fa) ⟨[.ref a], []⟩) (fun r s' => r = .ok (.ret (.bool true)) ∧ OldK s₁.heap s'.heap ∧ s'.os = s₁.os ∧ AllBare s'.gens) s₁ := by
  have rv := vals_ints hi
  have aT : a ∉ (csOf K t).map (·.2) := fun m => by
    obtain ⟨p, hp, rfl⟩ := List.mem_map.mp m
    rw [G.tabs.at_ p hp] at ha
    cases ha
  obtain ⟨u, hu, hS, hU⟩ : ∃ u : Option HO, (u ≠ none → K.lookup a = none) ∧ FrzAt K [] (hp0 ((csOf K t).map (·.2)) a u) a (ns.map V.int) ∧ (u = none ∨ u = some (.frz (lstO us) (.lst (ns.map V.int)))) := by
    cases hk : K.lookup a with
    | none => exact ⟨some (.frz (lstO us) (.lst (ns.map V.int))), fun _ => rfl, .inl ⟨.inr ⟨_, hp0_self aT⟩, by simp⟩, .inr rfl⟩
    | some o =>
      have e := G.kin a o hk
      rw [ha] at e
      cases e
      exact ⟨none, fun z => absurd rfl z, .inr ⟨_, us.toArray, _, hk, rfl, rfl, rfl, by rw [List.size_toArray, hi.length]; exact hl, rv⟩, .inl rfl⟩
  obtain ⟨hM, hB⟩ := ground_hid (u := u) G ha hu aT
  have hok : HOk P w (hp0 ((csOf K t).map (·.2)) a u) s₁.heap := fun b o e => by
    rcases hp0_cases e with ⟨m, rfl⟩ | ⟨_, rfl, z⟩
    · obtain ⟨p, hp, rfl⟩ := List.mem_map.mp m
      exact G.tabs.at_ p hp
    · rcases hU with rfl | rfl
      · cases z
      · cases z
        exact ⟨ha, by rw [List.length_map]; exact hl, us, _, rv, ha⟩
  have e0 : Env0 P w K mg (hidT s₁.heap (hp0 ((csOf K t).map (·.2)) a u)) callerA [] s₁ (hp0 ((csOf K t).map (·.2)) a u) := ⟨rfl, hM, fun b o e => of_hidT e, Nat.le_of_eq (hidT_size _ _), trivial, (fun b hb => absurd hb (List.not_mem_nil)), hok, .of_eq hg⟩
  have st0 : StoOk (tauOf K mg t 0) K [] (hp0 ((csOf K t).map (·.2)) a u) [] := ⟨rfl, .nil, (fun n o a' e => by simp at e), fun p hp => NdefX.TabN.nil (hp0_tab (tabs_cs p hp))⟩
  refine codeAny_mono (F _ callerA [] s₁ _ ⟨[.ref a], []⟩ [.ref a] [.ref a] [.frz (ns.map D.int)] [] [] _ _ hB hr rfl (Nat.zero_le _) e0 (hbind s₁ (.ref a) G.kin) (.cons rfl .nil) (.cons (.inl (.frz hS (Reps.ints ns))) .nil) rfl st0 hrun) fun r s' z => ?_
  obtain ⟨v, d, η', H', rfl, _, os, bare, un, hok', _, _, rd, rp⟩ := z
  cases rp
  obtain rfl : v = Value.bool true := rd
  have grown : ∀ p ∈ csOf K t, ∃ more : Array Value, s'.heap.get? p.2 = some { cls := .none, data := .fields more } := fun p hp => by
    obtain ⟨more, q⟩ := un.tbls p.2 #[] (hp0_tab (List.mem_map.mpr ⟨p, hp, rfl⟩))
    exact ⟨_, hok' _ _ q⟩
  have same : ∀ b o, b ∉ (csOf K t).map (·.2) → s₁.heap.get? b = some o → s'.heap.get? b = some o := fun b o nb e => by
    cases q : hp0 ((csOf K t).map (·.2)) a u b with
    | none => exact un.keep b o e q (fun m => nomatch m) (fun m => nomatch m)
    | some y =>
      rcases hp0_cases q with ⟨m, _⟩ | ⟨_, rfl, z⟩
      · exact absurd m nb
      · rcases hU with rfl | rfl
        · cases z
        · cases z
          rw [ha] at e
          cases e
          exact (hok' b _ (un.frzs b _ _ q)).1
  refine ⟨rfl, ⟨fun b o e => ?_, fun b o e => ?_⟩, os, bare⟩ <;> by_cases hb : b ∈ (csOf K t).map (·.2)
  · obtain ⟨p, hp, rfl⟩ := List.mem_map.mp hb
    obtain ⟨more, q⟩ := grown p hp
    have e' := G.tabs.at_ p hp
    rw [e] at e'
    cases e'
    exact .inr (.inl ⟨((G.tabs.hd p hp).tab (G.tabs.at_ p hp)).isCodeTable, rfl, #[], more, rfl, by rw [Array.empty_append]; exact q⟩)
  · exact .inl (same b o hb e)
  · obtain ⟨p, hp, rfl⟩ := List.mem_map.mp hb
    obtain ⟨more, q⟩ := grown p hp
    exact ⟨_, q⟩
  · exact ⟨o, same b o hb e⟩
end
end MP

/-! MP23: the head: what the top leaves, read by one Bool. -/
namespace MP
open PySem L2 PyProof.Rows MX
def valNone : Value → Bool
  | .none => true
  | _ => false
def mkP : Value → Option (Addr × Addr) → Bool
  | .ref c, some q => c == q.1
  | _, _ => false
def mkB (K : PySem.W.Frag) (p : FDef) (code : Value) : Bool := p.mkn.isNone || mkP code (PySem.W.tabIn K p.name)
theorem mkB_ok {K : PySem.W.Frag} {p : FDef} {code : Value} (h : mkB K p code = true) {x : Str} (hx : p.mkn = some x) : ∃ c P, code = .ref c ∧ PySem.W.tabIn K p.name = some (c, P) := by
  unfold mkB at h
  rw [hx] at h
  have h : mkP code (PySem.W.tabIn K p.name) = true := h
  cases qt : PySem.W.tabIn K p.name with
  | none => rw [qt] at h; cases code <;> cases h
  | some q =>
    rw [qt] at h
    cases code with
    | ref c =>
      obtain ⟨c', P⟩ := q
      obtain rfl : c = c' := eq_of_beq h
      exact ⟨c, P, rfl, rfl⟩
    | _ => cases h
def fnB (K : PySem.W.Frag) (T : Tab) (p : FDef) : Bool := match PySem.W.nsIn K mainGlobals p.name with
  | some (some (.ref f)) => (match K.lookup f with
    | some ⟨_, _, .func fd, _⟩ => (match fd.body with
      | .stmts body => fd.name == p.name && fd.qualname == p.name && fd.globals == mainGlobals && fd.closure.isEmpty && valNone fd.defaults && fd.builtins == builtinsNs && PySem.W.codeIn K fd.code p.name && argsB fd.params &&
          fd.params.args.map (·.arg) == p.N.take p.np && decide (p.np ≤ p.N.length) && decide (p.np ≤ 6) && decide (1 ≤ p.np) && C8.scC p.N (p.N.take p.np) fd.scope && chkSs T p.N (fun _ => true) fd.scope p.body body && mkB K p fd.code
      | _ => false)
    | _ => false)
  | _ => false
theorem fnB_ok {K : PySem.W.Frag} {h : Heap} {mg : Str → Option Value} {T : Tab} {p : FDef} (hB : BindOk (p.N.take p.np)) (hK : p.kw = true → BindKOk (p.N.take p.np)) (KX : K.In h) (G : h.Ns mainGlobals mg) (e : fnB K T p = true) : FFact K mg T p := by
  unfold fnB at e
  split at e <;> try cases e
  rename_i f q1
  split at e <;> try cases e
  rename_i oc od fd osl q2
  split at e <;> try cases e
  rename_i body q3
  obtain ⟨e, h15⟩ := and2 e
  obtain ⟨e, h14⟩ := and2 e
  obtain ⟨e, h13⟩ := and2 e
  obtain ⟨e, h12⟩ := and2 e
  obtain ⟨e, h11⟩ := and2 e
  obtain ⟨e, h10⟩ := and2 e
  obtain ⟨e, h9⟩ := and2 e
  obtain ⟨e, h8⟩ := and2 e
  obtain ⟨e, h7⟩ := and2 e
  obtain ⟨e, h6⟩ := and2 e
  obtain ⟨e, h5⟩ := and2 e
  obtain ⟨e, h4⟩ := and2 e
  obtain ⟨e, h3⟩ := and2 e
  obtain ⟨h1, h2⟩ := and2 e
  obtain ⟨nm, qn, params, fb, scope, gl, clo, dfl, kw, doc, pm, an, code, ct, bl⟩ := fd
  have en : nm = p.name := eq_of_beq h1
  have eq : qn = p.name := eq_of_beq h2
  subst en eq
  obtain rfl : gl = mainGlobals := eq_of_beq h3
  obtain rfl : clo = [] := List.isEmpty_iff.mp h4
  obtain rfl : dfl = .none := by cases dfl <;> first | rfl | exact (Bool.false_ne_true h5).elim
  obtain rfl : bl = builtinsNs := eq_of_beq h6
  obtain rfl : fb = .stmts body := q3
  obtain ⟨po, args, va, ko, kd, ka, df⟩ := params
  have hargs : po = [] ∧ va = none ∧ ko = [] ∧ kd = [] ∧ ka = none ∧ df = [] := by
    cases po <;> cases va <;> cases ko <;> cases kd <;> cases ka <;> cases df <;> first | exact ⟨rfl, rfl, rfl, rfl, rfl, rfl⟩ | exact (Bool.false_ne_true h8).elim
  obtain ⟨rfl, rfl, rfl, rfl, rfl, rfl⟩ := hargs
  have hps : args.map (·.arg) = p.N.take p.np := eq_of_beq h9
  have hlen : args.length = p.np := by
    have := congrArg List.length hps
    rw [List.length_map, List.length_take] at this
    have := of_decide_eq_true h10
    omega
  have hr : (p.N.take p.np).length = p.np := by rw [← hps, List.length_map, hlen]
  refine ⟨f, _, p.N.take p.np, mkDef p.name ⟨[], args, none, [], [], none, []⟩ body scope, ⟨⟨oc, od, kw, doc, pm, an, code, ct, osl, rfl, q2, h7⟩, ?_⟩, C8.fnScope_by h13, PySem.W.mg_of KX G q1, ?_, h14, hr, fun hk => ⟨rfl, fun s us hs hl => .of_eq (hK hk _ _ args body scope kw doc pm code ct an us hps hl)⟩, fun x hx => mkB_ok h15 hx⟩
  · show (match K.lookup f with | some ⟨_, _, .func _, _⟩ => true | some ⟨_, _, .cls _, _⟩ => PySem.W.specialIn K (.ref f) "__call__" == some (some (.builtin "type.__call__")) | _ => false) = true
    rw [q2]
  · exact Binds.all fun us hl => hB _ _ args body scope kw doc pm code ct an us hps hl
/-! ### constants -/
mutual
def relK (K : PySem.W.Frag) : D → Value → Bool
  | .non, .none => true
  | .bl a, .bool b => a == b
  | .int i, .int j _ => i == j
  | .str x, .str y _ => x == y
  | .tup ds, .ref a => (match K.lookup a with
    | some ⟨.type c, _, .seq its _, _⟩ => c == "tuple" && decide (its.size ≤ sizeLine) && relKs K ds its.toList
    | _ => false)
  | _, _ => false
def relKs (K : PySem.W.Frag) : List D → List Value → Bool
  | [], [] => true
  | d :: ds, u :: us => relK K d u && relKs K ds us
  | _, _ => false
end
mutual
theorem relK_ok {K : PySem.W.Frag} : ∀ (d : D) (u : Value), relK K d u = true → ∃ v, RelV v u ∧ ∀ η H, Rep K η H d v
  | .non, u, h => by cases u <;> first | exact ⟨.non, rfl, fun _ _ => .non⟩ | exact (Bool.false_ne_true h).elim
  | .bl a, u, h => by
    cases u <;> first
      | (obtain rfl := eq_of_beq (show (a == _) = true from h); exact ⟨.bl a, rfl, fun _ _ => .bl _⟩)
      | exact (Bool.false_ne_true h).elim
  | .int i, u, h => by
    cases u <;> first
      | (obtain rfl := eq_of_beq (show (i == _) = true from h); exact ⟨.int i, ⟨_, rfl⟩, fun _ _ => .int _⟩)
      | exact (Bool.false_ne_true h).elim
  | .str x, u, h => by
    cases u <;> first
      | (obtain rfl := eq_of_beq (show (x == _) = true from h); exact ⟨.str x, ⟨_, rfl⟩, fun _ _ => .str _⟩)
      | exact (Bool.false_ne_true h).elim
  | .tup ds, u, h => by
    cases u <;> try exact (Bool.false_ne_true h).elim
    rename_i a
    have h : (match K.lookup a with
      | some ⟨.type c, _, .seq its _, _⟩ => c == "tuple" && decide (its.size ≤ sizeLine) && relKs K ds its.toList
      | _ => false) = true := h
    split at h <;> try cases h
    rename_i c od its n sl q
    obtain ⟨h, h3⟩ := and2 h
    obtain ⟨h1, h2⟩ := and2 h
    obtain rfl := eq_of_beq h1
    obtain ⟨vs, r, hv⟩ := relKs_ok ds its.toList h3
    exact ⟨.ref a, rfl, fun η H => .tup (.inr ⟨_, its, n, q, rfl, rfl, of_decide_eq_true h2, r⟩) (hv η H)⟩
  | .lst ds, u, h => by cases u <;> exact (Bool.false_ne_true h).elim
  | .frz ds, u, h => by cases u <;> exact (Bool.false_ne_true h).elim
  | .dic ds, u, h => by cases u <;> exact (Bool.false_ne_true h).elim
  | .ref ds, u, h => by cases u <;> exact (Bool.false_ne_true h).elim
  | .clo _ _, u, h => by cases u <;> exact (Bool.false_ne_true h).elim
  | .own _, u, h => by cases u <;> exact (Bool.false_ne_true h).elim
theorem relKs_ok {K : PySem.W.Frag} : ∀ (ds : List D) (us : List Value), relKs K ds us = true → ∃ vs, Vals vs us ∧ ∀ η H, Reps K η H ds vs
  | [], us, h => by cases us <;> first | exact ⟨[], .nil, fun _ _ => .nil⟩ | exact (Bool.false_ne_true h).elim
  | d :: ds, us, h => by
    cases us with
    | nil => exact (Bool.false_ne_true h).elim
    | cons u us =>
      obtain ⟨h1, h2⟩ := and2 (show (relK K d u && relKs K ds us) = true from h)
      obtain ⟨v, r1, w1⟩ := relK_ok d u h1
      obtain ⟨vs, r2, w2⟩ := relKs_ok ds us h2
      exact ⟨v :: vs, .cons r1 r2, fun η H => .cons (w1 η H) (w2 η H)⟩
end
def glC (K : PySem.W.Frag) (p : Str × D) : Bool := match PySem.W.nsIn K mainGlobals p.1 with
  | some (some u) => relK K p.2 u
  | _ => false
theorem glC_ok {K : PySem.W.Frag} {h : Heap} {mg : Str → Option Value} {p : Str × D} (KX : K.In h) (G : h.Ns mainGlobals mg) (e : glC K p = true) : GFact K mg p := by
  unfold glC at e
  split at e <;> try cases e
  rename_i u q
  obtain ⟨v, r, hv⟩ := relK_ok p.2 u e
  exact ⟨v, u, PySem.W.mg_of KX G q, r, hv⟩
def blC (K : PySem.W.Frag) (x : Str) : Bool := match PySem.W.nsIn K mainGlobals x with
  | some none => true
  | _ => false
theorem blC_ok {K : PySem.W.Frag} {h : Heap} {mg : Str → Option Value} {x : Str} (KX : K.In h) (G : h.Ns mainGlobals mg) (e : blC K x = true) : mg x = none := by
  unfold blC at e
  split at e <;> try cases e
  rename_i q
  exact PySem.W.mg_none_of KX G q
/-! ### written dicts -/
def gaK (K : PySem.W.Frag) (x : Str) : Addr := match PySem.W.nsIn K mainGlobals x with
  | some (some (.ref a)) => a
  | _ => 0
def keyS : Key → Str
  | .inr z => z
  | _ => ⟨#[]⟩
def keysS (kds : List (Key × D)) : List Str := kds.map fun p => keyS p.1
def gdC (K : PySem.W.Frag) (p : Str × List (Key × D)) : Bool := match PySem.W.nsIn K mainGlobals p.1 with
  | some (some (.ref a)) => decide (p.2.map (·.1) = (keysS p.2).map Sum.inr) && p.2.all fun q => match q.1 with
    | .inr z => (match PySem.W.nsIn K a z with | some (some u) => relK K q.2 u | _ => false)
    | _ => false
  | _ => false
theorem ns_none {K : PySem.W.Frag} {w : World} {a : Addr} {ks : List Str} {z : Str} (h : He.dicW K a = some (He.keysIn w.params ks)) (hz : z ∉ ks) : PySem.W.nsIn K a z = some none := by
  have key : ∀ {l : List DictEntry} {ks : List Str}, l.map He.keyOf = He.keysIn w.params ks → z ∉ ks → l.find? (·.key.isStr z) = none ∧ l.any (·.refKey) = false := by
    intro l
    induction l with
    | nil => intro ks _ _; exact ⟨rfl, rfl⟩
    | cons e r ih =>
      intro ks h hz
      cases ks with
      | nil => cases h
      | cons k ks =>
        have h1 : He.keyOf e :: r.map He.keyOf = some (k, PyData.keyHash w.params k) :: He.keysIn w.params ks := h
        injection h1 with h2 h3
        obtain ⟨i1, i2⟩ := ih h3 (fun m => hz (List.mem_cons_of_mem _ m))
        unfold He.keyOf at h2
        split at h2
        · rename_i x t q
          obtain ⟨h5, h6⟩ := Prod.mk.inj (Option.some.inj h2)
          have hne : x ≠ z := fun e => hz (by rw [← e, h5]; simp)
          refine ⟨?_, ?_⟩
          · rw [List.find?_cons, q, i1]
            have : (Value.str x t).isStr z = false := by
              show (x == z) = false
              exact beq_eq_false_iff_ne.mpr hne
            rw [this]
          · rw [List.any_cons, i2, Bool.or_false]
            unfold DictEntry.refKey
            rw [q]
        · cases h2
  unfold He.dicW at h
  split at h
  · rename_i c es m sl q
    split at h
    · obtain ⟨k1, k2⟩ := key (Option.some.inj h) hz
      unfold PySem.W.nsIn
      rw [q]
      dsimp only
      rw [k1, k2]
      rfl
    · cases h
  · cases h
theorem lookK_none {kds : List (Key × D)} {z : Str} (h : p1 = kds) (hk : kds.map (·.1) = (keysS kds).map Sum.inr) (q : lookK kds (.inr z) = none) : z ∉ keysS kds := by
  intro m
  have : (Sum.inr z : Key) ∈ kds.map (·.1) := by rw [hk]; exact List.mem_map_of_mem m
  obtain ⟨p, hp, e⟩ := List.mem_map.mp this
  have q : (kds.find? fun p => decide (p.1 = .inr z)).map (·.2) = none := q
  rw [Option.map_eq_none_iff, List.find?_eq_none] at q
  exact q p hp (by simpa using e)
theorem gdC_ok {K : PySem.W.Frag} {w : World} {h : Heap} {mg : Str → Option Value} {p : Str × List (Key × D)} (KX : K.In h) (G : h.Ns mainGlobals mg) (e : gdC K p = true) (hd : He.dicW K (gaK K p.1) = some (He.keysIn w.params (keysS p.2))) : KdAt K w mg p.1 p.2 := by
  unfold gdC at e
  unfold gaK at hd
  split at e <;> try cases e
  rename_i a q
  rw [q] at hd
  obtain ⟨e1, e2⟩ := and2 e
  obtain ⟨es, n, kd⟩ := He.dicW_ok hd
  refine ⟨a, es, n, PySem.W.mg_of KX G q, kd, fun z => ?_⟩
  cases ql : lookK p.2 (.inr z) with
  | none => exact ns_none hd (lookK_none rfl (of_decide_eq_true e1) ql)
  | some d =>
    have ql : (p.2.find? fun p => decide (p.1 = .inr z)).map (·.2) = some d := ql
    obtain ⟨r, hr, e3⟩ := Option.map_eq_some_iff.mp ql
    have hm := List.mem_of_find?_eq_some hr
    have hk : r.1 = .inr z := by simpa using List.find?_some hr
    have := List.all_eq_true.mp e2 r hm
    rw [hk] at this
    dsimp only at this
    split at this <;> try cases this
    rename_i u qu
    obtain ⟨v, r1, hv⟩ := relK_ok r.2 u this
    subst e3
    exact ⟨u, v, qu, r1, hv⟩
/-! ### classes -/
def xccB (K : PySem.W.Frag) (kd : Bool) (C : Addr) : Bool := match K.lookup C with
  | some ⟨.type ty, _, .cls cd, sl⟩ => (match cd.mro, sl.toList with
    | .ref C' :: bm, [_, _, _, _, some (.builtin n), _] => ty == "type" && C' == C && n == newO kd && cd.hasDict && !cd.hasDel && refsT (tlO kd) bm
    | _, _ => false)
  | _ => false
theorem xccB_ok {K : PySem.W.Frag} {kd : Bool} {C : Addr} (h : xccB K kd C = true) (h2 : PySem.W.findIn K (.ref C) "__setattr__" = some (some (.builtin "object.__setattr__"))) (h3 : PySem.W.keepIn K (.ref C) = true) : XcC K kd C := by
  refine ⟨?_, h2, h3⟩
  unfold xccB at h
  split at h
  · rename_i ty dd cd sl ho
    split at h
    · rename_i C' bm k0 k1 k2 k3 n k5 hm hs
      simp only [Bool.and_eq_true, beq_iff_eq, Bool.not_eq_true'] at h
      obtain ⟨⟨⟨⟨⟨rfl, rfl⟩, rfl⟩, hd⟩, hdel⟩, ht⟩ := h
      obtain ⟨nm, bs, mro, ns, qn, hdd, sn, sub, ab, col, del⟩ := cd
      dsimp only at hm hd hdel
      subst hm hd hdel
      have hsl : sl = #[k0, k1, k2, k3, some (.builtin (newO kd)), k5] := by
        obtain ⟨l⟩ := sl
        simp only at hs
        rw [hs]
      subst hsl
      exact ⟨nm, qn, ns, bs, bm, sn, sub, ab, col, dd, k0, k1, k2, k3, k5, ho, ht⟩
    · cases h
  · cases h
def eqV (a : Option (Option Value)) (s : String) : Bool := match a with
  | some (some (.builtin t)) => t == s
  | _ => false
theorem eqV_ok {a : Option (Option Value)} {s : String} (h : eqV a s = true) : a = some (some (.builtin s)) := by
  unfold eqV at h
  split at h
  · rw [eq_of_beq h]
  · cases h
def nonV (a : Option (Option Value)) : Bool := match a with
  | some none => true
  | _ => false
theorem nonV_ok {a : Option (Option Value)} (h : nonV a = true) : a = some none := by
  unfold nonV at h
  split at h
  · rfl
  · cases h
def truV (a : Option Bool) : Bool := match a with
  | some b => b
  | _ => false
theorem truV_ok {a : Option Bool} (h : truV a = true) : a = some true := by
  unfold truV at h
  split at h
  · rw [h]
  · cases h
def tyV' (a : Option Value) (s : String) : Bool := match a with
  | some (.type t) => t == s
  | _ => false
theorem tyV'_ok {a : Option Value} {s : String} (h : tyV' a s = true) : a = some (.type s) := by
  unfold tyV' at h
  split at h
  · rw [eq_of_beq h]
  · cases h
def excCB (K : PySem.W.Frag) (C : Addr) : Bool := eqV (PySem.W.findIn K (.ref C) "__getattribute__") "BaseException.__getattribute__" && nonV (PySem.W.findIn K (.ref C) "__getattr__") && truV (PySem.W.subIn K (.ref C) (.type "BaseException")) && PySem.W.hasDictIn K C && eqV (PySem.W.findIn K (.ref C) "__class__") "object.__class__" &&
  eqV (PySem.W.specialIn K (.builtin "object.__class__") "__get__") "getset_descriptor.__get__" && truV (PySem.W.takesIn K (.builtin "object.__class__")) && truV (PySem.W.mroIn K C (.type "object"))
theorem excCB_ok {K : PySem.W.Frag} {C : Addr} (h : excCB K C = true) : ExcC K C := by
  obtain ⟨h, h8⟩ := and2 h
  obtain ⟨h, h7⟩ := and2 h
  obtain ⟨h, h6⟩ := and2 h
  obtain ⟨h, h5⟩ := and2 h
  obtain ⟨h, h4⟩ := and2 h
  obtain ⟨h, h3⟩ := and2 h
  obtain ⟨h1, h2⟩ := and2 h
  exact ⟨eqV_ok h1, nonV_ok h2, truV_ok h3, h4, eqV_ok h5, eqV_ok h6, truV_ok h7, truV_ok h8⟩
def baseB (K : PySem.W.Frag) (kd : Bool) (B0 : Addr) : Bool := eqV (PySem.W.specialIn K (.ref B0) "__getattribute__") "type.__getattribute__" && PySem.W.readsIn K B0 (.type "type") &&
  (match PySem.W.findCls K (.ref B0) (.type "type") "__init__" with | some (.val (.builtin t)) => t == iniO kd | _ => false)
theorem baseB_ok {K : PySem.W.Frag} {kd : Bool} {B0 : Addr} (h : baseB K kd B0 = true) : BaseC K kd (.type "type") B0 := by
  obtain ⟨h, h3⟩ := and2 h
  obtain ⟨h1, h2⟩ := and2 h
  refine ⟨eqV_ok h1, h2, ?_⟩
  split at h3
  · rename_i t q
    rw [q, eq_of_beq h3]
  · cases h3
/-- the own __init__ at fI -/
def iniB (K : PySem.W.Frag) (ci : CI) (fI : Addr) : Bool := match K.lookup fI with
  | some ⟨_, _, .func fd, _⟩ => (match fd.body with
    | .stmts body => fd.name == "__init__" && fd.globals == mainGlobals && fd.closure.isEmpty && valNone fd.defaults && fd.builtins == builtinsNs && PySem.W.codeIn K fd.code fd.qualname && argsB fd.params && fd.params.args.map (·.arg) == ("self" : Str) :: ci.fs &&
        C8.scC ("self" :: ci.fs) ("self" :: ci.fs) fd.scope && initB ci.bn ci.fs body && (("self" : Str) :: ci.fs).all (nmB fd.scope) && fd.scope.names.lookup ci.bn == some .globalImplicit && !(ci.bn == ("__debug__" : Str)) && !ci.fs.isEmpty
    | _ => false)
  | _ => false
def ownB (K : PySem.W.Frag) (ci : CI) (C : Addr) : Bool := xccB K ci.kd C && eqV (PySem.W.findIn K (.ref C) "__setattr__") "object.__setattr__" && (match PySem.W.findIn K (.ref C) "__init__" with
  | some (some (.ref fI)) => tyV' (PySem.W.typeIn K (.ref fI)) "function" && iniB K ci fI
  | _ => false) && (match PySem.W.nsIn K mainGlobals ci.bn with
  | some (some (.ref B0)) => baseB K ci.kd B0
  | _ => false)
def clsB (K : PySem.W.Frag) (ci : CI) : Bool := match PySem.W.nsIn K mainGlobals ci.name with
  | some (some (.ref C)) => PySem.W.keepIn K (.ref C) && excCB K C && xfB K C && ci.fs.all (fun f => nonV (PySem.W.findIn K (.ref C) f)) && decide (ci.fs.length ≤ 100) && (if ci.own then ownB K ci C else PySem.W.excIn K C tlVE "ValueError.__new__")
  | _ => false
theorem clsB_ok {K : PySem.W.Frag} {h : Heap} {mg : Str → Option Value} {ci : CI} (hB : ci.own = true → BindOk ("self" :: ci.fs)) (KX : K.In h) (G : h.Ns mainGlobals mg) (e : clsB K ci = true) : ∃ C, CK K mg ci C := by
  unfold clsB at e
  split at e <;> try cases e
  rename_i C qC
  obtain ⟨e, e6⟩ := and2 e
  obtain ⟨e, e5⟩ := and2 e
  obtain ⟨e, e4⟩ := and2 e
  obtain ⟨e, e3⟩ := and2 e
  obtain ⟨e1, e2⟩ := and2 e
  refine ⟨C, PySem.W.mg_of KX G qC, e1, excCB_ok e2, xfB_ok e3, fun f hf => nonV_ok (List.all_eq_true.mp e4 f hf), of_decide_eq_true e5, fun ho => ?_, fun ho => ?_⟩
  · rw [ho] at e6
    exact e6
  · rw [ho] at e6
    obtain ⟨e, e9⟩ := and2 (show ownB K ci C = true from e6)
    obtain ⟨e, e8⟩ := and2 e
    obtain ⟨e6, e7⟩ := and2 e
    split at e8 <;> try cases e8
    rename_i fI qI
    split at e9 <;> try cases e9
    rename_i B0 qB
    obtain ⟨e8, e10⟩ := and2 e8
    unfold iniB at e10
    split at e10 <;> try cases e10
    rename_i oc od fd osl q2
    split at e10 <;> try cases e10
    rename_i body q3
    obtain ⟨e, h14⟩ := and2 e10
    obtain ⟨e, h13⟩ := and2 e
    obtain ⟨e, h12⟩ := and2 e
    obtain ⟨e, h11⟩ := and2 e
    obtain ⟨e, h10⟩ := and2 e
    obtain ⟨e, h9⟩ := and2 e
    obtain ⟨e, h8⟩ := and2 e
    obtain ⟨e, h7⟩ := and2 e
    obtain ⟨e, h6⟩ := and2 e
    obtain ⟨e, h5⟩ := and2 e
    obtain ⟨e, h4⟩ := and2 e
    obtain ⟨e, h3⟩ := and2 e
    obtain ⟨h1, h2⟩ := and2 e
    obtain ⟨nm, qn, params, fb, scope, gl, clo, dfl, kw, doc, pm, an, code, ct, bl⟩ := fd
    obtain rfl : nm = "__init__" := eq_of_beq h1
    obtain rfl : gl = mainGlobals := eq_of_beq h2
    obtain rfl : clo = [] := List.isEmpty_iff.mp h3
    obtain rfl : dfl = .none := by cases dfl <;> first | rfl | exact (Bool.false_ne_true h4).elim
    obtain rfl : bl = builtinsNs := eq_of_beq h5
    obtain rfl : fb = .stmts body := q3
    obtain ⟨po, args, va, ko, kdd, ka, df⟩ := params
    have hargs : po = [] ∧ va = none ∧ ko = [] ∧ kdd = [] ∧ ka = none ∧ df = [] := by
      cases po <;> cases va <;> cases ko <;> cases kdd <;> cases ka <;> cases df <;> first | exact ⟨rfl, rfl, rfl, rfl, rfl, rfl⟩ | exact (Bool.false_ne_true h7).elim
    obtain ⟨rfl, rfl, rfl, rfl, rfl, rfl⟩ := hargs
    have hps : args.map (·.arg) = ("self" : Str) :: ci.fs := eq_of_beq h8
    refine ⟨xccB_ok e6 (eqV_ok e7) e1, fI, _, qn, ci.bn, mkDef "__init__" ⟨[], args, none, [], [], none, []⟩ body scope, .type "type", B0, qI, tyV'_ok e8, ⟨⟨oc, od, kw, doc, pm, an, code, ct, osl, rfl, q2, h6⟩, ?_⟩, C8.fnScope_by h9, h10, ?_, fun x hx => List.all_eq_true.mp h11 x hx, baseB_ok e9, eq_of_beq h12, PySem.W.mg_of KX G qB, ?_, ?_⟩
    · show (match K.lookup fI with | some ⟨_, _, .func _, _⟩ => true | some ⟨_, _, .cls _, _⟩ => PySem.W.specialIn K (.ref fI) "__call__" == some (some (.builtin "type.__call__")) | _ => false) = true
      rw [q2]
    · intro z
      rw [z] at h14
      cases h14
    · simpa using h13
    · exact Binds.all fun us hl => hB ho _ _ args body scope kw doc pm code ct an us hps hl
/-- isinstance by the table -/
def isxV (K : PySem.W.Frag) (x : Str) : Option Value := match PySem.W.nsIn K mainGlobals x with
  | some (some u) => some u
  | some none => if x == ("__name__" : Str) then none else bootBuiltins x
  | _ => none
def isxB (K : PySem.W.Frag) (t : Top) (p : Str × List Nat) : Bool := match isxV K p.1 with
  | some cv => (List.range t.P.length).all fun k => match t.P[k]? with
    | some q => (match q.cls with
      | some ci => (match PySem.W.nsIn K mainGlobals ci.name with
        | some (some (.ref C)) => (match PySem.W.kitOne K (.ref C) cv with | some b => b == p.2.contains k | none => false)
        | _ => false)
      | none => true)
    | none => true
  | none => false
theorem isxB_ok {K : PySem.W.Frag} {h : Heap} {mg : Str → Option Value} {t : Top} {p : Str × List Nat} (KX : K.In h) (G : h.Ns mainGlobals mg) (e : isxB K t p = true) :
    ∃ cv, (mg p.1 = some cv ∨ (mg p.1 = none ∧ bootBuiltins p.1 = some cv ∧ p.1 ≠ "__name__")) ∧ ∀ k q ci C, t.P[k]? = some q → q.cls = some ci → mg ci.name = some (.ref C) → PySem.W.kitOne K (.ref C) cv = some (p.2.contains k) := by
  unfold isxB at e
  split at e <;> try cases e
  rename_i cv qv
  refine ⟨cv, ?_, fun k q ci C qk hq hm => ?_⟩
  · unfold isxV at qv
    split at qv
    · rename_i u q
      cases qv
      exact .inl (PySem.W.mg_of KX G q)
    · rename_i q
      split at qv
      · cases qv
      · rename_i hn
        exact .inr ⟨PySem.W.mg_none_of KX G q, qv, fun z => hn (beq_iff_eq.mpr z)⟩
    · cases qv
  · have := List.all_eq_true.mp e k (List.mem_range.mpr (List.getElem?_eq_some_iff.mp qk).1)
    rw [qk] at this
    dsimp only at this
    rw [hq] at this
    dsimp only at this
    split at this <;> try cases this
    rename_i C' q2
    have hm' := PySem.W.mg_of KX G q2
    rw [hm] at hm'
    cases hm'
    split at this
    · rename_i b qb
      rw [qb, eq_of_beq this]
    · cases this
def fldB (K : PySem.W.Frag) (t : Top) (f : Str) : Bool := t.P.all fun q => match q.cls with
  | some ci => (match PySem.W.nsIn K mainGlobals ci.name with
    | some (some (.ref C)) => nonV (PySem.W.findIn K (.ref C) f)
    | _ => false)
  | none => true
theorem fldB_ok {K : PySem.W.Frag} {h : Heap} {mg : Str → Option Value} {t : Top} {f : Str} (KX : K.In h) (G : h.Ns mainGlobals mg) (e : fldB K t f = true) : ∀ q ∈ t.P, ∀ ci C, q.cls = some ci → mg ci.name = some (.ref C) → PySem.W.findIn K (.ref C) f = some none := fun q hq ci C hc hm => by
  have := List.all_eq_true.mp e q hq
  rw [hc] at this
  dsimp only at this
  split at this <;> try cases this
  rename_i C' q2
  have hm' := PySem.W.mg_of KX G q2
  rw [hm] at hm'
  cases hm'
  exact nonV_ok this
/-! ### all of it -/
/-- tables that are one are named alike: they are none twice -/
def tabsC (K : PySem.W.Frag) (t : Top) : Bool := decide ((tabsOf K t).map (·.1)).Nodup && (csOf K t).all fun p => PySem.W.codeHdIn K p.1 p.2 && (K.lookup p.2).isNone
def topC (t : Top) (K : PySem.W.Frag) : Bool := t.P.all (fun p => p.fr.isSome || fnB K (tabP t p) p) && t.gls.all (glC K) && bltNames.all (blC K) && t.gds.all (gdC K) && (t.P.all (fun p => (match p.cls with | some ci => clsB K ci && p.fr.isSome | none => true)) && t.isxs.all (isxB K t) && t.flds.all (fldB K t)) && tabsC K t
def sysC (g : Addr → Option Obj) : Bool := match g sysModules with
  | some ⟨.type c, _, _, _⟩ => c == "dict"
  | _ => false
def emC (K : PySem.W.Frag) (t : Top) (g : Addr → Option Obj) : Bool := (csOf K t).all fun p => match g p.2 with
  | some o => He.emptyTab o
  | none => false
abbrev AlM : Type := Bool × List (Option (List (Option (Str × Int))))
def frX (g : Addr → Option Obj) (n : Nat) : PySem.W.Frag := He.frG g (PySem.cStatics :: He.asG g n)
def obsM (n : Nat) (t : Top) (g : Addr → Option Obj) : AlM := (topC t (frX g n) && sysC g && emC (frX g n) t g, t.gds.map fun p => He.dicW (frX g n) (gaK (frX g n) p.1))
def SysOk (h : Heap) : Prop := ∃ o, h.get? sysModules = some o ∧ o.cls = .type "dict"
theorem sysC_ok {h : Heap} (e : sysC h.get? = true) : SysOk h := by
  unfold sysC at e
  split at e <;> try cases e
  rename_i c _ _ _ q
  exact ⟨_, q, by rw [eq_of_beq e]⟩
theorem emC_ok {K : PySem.W.Frag} {t : Top} {h : Heap} (e : emC K t h.get? = true) : ∀ p ∈ csOf K t, h.get? p.2 = some noTab := fun p hp => by
  have z := List.all_eq_true.mp e p hp
  split at z
  · rename_i o q
    rw [q, He.emptyTab_eq z]
  · cases z
def dicsV (t : Top) (w : World) : List (Option (List (Option (Str × Int)))) := t.gds.map fun p => some (He.keysIn w.params (keysS p.2))
def dicsK (t : Top) (K : PySem.W.Frag) : List (Option (List (Option (Str × Int)))) := t.gds.map fun p => He.dicW K (gaK K p.1)
def DicsOk (t : Top) (w : World) (K : PySem.W.Frag) : Prop := dicsK t K = dicsV t w
structure SaysM (t : Top) (w : World) (h : Heap) (K : PySem.W.Frag) : Prop where
  kin : K.In h
  top : topC t K = true
  sys : SysOk h
  dics : DicsOk t w K
  em : ∀ p ∈ csOf K t, h.get? p.2 = some noTab
def hookM (n : Nat) (t : Top) : PySem.W.Hook where
  α := AlM
  obs := fun s => obsM n t s.heap.get?
  val := fun w => (true, dicsV t w)
  says := fun w h => ∃ K : PySem.W.Frag, SaysM t w h K
  of := fun _ _ e => by
    obtain ⟨e1, e3⟩ := and2 (congrArg (fun z : AlM => z.1) e)
    obtain ⟨e1, e2⟩ := and2 e1
    exact ⟨_, He.frG_in, e1, sysC_ok e2, congrArg (fun z : AlM => z.2) e, emC_ok e3⟩
  keeps := fun _ _ _ ⟨K, z⟩ k => ⟨K, PySem.W.Frag.In.keeps z.kin k, z.top, let ⟨o, e1, e2⟩ := z.sys; ⟨o, k _ _ e1, e2⟩, z.dics, fun p hp => k _ _ (z.em p hp)⟩
def obM (n : Nat) (t : Top) (s : PySem.W.SharedT) : AlM := obsM n t (HandSHeadRun.getT s)
theorem obM_eq (n : Nat) (t : Top) (s : PySem.W.SharedT) : obM n t s = (hookM n t).obs s.abs := by
  have e : HandSHeadRun.getT s = s.abs.heap.get? := funext (HandSHeadRun.getT_eq s)
  unfold obM
  rw [e] <;> rfl
/-- how arguments bind, for each def of the table -/
structure BindsOk (t : Top) : Prop where
  b : ∀ p ∈ t.P, p.fr = none → BindOk (p.N.take p.np)
  k : ∀ p ∈ t.P, p.kw = true → BindKOk (p.N.take p.np)
  n : ∀ p ∈ t.P, p.fr ≠ none → p.cls = none → BindNOk (p.N.take p.np) ∧ p.np ≤ p.N.length
  c : ∀ p ∈ t.P, ∀ ci, p.cls = some ci → ci.own = true → BindOk ("self" :: ci.fs)
theorem nodup_names {α β : Type} : ∀ {l : List (α × β)}, (l.map (·.1)).Nodup → ∀ p ∈ l, ∀ q ∈ l, p.1 = q.1 → p.2 = q.2
  | [], _, p, hp, _, _, _ => nomatch hp
  | x :: l, h, p, hp, q, hq, e => by
    rw [List.map_cons, List.nodup_cons] at h
    by_cases e1 : p = x
    · by_cases e2 : q = x
      · rw [e1, e2]
      · have hq' := (List.mem_cons.mp hq).resolve_left e2
        have z : x.1 ∈ l.map (·.1) := List.mem_map.mpr ⟨q, hq', by rw [← e, e1]⟩
        exact absurd z h.1
    · have hp' := (List.mem_cons.mp hp).resolve_left e1
      by_cases e2 : q = x
      · have z : x.1 ∈ l.map (·.1) := List.mem_map.mpr ⟨p, hp', by rw [e, e2]⟩
        exact absurd z h.1
      · exact nodup_names h.2 p hp' q ((List.mem_cons.mp hq).resolve_left e2) e
section
variable {w : World} {K : PySem.W.Frag} {mg : Str → Option Value} {h : Heap} {t : Top}
theorem topC_ok (hB : BindsOk t) (KX : K.In h) (G : h.Ns mainGlobals mg) (e : topC t K = true) (hd : DicsOk t w K) : Left K w mg t := by
  obtain ⟨e, e5⟩ := and2 e
  obtain ⟨e, e6⟩ := and2 e
  obtain ⟨e6, e8⟩ := and2 e6
  obtain ⟨e6, e7⟩ := and2 e6
  obtain ⟨e, e4⟩ := and2 e
  obtain ⟨e, e3⟩ := and2 e
  obtain ⟨e1, e2⟩ := and2 e
  have cl : ∀ p ∈ t.P, ∀ ci, p.cls = some ci → clsB K ci = true ∧ p.fr.isSome = true := fun p hp ci hc => by
    have := List.all_eq_true.mp e6 p hp
    rw [hc] at this
    exact and2 this
  refine ⟨fun p hp hfr => fnB_ok (hB.b p hp hfr) (hB.k p hp) KX G ?_, fun p hp => glC_ok KX G (List.all_eq_true.mp e2 p hp), fun x hx => blC_ok KX G (List.all_eq_true.mp e3 x hx), fun p hp => ?_, hB.n, fun p hp hc => ?_, fun p hp ci hc => clsB_ok (hB.c p hp ci hc) KX G (cl p hp ci hc).1, fun p hp => isxB_ok KX G (List.all_eq_true.mp e7 p hp), fun f hf => fldB_ok KX G (List.all_eq_true.mp e8 f hf), nodup_names (of_decide_eq_true (and2 e5).1)⟩
  · have := List.all_eq_true.mp e1 p hp
    rw [hfr] at this
    exact this
  · refine gdC_ok KX G (List.all_eq_true.mp e4 p hp) ?_
    obtain ⟨i, hi, rfl⟩ := List.getElem_of_mem hp
    have hd : dicsK t K = dicsV t w := hd
    unfold dicsK dicsV at hd
    have := congrArg (·[i]?) hd
    simp only [List.getElem?_map, List.getElem?_eq_getElem hi] at this
    exact Option.some.inj this
  · cases hcc : p.cls with
    | none => exact absurd hcc hc
    | some ci =>
      have := (cl p hp ci hcc).2
      intro z
      rw [z] at this
      cases this
/-- the goal of the head: what is left is the run in plain Lean -/
theorem law_end {l : PySem.W.OpenLaw} {n N0 : Nat} {q : Program} {loose : List Str} {XP : (Str → Option Value) → Heap → Prop} {d : DefRec} {x : Str} {na : Nat}
    (hB : BindsOk t) {kl : Nat} {pl : FDef} (ql : t.P[kl]? = some pl) (hfr : pl.fr = none) (hcp : pl.cp = []) (hN : pl.N.take pl.np = [x]) (hnm : d.name = pl.name) (hrp : t.rp = false)
    (hn : l.most = some n) (hn2 : n ≤ sizeLine) (hdf : d.params.defaults = []) (hr : Room N0 callerA)
    (hrun : ∀ (ns : List Int), ns.length ≤ n → ∃ S', runF t.P N0 kl [.frz (ns.map D.int)] [] = .ok (.bl true) S') :
    PySem.W.WalkO q loose XP (hookM na t).says l.row.toRowW d [] (fun f vs => PySem.call f vs) := by
  refine Att.attach_call hn hdf fun w s₀ s₁ mg mb fa o pm cd doc a vs ns G Y ho hd hcd hmg hobj hints hlen hg => ?_
  obtain ⟨K, Y⟩ := Y
  have KX := Y.kin
  have L := topC_ok hB KX G.T.g Y.top Y.dics
  obtain ⟨S', hS⟩ := hrun ns hlen
  obtain ⟨f, fd, ps, a1, a2, a3, a4, a5, a6, a7⟩ := (fns_ok (Pg := l.prog) (w := w) (lo := 0) L (fun z => by rw [hrp] at z; cases z) N0).1 kl pl ql hfr
  rw [hnm, a2] at hmg
  cases hmg
  have tC : tabsC K t = true := (and2 Y.top).2
  have tH := (and2 tC).2
  have G0 : Ground0 K mg t s₁.heap := ⟨KX, G.T.g, ⟨mb, G.T.b, G.T.builtins⟩, G.T.nolimit, Y.sys, ⟨Y.em, fun p hp => Option.isNone_iff_eq_none.mp (and2 (List.all_eq_true.mp tH p hp)).2, fun p hp => PySem.W.codeHd_of_K KX (and2 (List.all_eq_true.mp tH p hp)).1⟩, G.T.bmain⟩
  have hps : ps = [x] := a5.1.trans hN
  subst hps
  have e : ({ tauOf K mg t 0 with cp := pl.cp } : Tau) = tauOf K mg t 0 := by rw [hcp]; rfl
  rw [e] at a7
  refine law_callDT G0 hg hobj hints (Nat.le_trans hlen hn2) hr a7 (fun s u hs => ?_) hS
  have := a4 s [u] hs rfl
  rw [List.append_nil] at this
  exact this
end
end MP

namespace K06
open MP PySem L2
def b0 : Sxs :=
    (.cons (.set 1 (.fn .list false (.cons (.sl false (.var 0) .non (.som (.int 63))) .nil)))
    (.cons (.ret (.lst true (.cons (.rev true (.var 1)) (.cons (.bin .add false (.fn .sum false (.cons (.lc false (.nm 2) (.seq (.var 1)) .nil (.bin .mod false (.var 2) (.int 1000033)) [2]) .nil)) (.bin .mul false (.int 6007) (.fn .len false (.cons (.var 1) .nil)))) (.cons (.int 0) .nil)))))
    .nil))
def f0 : FDef := { name := "_law_deck", N := ["_law_script", "_law_cells", "_law_cell"], np := 1, body := b0 }
def b1 : Sxs :=
    (.cons (.put (.var 0) (.int 2) (.bin .add false (.ix (.var 0) (.int 2)) (.int 1)))
    (.cons (.set 2 (.ix (.var 0) (.int 1)))
    (.cons (.ite (.cmp .ne (.ix (.var 0) (.int 0)) (.lst false .nil)) (.cons (.set 2 (.me .pop false (.ix (.var 0) (.int 0)) .nil))
    (.cons (.ite (.cmp .ge (.var 2) (.bin .pow false (.int 10) (.int 18))) (.cons (.exp (.me .append false (.ix (.var 0) (.int 0)) (.cons (.bin .fdiv false (.var 2) (.var 1)) .nil)))
    (.cons (.ret (.bin .mod false (.var 2) (.var 1)))
    .nil)) .nil)
    .nil)) .nil)
    (.cons (.set 3 (.bin .mod false (.bin .mul false (.bin .add false (.bin .add false (.bin .mod false (.var 2) (.int 2147483629)) (.bin .mul false (.int 92821) (.ix (.var 0) (.int 2)))) (.int 17)) (.int 48271)) (.int 2147483647)))
    (.cons (.set 3 (.bin .mod false (.bin .add false (.bin .add false (.bin .mul false (.var 3) (.var 3)) (.bin .mul false (.int 69621) (.ix (.var 0) (.int 2)))) (.int 29)) (.int 2147483587)))
    (.cons (.ret (.bin .mod false (.bin .fdiv false (.bin .mod false (.bin .add false (.bin .mul false (.var 3) (.var 3)) (.bin .mul false (.int 40692) (.var 3))) (.int 2147483563)) (.int 64)) (.var 1)))
    .nil))))))
def f1 : FDef := { name := "_law_draw", N := ["_law_deck_here", "_law_ways", "_law_cell", "_law_mixed"], np := 2, body := b1 }
def b2 : Sxs :=
    (.cons (.ret (.ix (.var 1) (.call 1 (.cons (.var 0) (.cons (.fn .len false (.cons (.var 1) .nil)) .nil)))))
    .nil)
def f2 : FDef := { name := "_law_pick", N := ["_law_deck_here", "_law_some"], np := 2, body := b2 }
def b3 : Sxs :=
    (.cons (.set 1 (.str "abcdefghijklmnopqrstuvwxyz"))
    (.cons (.set 2 (.ix (.lst false (.cons (.int 1) (.cons (.int 8) (.cons (.bin .add false (.int 1) (.call 1 (.cons (.var 0) (.cons (.int 8) .nil)))) (.cons (.int 2) .nil))))) (.call 1 (.cons (.var 0) (.cons (.int 4) .nil)))))
    (.cons (.set 3 (.call 1 (.cons (.var 0) (.cons (.int 26) .nil))))
    (.cons (.set 4 (.call 1 (.cons (.var 0) (.cons (.int 3) .nil))))
    (.cons (.ret (.me .join false (.str "") (.cons (.lc false (.nm 5) (.rng (.cons (.var 2) .nil)) .nil (.ix (.var 1) (.bin .mod false (.bin .add false (.var 3) (.bin .mul false (.var 4) (.var 5))) (.int 26))) [5]) .nil)))
    .nil)))))
def f3 : FDef := { name := "_law_name", N := ["_law_deck_here", "_law_letters", "_law_many", "_law_first", "_law_step", "_law_k"], np := 1, body := b3 }
def b4 : Sxs :=
    (.cons (.set 1 (.ix (.lst false (.cons (.int 1) (.cons (.int 9) (.cons (.int 10) (.cons (.bin .add false (.int 1) (.call 1 (.cons (.var 0) (.cons (.int 120) .nil)))) (.cons (.bin .pow false (.int 10) (.int 39)) .nil)))))) (.call 1 (.cons (.var 0) (.cons (.int 5) .nil)))))
    (.cons (.ret (.bin .add false (.bin .add false (.bin .add false (.bin .add false (.call 3 (.cons (.var 0) .nil)) (.str ".")) (.fn .str false (.cons (.var 1) .nil))) (.str ".")) (.call 3 (.cons (.var 0) .nil))))
    .nil))
def f4 : FDef := { name := "_law_far", N := ["_law_deck_here", "_law_number"], np := 1, body := b4 }
def b5 : Sxs :=
    (.cons (.ret (.ife (.cmp .eq (.call 1 (.cons (.var 0) (.cons (.int 3) .nil))) (.int 0)) (.call 4 (.cons (.var 0) .nil)) (.call 3 (.cons (.var 0) .nil))))
    .nil)
def f5 : FDef := { name := "_law_called", N := ["_law_deck_here"], np := 1, body := b5 }
def b6 : Sxs :=
    (.cons (.set 1 (.lst false (.cons (.isx "NoText" [12] (.var 0)) (.cons (.isx "NoItem" [13] (.var 0)) (.cons (.isx "NoTerm" [14] (.var 0)) (.cons (.isx "Taken" [15] (.var 0)) .nil))))))
    (.cons (.set 1 (.bin .add false (.var 1) (.lst false (.cons (.isx "Unjudged" [16] (.var 0)) (.cons (.isx "Holds" [17] (.var 0)) (.cons (.isx "NoRow" [18] (.var 0)) (.cons (.isx "NoEnd" [19] (.var 0)) .nil)))))))
    (.cons (.set 1 (.bin .add false (.var 1) (.lst false (.cons (.isx "Ring" [20] (.var 0)) (.cons (.isx "Lacks" [21] (.var 0)) (.cons (.isx "Unclear" [22] (.var 0)) (.cons (.isx "Idle" [23] (.var 0)) .nil)))))))
    (.cons (.set 1 (.bin .add false (.var 1) (.lst false (.cons (.isx "Broken" [24] (.var 0)) (.cons (.isx "Holed" [25] (.var 0)) (.cons (.isx "NoBack" [26] (.var 0)) (.cons (.isx "TooLong" [27] (.var 0)) .nil)))))))
    (.cons (.set 1 (.bin .add false (.var 1) (.lst false (.cons (.isx "TooGreat" [28] (.var 0)) (.cons (.isx "NoName" [29] (.var 0)) (.cons (.isx "NoSpot" [30] (.var 0)) (.cons (.isx "NoLibrary" [31] (.var 0)) .nil)))))))
    (.cons (.set 1 (.bin .add false (.var 1) (.lst false (.cons (.isx "NoHole" [32] (.var 0)) (.cons (.isx "NoPicture" [33] (.var 0)) .nil)))))
    (.cons (.set 2 (.lst false (.cons (.isx "TooMuch" [27, 28] (.var 0)) (.cons (.isx "TongueError" [12, 13, 14, 15, 16, 17, 18, 19, 20, 21, 22, 23, 24, 25, 26, 27, 28] (.var 0)) (.cons (.isx "ValueError" [12, 13, 14, 15, 16, 17, 18, 19, 20, 21, 22, 23, 24, 25, 26, 27, 28] (.var 0)) .nil)))))
    (.cons (.ret (.lst false (.cons (.var 1) (.cons (.bin .add false (.var 2) (.lst false (.cons (.isx "Absent" [29, 30, 31, 32, 33] (.var 0)) (.cons (.isx "KeyError" [29, 30, 31, 32, 33] (.var 0)) .nil)))) .nil))))
    .nil))))))))
def f6 : FDef := { name := "_law_marks", N := ["_law_e", "_law_some", "_law_above"], np := 1, body := b6 }
def b7 : Sxs :=
    (.cons (.ite (.cmp .lt (.var 0) (.int 3)) (.cons (.ret (.ix (.lst false (.cons (.mk 12 (.cons (.str "no text") .nil)) (.cons (.mk 13 (.cons (.str "no item") .nil)) (.cons (.mk 14 (.cons (.str "no term") .nil)) .nil)))) (.var 0)))
    .nil) .nil)
    (.cons (.ite (.cmp .lt (.var 0) (.int 6)) (.cons (.ret (.ix (.lst false (.cons (.mk 15 (.cons (.var 1) .nil)) (.cons (.mk 16 (.cons (.var 1) (.cons (.var 2) .nil))) (.cons (.mk 17 (.cons (.var 1) (.cons (.var 2) .nil))) .nil)))) (.bin .sub false (.var 0) (.int 3))))
    .nil) .nil)
    (.cons (.ite (.cmp .lt (.var 0) (.int 9)) (.cons (.ret (.ix (.lst false (.cons (.mk 18 (.cons (.var 1) (.cons (.var 2) .nil))) (.cons (.mk 19 (.cons (.var 1) (.cons (.var 2) .nil))) (.cons (.mk 20 (.cons (.var 1) .nil)) .nil)))) (.bin .sub false (.var 0) (.int 6))))
    .nil) .nil)
    (.cons (.ite (.cmp .lt (.var 0) (.int 12)) (.cons (.ret (.ix (.lst false (.cons (.mk 21 (.cons (.var 1) (.cons (.var 2) .nil))) (.cons (.mk 22 (.cons (.var 1) .nil)) (.cons (.mk 23 (.cons (.var 1) (.cons (.var 2) .nil))) .nil)))) (.bin .sub false (.var 0) (.int 9))))
    .nil) .nil)
    (.cons (.ite (.cmp .lt (.var 0) (.int 15)) (.cons (.ret (.ix (.lst false (.cons (.mk 24 (.cons (.var 1) .nil)) (.cons (.mk 25 (.cons (.var 1) .nil)) (.cons (.mk 26 (.cons (.var 1) .nil)) .nil)))) (.bin .sub false (.var 0) (.int 12))))
    .nil) .nil)
    (.cons (.ite (.cmp .lt (.var 0) (.int 18)) (.cons (.ret (.ix (.lst false (.cons (.mk 27 (.cons (.var 1) .nil)) (.cons (.mk 28 (.cons (.var 1) .nil)) (.cons (.mk 29 (.cons (.var 1) .nil)) .nil)))) (.bin .sub false (.var 0) (.int 15))))
    .nil) .nil)
    (.cons (.ret (.ix (.lst false (.cons (.mk 30 (.cons (.var 1) .nil)) (.cons (.mk 31 (.cons (.var 1) .nil)) (.cons (.mk 32 (.cons (.var 1) .nil)) (.cons (.mk 33 (.cons (.var 1) .nil)) .nil))))) (.bin .sub false (.var 0) (.int 18))))
    .nil)))))))
def f7 : FDef := { name := "_law_made", N := ["_law_k", "_law_one", "_law_two"], np := 3, body := b7 }
def b8 : Sxs :=
    (.cons (.ite (.cmp .lt (.var 0) (.int 3)) (.cons (.ret (.lst false .nil))
    .nil) .nil)
    (.cons (.ite (.cmp .inn (.var 0) (.tup (.cons (.int 4) (.cons (.int 18) .nil)))) (.cons (.ret (.ife (.cmp .eq (.var 0) (.int 4)) (.lst false (.cons (.fld "spot" (.var 1)) (.cons (.fld "word" (.var 1)) .nil))) (.lst false (.cons (.fld "spot" (.var 1)) .nil))))
    .nil) .nil)
    (.cons (.ite (.cmp .eq (.var 0) (.int 5)) (.cons (.ret (.lst false (.cons (.fld "shape" (.var 1)) (.cons (.fld "k" (.var 1)) .nil))))
    .nil) .nil)
    (.cons (.ite (.cmp .eq (.var 0) (.int 6)) (.cons (.ret (.lst false (.cons (.fld "row" (.var 1)) (.cons (.fld "word" (.var 1)) .nil))))
    .nil) .nil)
    (.cons (.ite (.cmp .inn (.var 0) (.tup (.cons (.int 7) (.cons (.int 11) .nil)))) (.cons (.ret (.lst false (.cons (.fld "name" (.var 1)) (.cons (.fld "row" (.var 1)) .nil))))
    .nil) .nil)
    (.cons (.ite (.cmp .eq (.var 0) (.int 8)) (.cons (.ret (.lst false (.cons (.fld "names" (.var 1)) .nil)))
    .nil) .nil)
    (.cons (.ite (.cmp .eq (.var 0) (.int 9)) (.cons (.ret (.lst false (.cons (.fld "name" (.var 1)) (.cons (.fld "arguments" (.var 1)) .nil))))
    .nil) .nil)
    (.cons (.ite (.cmp .inn (.var 0) (.tup (.cons (.int 3) (.cons (.int 10) (.cons (.int 12) (.cons (.int 13) (.cons (.int 17) .nil))))))) (.cons (.ret (.lst false (.cons (.fld "name" (.var 1)) .nil)))
    .nil) .nil)
    (.cons (.ite (.cmp .eq (.var 0) (.int 14)) (.cons (.ret (.lst false (.cons (.fld "many" (.var 1)) .nil)))
    .nil) .nil)
    (.cons (.ite (.cmp .inn (.var 0) (.tup (.cons (.int 15) (.cons (.int 16) .nil)))) (.cons (.ret (.ife (.cmp .eq (.var 0) (.int 15)) (.lst false (.cons (.fld "most" (.var 1)) .nil)) (.lst false (.cons (.fld "size" (.var 1)) .nil))))
    .nil) .nil)
    (.cons (.ite (.cmp .eq (.var 0) (.int 19)) (.cons (.ret (.lst false (.cons (.fld "lib" (.var 1)) .nil)))
    .nil) .nil)
    (.cons (.ret (.ife (.cmp .eq (.var 0) (.int 20)) (.lst false (.cons (.fld "hole" (.var 1)) .nil)) (.lst false (.cons (.fld "n" (.var 1)) .nil))))
    .nil))))))))))))
def f8 : FDef := { name := "_law_fields", N := ["_law_k", "_law_e"], np := 2, body := b8 }
def b9 : Sxs :=
    (.cons (.par [2, 3] (.tup (.cons (.call 5 (.cons (.var 0) .nil)) (.cons (.ix (.lst false (.cons (.int 0) (.cons (.int 1) (.cons (.call 1 (.cons (.var 0) (.cons (.int 1000) .nil))) (.cons (.bin .pow false (.int 10) (.int 39)) .nil))))) (.call 1 (.cons (.var 0) (.cons (.int 4) .nil)))) .nil))))
    (.cons (.set 4 (.fn .tuple false (.cons (.lc false (.nm 5) (.rng (.cons (.call 1 (.cons (.var 0) (.cons (.int 6) .nil))) .nil)) .nil (.call 1 (.cons (.var 0) (.cons (.int 5) .nil))) [5]) .nil)))
    (.cons (.set 6 (.ix (.lst false (.cons (.str "gone") (.cons (.str "around") (.cons (.str "kind") (.cons (.str "to") (.cons (.str "mark") (.cons (.str "name") (.cons (.str "many") (.cons (.str "unlike") (.cons (.str "wish") (.cons (.str "high") .nil))))))))))) (.call 1 (.cons (.var 0) (.cons (.int 10) .nil)))))
    (.cons (.ite (.cmp .inn (.var 1) (.tup (.cons (.int 4) (.cons (.int 18) .nil)))) (.cons (.ret (.tup (.cons (.var 4) (.cons (.var 6) .nil))))
    .nil) .nil)
    (.cons (.ite (.cmp .eq (.var 1) (.int 6)) (.cons (.ret (.tup (.cons (.call 1 (.cons (.var 0) (.cons (.int 8) .nil))) (.cons (.ix (.lst false (.cons (.str "gone") (.cons (.str "family") (.cons (.str "shape") (.cons (.str "many") (.cons (.str "never") (.cons (.str "unclear") .nil))))))) (.call 1 (.cons (.var 0) (.cons (.int 6) .nil)))) .nil))))
    .nil) .nil)
    (.cons (.ite (.cmp .eq (.var 1) (.int 8)) (.cons (.ret (.tup (.cons (.fn .tuple false (.cons (.lc false (.nm 5) (.rng (.cons (.bin .add false (.int 1) (.call 1 (.cons (.var 0) (.cons (.int 3) .nil)))) .nil)) .nil (.call 3 (.cons (.var 0) .nil)) [5]) .nil)) (.cons .non .nil))))
    .nil) .nil)
    (.cons (.ite (.cmp .eq (.var 1) (.int 9)) (.cons (.ret (.tup (.cons (.var 2) (.cons (.tup (.cons (.tup (.cons (.str "shape") (.cons (.str "nat") (.cons (.str "zero") (.cons (.tup .nil) .nil))))) (.cons (.tup (.cons (.str "world") (.cons (.call 1 (.cons (.var 0) (.cons (.int 9) .nil))) .nil))) .nil))) .nil))))
    .nil) .nil)
    (.cons (.ret (.ife (.cmp .inn (.var 1) (.tup (.cons (.int 14) (.cons (.int 15) (.cons (.int 16) (.cons (.int 21) .nil)))))) (.tup (.cons (.var 3) (.cons .non .nil))) (.tup (.cons (.var 2) (.cons (.call 1 (.cons (.var 0) (.cons (.int 8) .nil))) .nil)))))
    .nil))))))))
def f9 : FDef := { name := "_law_things", N := ["_law_deck_here", "_law_k", "_law_name_here", "_law_number", "_law_spot", "_law_turn", "_law_word"], np := 2, body := b9 }
def b10 : Sxs :=
    (.cons (.set 1 (.lc false (.nm 2) (.rng (.cons (.int 22) .nil)) .nil (.cmp .eq (.var 2) (.var 0)) [2]))
    (.cons (.ret (.lst false (.cons (.var 1) (.cons (.lst false (.cons (.cmp .inn (.var 0) (.tup (.cons (.int 15) (.cons (.int 16) .nil)))) (.cons (.cmp .lt (.var 0) (.int 17)) (.cons (.cmp .lt (.var 0) (.int 17)) (.cons (.cmp .gt (.var 0) (.int 16)) (.cons (.cmp .gt (.var 0) (.int 16)) .nil)))))) .nil))))
    .nil))
def f10 : FDef := { name := "_law_due_marks", N := ["_law_k", "_law_own", "_law_at"], np := 1, body := b10 }
def b11 : Sxs :=
    (.cons (.set 1 (.call 0 (.cons (.var 0) .nil)))
    (.cons (.set 2 (.lrng true (.int 22)))
    (.cons (.set 3 (.lst true .nil))
    (.cons (.forr (.nm 4) (.rng (.cons (.int 22) .nil)) (.cons (.set 5 (.me .pop false (.var 2) (.cons (.call 1 (.cons (.var 1) (.cons (.fn .len false (.cons (.var 2) .nil)) .nil))) .nil)))
    (.cons (.forr (.nm 6) (.rng (.cons (.int 2) .nil)) (.cons (.asg (.tp [7, 8] none) (.call 9 (.cons (.var 1) (.cons (.var 5) .nil))))
    (.cons (.exp (.me .append false (.var 3) (.cons (.tup (.cons (.var 5) (.cons (.var 7) (.cons (.var 8) (.cons (.call 7 (.cons (.var 5) (.cons (.var 7) (.cons (.var 8) .nil)))) .nil))))) .nil)))
    .nil)))
    .nil)))
    (.cons (.forr (.tp [5, 7, 8, 9] none) (.seq (.var 3)) (.cons (.set 10 (.ix (.lst false (.cons (.lst false .nil) (.cons (.lst false (.cons (.var 7) .nil)) (.cons (.lst false (.cons (.var 7) (.cons (.var 8) .nil))) .nil)))) (.ife (.cmp .lt (.var 5) (.int 3)) (.int 0) (.bin .add false (.int 1) (.fn .int false (.cons (.cmp .inn (.var 5) (.tup (.cons (.int 4) (.cons (.int 5) (.cons (.int 6) (.cons (.int 7) (.cons (.int 9) (.cons (.int 11) .nil)))))))) .nil))))))
    (.cons (.ite (.or (.cons (.cmp .ne (.fn .repr false (.cons (.call 8 (.cons (.var 5) (.cons (.var 9) .nil))) .nil)) (.fn .repr false (.cons (.var 10) .nil))) (.cons (.cmp .ne (.fn .repr false (.cons (.call 6 (.cons (.var 9) .nil)) .nil)) (.fn .repr false (.cons (.call 10 (.cons (.var 5) .nil)) .nil))) .nil))) (.cons (.ret (.bl false))
    .nil) .nil)
    .nil)))
    (.cons (.ret (.bl true))
    .nil))))))
def f11 : FDef := { name := "law", N := ["_law_script", "_law_deck_here", "_law_left", "_law_ones", "_law_turn", "_law_k", "_law_again", "_law_one", "_law_two", "_law_e", "_law_due"], np := 1, body := b11 }
def f12 : FDef := { name := "NoText", N := [], np := 0, body := .nil, fr := some [], cls := some { name := "NoText", kd := false, own := false, fs := [] } }
def f13 : FDef := { name := "NoItem", N := [], np := 0, body := .nil, fr := some [], cls := some { name := "NoItem", kd := false, own := false, fs := [] } }
def f14 : FDef := { name := "NoTerm", N := [], np := 0, body := .nil, fr := some [], cls := some { name := "NoTerm", kd := false, own := false, fs := [] } }
def f15 : FDef := { name := "Taken", N := [], np := 0, body := .nil, fr := some [], cls := some { name := "Taken", kd := false, own := true, fs := ["name"], bn := "TongueError" } }
def f16 : FDef := { name := "Unjudged", N := [], np := 0, body := .nil, fr := some [], cls := some { name := "Unjudged", kd := false, own := true, fs := ["spot", "word"], bn := "TongueError" } }
def f17 : FDef := { name := "Holds", N := [], np := 0, body := .nil, fr := some [], cls := some { name := "Holds", kd := false, own := true, fs := ["shape", "k"], bn := "TongueError" } }
def f18 : FDef := { name := "NoRow", N := [], np := 0, body := .nil, fr := some [], cls := some { name := "NoRow", kd := false, own := true, fs := ["row", "word"], bn := "TongueError" } }
def f19 : FDef := { name := "NoEnd", N := [], np := 0, body := .nil, fr := some [], cls := some { name := "NoEnd", kd := false, own := true, fs := ["name", "row"], bn := "TongueError" } }
def f20 : FDef := { name := "Ring", N := [], np := 0, body := .nil, fr := some [], cls := some { name := "Ring", kd := false, own := true, fs := ["names"], bn := "TongueError" } }
def f21 : FDef := { name := "Lacks", N := [], np := 0, body := .nil, fr := some [], cls := some { name := "Lacks", kd := false, own := true, fs := ["name", "arguments"], bn := "TongueError" } }
def f22 : FDef := { name := "Unclear", N := [], np := 0, body := .nil, fr := some [], cls := some { name := "Unclear", kd := false, own := true, fs := ["name"], bn := "TongueError" } }
def f23 : FDef := { name := "Idle", N := [], np := 0, body := .nil, fr := some [], cls := some { name := "Idle", kd := false, own := true, fs := ["name", "row"], bn := "TongueError" } }
def f24 : FDef := { name := "Broken", N := [], np := 0, body := .nil, fr := some [], cls := some { name := "Broken", kd := false, own := true, fs := ["name"], bn := "TongueError" } }
def f25 : FDef := { name := "Holed", N := [], np := 0, body := .nil, fr := some [], cls := some { name := "Holed", kd := false, own := true, fs := ["name"], bn := "TongueError" } }
def f26 : FDef := { name := "NoBack", N := [], np := 0, body := .nil, fr := some [], cls := some { name := "NoBack", kd := false, own := true, fs := ["many"], bn := "TongueError" } }
def f27 : FDef := { name := "TooLong", N := [], np := 0, body := .nil, fr := some [], cls := some { name := "TooLong", kd := false, own := true, fs := ["most"], bn := "TooMuch" } }
def f28 : FDef := { name := "TooGreat", N := [], np := 0, body := .nil, fr := some [], cls := some { name := "TooGreat", kd := false, own := true, fs := ["size"], bn := "TooMuch" } }
def f29 : FDef := { name := "NoName", N := [], np := 0, body := .nil, fr := some [], cls := some { name := "NoName", kd := true, own := true, fs := ["name"], bn := "Absent" } }
def f30 : FDef := { name := "NoSpot", N := [], np := 0, body := .nil, fr := some [], cls := some { name := "NoSpot", kd := true, own := true, fs := ["spot"], bn := "Absent" } }
def f31 : FDef := { name := "NoLibrary", N := [], np := 0, body := .nil, fr := some [], cls := some { name := "NoLibrary", kd := true, own := true, fs := ["lib"], bn := "Absent" } }
def f32 : FDef := { name := "NoHole", N := [], np := 0, body := .nil, fr := some [], cls := some { name := "NoHole", kd := true, own := true, fs := ["hole"], bn := "Absent" } }
def f33 : FDef := { name := "NoPicture", N := [], np := 0, body := .nil, fr := some [], cls := some { name := "NoPicture", kd := true, own := true, fs := ["n"], bn := "Absent" } }
def P : List FDef := [f0, f1, f2, f3, f4, f5, f6, f7, f8, f9, f10, f11, f12, f13, f14, f15, f16, f17, f18, f19, f20, f21, f22, f23, f24, f25, f26, f27, f28, f29, f30, f31, f32, f33]
def gls : List (Str × D) := []
def gds : List (Str × List (Key × D)) := []
def top : Top := { P := P, gls := gls, rp := false, gds := gds, isxs := [("KeyError", [29, 30, 31, 32, 33]), ("Absent", [29, 30, 31, 32, 33]), ("ValueError", [12, 13, 14, 15, 16, 17, 18, 19, 20, 21, 22, 23, 24, 25, 26, 27, 28]), ("TongueError", [12, 13, 14, 15, 16, 17, 18, 19, 20, 21, 22, 23, 24, 25, 26, 27, 28]), ("TooMuch", [27, 28]), ("NoPicture", [33]), ("NoHole", [32]), ("NoLibrary", [31]), ("NoSpot", [30]), ("NoName", [29]), ("TooGreat", [28]), ("TooLong", [27]), ("NoBack", [26]), ("Holed", [25]), ("Broken", [24]), ("Idle", [23]), ("Unclear", [22]), ("Lacks", [21]), ("Ring", [20]), ("NoEnd", [19]), ("NoRow", [18]), ("Holds", [17]), ("Unjudged", [16]), ("Taken", [15]), ("NoTerm", [14]), ("NoItem", [13]), ("NoText", [12])], flds := ["hole", "n", "lib", "most", "size", "many", "name", "arguments", "names", "row", "word", "k", "shape", "spot"] }
theorem d0 : BindOk ["_law_script"] := by
  intro x q args body scope kV doc pm cdv ct an us ha hl
  match args, us, ha, hl with
  | [⟨_, _, _⟩], [_], ha, _ => cases ha; rfl
theorem d1 : BindOk ["_law_deck_here", "_law_ways"] := by
  intro x q args body scope kV doc pm cdv ct an us ha hl
  match args, us, ha, hl with
  | [⟨_, _, _⟩, ⟨_, _, _⟩], [_, _], ha, _ => cases ha; rfl
theorem d2 : BindOk ["_law_deck_here", "_law_some"] := by
  intro x q args body scope kV doc pm cdv ct an us ha hl
  match args, us, ha, hl with
  | [⟨_, _, _⟩, ⟨_, _, _⟩], [_, _], ha, _ => cases ha; rfl
theorem d3 : BindOk ["_law_deck_here"] := by
  intro x q args body scope kV doc pm cdv ct an us ha hl
  match args, us, ha, hl with
  | [⟨_, _, _⟩], [_], ha, _ => cases ha; rfl
theorem d4 : BindOk ["_law_e"] := by
  intro x q args body scope kV doc pm cdv ct an us ha hl
  match args, us, ha, hl with
  | [⟨_, _, _⟩], [_], ha, _ => cases ha; rfl
theorem d5 : BindOk ["_law_k", "_law_one", "_law_two"] := by
  intro x q args body scope kV doc pm cdv ct an us ha hl
  match args, us, ha, hl with
  | [⟨_, _, _⟩, ⟨_, _, _⟩, ⟨_, _, _⟩], [_, _, _], ha, _ => cases ha; rfl
theorem d6 : BindOk ["_law_k", "_law_e"] := by
  intro x q args body scope kV doc pm cdv ct an us ha hl
  match args, us, ha, hl with
  | [⟨_, _, _⟩, ⟨_, _, _⟩], [_, _], ha, _ => cases ha; rfl
theorem d7 : BindOk ["_law_deck_here", "_law_k"] := by
  intro x q args body scope kV doc pm cdv ct an us ha hl
  match args, us, ha, hl with
  | [⟨_, _, _⟩, ⟨_, _, _⟩], [_, _], ha, _ => cases ha; rfl
theorem d8 : BindOk ["_law_k"] := by
  intro x q args body scope kV doc pm cdv ct an us ha hl
  match args, us, ha, hl with
  | [⟨_, _, _⟩], [_], ha, _ => cases ha; rfl
theorem dc0 : BindOk ["self", "name"] := by
  intro x q args body scope kV doc pm cdv ct an us ha hl
  match args, us, ha, hl with
  | [⟨_, _, _⟩, ⟨_, _, _⟩], [_, _], ha, _ => cases ha; rfl
theorem dc1 : BindOk ["self", "spot", "word"] := by
  intro x q args body scope kV doc pm cdv ct an us ha hl
  match args, us, ha, hl with
  | [⟨_, _, _⟩, ⟨_, _, _⟩, ⟨_, _, _⟩], [_, _, _], ha, _ => cases ha; rfl
theorem dc2 : BindOk ["self", "shape", "k"] := by
  intro x q args body scope kV doc pm cdv ct an us ha hl
  match args, us, ha, hl with
  | [⟨_, _, _⟩, ⟨_, _, _⟩, ⟨_, _, _⟩], [_, _, _], ha, _ => cases ha; rfl
theorem dc3 : BindOk ["self", "row", "word"] := by
  intro x q args body scope kV doc pm cdv ct an us ha hl
  match args, us, ha, hl with
  | [⟨_, _, _⟩, ⟨_, _, _⟩, ⟨_, _, _⟩], [_, _, _], ha, _ => cases ha; rfl
theorem dc4 : BindOk ["self", "name", "row"] := by
  intro x q args body scope kV doc pm cdv ct an us ha hl
  match args, us, ha, hl with
  | [⟨_, _, _⟩, ⟨_, _, _⟩, ⟨_, _, _⟩], [_, _, _], ha, _ => cases ha; rfl
theorem dc5 : BindOk ["self", "names"] := by
  intro x q args body scope kV doc pm cdv ct an us ha hl
  match args, us, ha, hl with
  | [⟨_, _, _⟩, ⟨_, _, _⟩], [_, _], ha, _ => cases ha; rfl
theorem dc6 : BindOk ["self", "name", "arguments"] := by
  intro x q args body scope kV doc pm cdv ct an us ha hl
  match args, us, ha, hl with
  | [⟨_, _, _⟩, ⟨_, _, _⟩, ⟨_, _, _⟩], [_, _, _], ha, _ => cases ha; rfl
theorem dc7 : BindOk ["self", "many"] := by
  intro x q args body scope kV doc pm cdv ct an us ha hl
  match args, us, ha, hl with
  | [⟨_, _, _⟩, ⟨_, _, _⟩], [_, _], ha, _ => cases ha; rfl
theorem dc8 : BindOk ["self", "most"] := by
  intro x q args body scope kV doc pm cdv ct an us ha hl
  match args, us, ha, hl with
  | [⟨_, _, _⟩, ⟨_, _, _⟩], [_, _], ha, _ => cases ha; rfl
theorem dc9 : BindOk ["self", "size"] := by
  intro x q args body scope kV doc pm cdv ct an us ha hl
  match args, us, ha, hl with
  | [⟨_, _, _⟩, ⟨_, _, _⟩], [_, _], ha, _ => cases ha; rfl
theorem dc10 : BindOk ["self", "spot"] := by
  intro x q args body scope kV doc pm cdv ct an us ha hl
  match args, us, ha, hl with
  | [⟨_, _, _⟩, ⟨_, _, _⟩], [_, _], ha, _ => cases ha; rfl
theorem dc11 : BindOk ["self", "lib"] := by
  intro x q args body scope kV doc pm cdv ct an us ha hl
  match args, us, ha, hl with
  | [⟨_, _, _⟩, ⟨_, _, _⟩], [_, _], ha, _ => cases ha; rfl
theorem dc12 : BindOk ["self", "hole"] := by
  intro x q args body scope kV doc pm cdv ct an us ha hl
  match args, us, ha, hl with
  | [⟨_, _, _⟩, ⟨_, _, _⟩], [_, _], ha, _ => cases ha; rfl
theorem dc13 : BindOk ["self", "n"] := by
  intro x q args body scope kV doc pm cdv ct an us ha hl
  match args, us, ha, hl with
  | [⟨_, _, _⟩, ⟨_, _, _⟩], [_, _], ha, _ => cases ha; rfl
theorem binds : BindsOk top := by
  refine ⟨fun p hp h => ?_, fun p hp h => ?_, fun p hp h hc => ?_, fun p hp ci hc ho => ?_⟩
  · simp only [top, P, List.mem_cons, List.not_mem_nil, or_false] at hp
    rcases hp with rfl | rfl | rfl | rfl | rfl | rfl | rfl | rfl | rfl | rfl | rfl | rfl | rfl | rfl | rfl | rfl | rfl | rfl | rfl | rfl | rfl | rfl | rfl | rfl | rfl | rfl | rfl | rfl | rfl | rfl | rfl | rfl | rfl | rfl
    · exact d0
    · exact d1
    · exact d2
    · exact d3
    · exact d3
    · exact d3
    · exact d4
    · exact d5
    · exact d6
    · exact d7
    · exact d8
    · exact d0
    · exact absurd h (by decide)
    · exact absurd h (by decide)
    · exact absurd h (by decide)
    · exact absurd h (by decide)
    · exact absurd h (by decide)
    · exact absurd h (by decide)
    · exact absurd h (by decide)
    · exact absurd h (by decide)
    · exact absurd h (by decide)
    · exact absurd h (by decide)
    · exact absurd h (by decide)
    · exact absurd h (by decide)
    · exact absurd h (by decide)
    · exact absurd h (by decide)
    · exact absurd h (by decide)
    · exact absurd h (by decide)
    · exact absurd h (by decide)
    · exact absurd h (by decide)
    · exact absurd h (by decide)
    · exact absurd h (by decide)
    · exact absurd h (by decide)
    · exact absurd h (by decide)
  · simp only [top, P, List.mem_cons, List.not_mem_nil, or_false] at hp
    rcases hp with rfl | rfl | rfl | rfl | rfl | rfl | rfl | rfl | rfl | rfl | rfl | rfl | rfl | rfl | rfl | rfl | rfl | rfl | rfl | rfl | rfl | rfl | rfl | rfl | rfl | rfl | rfl | rfl | rfl | rfl | rfl | rfl | rfl | rfl
    · exact absurd h (by decide)
    · exact absurd h (by decide)
    · exact absurd h (by decide)
    · exact absurd h (by decide)
    · exact absurd h (by decide)
    · exact absurd h (by decide)
    · exact absurd h (by decide)
    · exact absurd h (by decide)
    · exact absurd h (by decide)
    · exact absurd h (by decide)
    · exact absurd h (by decide)
    · exact absurd h (by decide)
    · exact absurd h (by decide)
    · exact absurd h (by decide)
    · exact absurd h (by decide)
    · exact absurd h (by decide)
    · exact absurd h (by decide)
    · exact absurd h (by decide)
    · exact absurd h (by decide)
    · exact absurd h (by decide)
    · exact absurd h (by decide)
    · exact absurd h (by decide)
    · exact absurd h (by decide)
    · exact absurd h (by decide)
    · exact absurd h (by decide)
    · exact absurd h (by decide)
    · exact absurd h (by decide)
    · exact absurd h (by decide)
    · exact absurd h (by decide)
    · exact absurd h (by decide)
    · exact absurd h (by decide)
    · exact absurd h (by decide)
    · exact absurd h (by decide)
    · exact absurd h (by decide)
  · simp only [top, P, List.mem_cons, List.not_mem_nil, or_false] at hp
    rcases hp with rfl | rfl | rfl | rfl | rfl | rfl | rfl | rfl | rfl | rfl | rfl | rfl | rfl | rfl | rfl | rfl | rfl | rfl | rfl | rfl | rfl | rfl | rfl | rfl | rfl | rfl | rfl | rfl | rfl | rfl | rfl | rfl | rfl | rfl
    · exact absurd rfl h
    · exact absurd rfl h
    · exact absurd rfl h
    · exact absurd rfl h
    · exact absurd rfl h
    · exact absurd rfl h
    · exact absurd rfl h
    · exact absurd rfl h
    · exact absurd rfl h
    · exact absurd rfl h
    · exact absurd rfl h
    · exact absurd rfl h
    · cases hc
    · cases hc
    · cases hc
    · cases hc
    · cases hc
    · cases hc
    · cases hc
    · cases hc
    · cases hc
    · cases hc
    · cases hc
    · cases hc
    · cases hc
    · cases hc
    · cases hc
    · cases hc
    · cases hc
    · cases hc
    · cases hc
    · cases hc
    · cases hc
    · cases hc
  · simp only [top, P, List.mem_cons, List.not_mem_nil, or_false] at hp
    rcases hp with rfl | rfl | rfl | rfl | rfl | rfl | rfl | rfl | rfl | rfl | rfl | rfl | rfl | rfl | rfl | rfl | rfl | rfl | rfl | rfl | rfl | rfl | rfl | rfl | rfl | rfl | rfl | rfl | rfl | rfl | rfl | rfl | rfl | rfl
    · cases hc
    · cases hc
    · cases hc
    · cases hc
    · cases hc
    · cases hc
    · cases hc
    · cases hc
    · cases hc
    · cases hc
    · cases hc
    · cases hc
    · cases hc; cases ho
    · cases hc; cases ho
    · cases hc; cases ho
    · cases hc; exact dc0
    · cases hc; exact dc1
    · cases hc; exact dc2
    · cases hc; exact dc3
    · cases hc; exact dc4
    · cases hc; exact dc5
    · cases hc; exact dc6
    · cases hc; exact dc0
    · cases hc; exact dc4
    · cases hc; exact dc0
    · cases hc; exact dc0
    · cases hc; exact dc7
    · cases hc; exact dc8
    · cases hc; exact dc9
    · cases hc; exact dc0
    · cases hc; exact dc10
    · cases hc; exact dc11
    · cases hc; exact dc12
    · cases hc; exact dc13
end K06

namespace K06
open MP PySem L2 PyProof.Rows
def loose : List PySem.Str := (["TongueError", "NoText", "NoItem", "NoTerm", "Taken", "Unjudged", "Holds", "NoRow", "NoEnd", "Ring", "Lacks", "Unclear", "Idle", "Broken", "Holed", "NoBack", "TooMuch", "TooLong", "TooGreat", "Absent", "NoName", "NoSpot", "NoLibrary", "NoHole", "NoPicture", "_law_deck", "_law_draw", "_law_pick", "_law_name", "_law_far"] : List PySem.Str) ++ (["_law_called", "_law_marks", "_law_made", "_law_fields", "_law_things", "_law_due_marks"] : List PySem.Str)
abbrev R : PySem.W.OpenRow := PySem.W.OpenLaw.row PySem.Challenge.rw_kindsbyworth_k06_refusals_made
theorem run0 (w : World) : HandSHeadRun.RunEq R (PySem.W.view R.prog [38]) (hookM 5 top) (obM 5 top) 9000 loose (w.withFollow "special-get-raises" false) := fun os => by kernel_rfl
theorem run1 (w : World) : HandSHeadRun.RunEq R (PySem.W.view R.prog [38]) (hookM 5 top) (obM 5 top) 9000 loose (w.withFollow "special-get-raises" true) := fun os => by kernel_rfl
theorem run (w : World) : HandSHeadRun.RunEq R (PySem.W.view R.prog [38]) (hookM 5 top) (obM 5 top) 9000 loose w :=
  PySem.W.byRow2 "special-get-raises" (P := HandSHeadRun.RunEq R (PySem.W.view R.prog [38]) (hookM 5 top) (obM 5 top) 9000 loose) run0 run1 w
end K06

/-! MP26: plain lemmas about the interpreter. -/
namespace MP
open PySem
theorem lcF_pure {ga : D → Env → M Env} {gt : Env → M Bool} {ge : Env → M D} {ρw : Env} {S : Sto} {xs : List D} {t : D → Bool} {e : D → D}
    (h : ∀ x ∈ xs, ∃ ρ1, ga x ρw S = .ok ρ1 S ∧ gt ρ1 S = .ok (t x) S ∧ (t x = true → ge ρ1 S = .ok (e x) S)) : ∀ (k i : Nat) (acc : List D), i ≤ xs.length → xs.length < i + k → acc.length + (xs.length - i) ≤ SL →
    lcF (.fix xs) ga gt ge ρw k i acc S = .ok (acc ++ ((xs.drop i).filter t).map e) S
  | 0, i, acc, h0, h1, _ => by omega
  | k + 1, i, acc, h0, h1, h2 => by
    unfold lcF
    show (match (some xs[i]? : Option (Option D)) with | none => _ | some none => _ | some (some d) => _) = _
    by_cases hi : i < xs.length
    · rw [List.getElem?_eq_getElem hi, List.drop_eq_getElem_cons hi]
      obtain ⟨ρ1, e1, e2, e3⟩ := h xs[i] (List.getElem_mem hi)
      dsimp only
      rw [bind_run, e1]
      dsimp only
      rw [bind_run, e2]
      dsimp only
      cases q : t xs[i] with
      | true =>
        rw [if_pos rfl, bind_run, e3 q]
        dsimp only
        rw [if_pos (by omega), lcF_pure h k (i + 1) (acc ++ [e xs[i]]) hi (by omega) (by rw [List.length_append, List.length_singleton]; omega), List.filter_cons_of_pos q]
        simp
      | false =>
        rw [if_neg Bool.false_ne_true, lcF_pure h k (i + 1) acc hi (by omega) (by omega), List.filter_cons_of_neg (by rw [q]; exact Bool.false_ne_true)]
    · rw [List.getElem?_eq_none (by omega), List.drop_eq_nil_of_le (by omega)]
      simp
theorem lcS_pure {ga : D → Env → M Env} {gt : Env → M Bool} {ge : Env → M D} {ρw : Env} {S : Sto} {xs : List D} {t : D → Bool} {e : D → D}
    (h : ∀ x ∈ xs, ∃ ρ1, ga x ρw S = .ok ρ1 S ∧ gt ρ1 S = .ok (t x) S ∧ (t x = true → ge ρ1 S = .ok (e x) S)) (hl : xs.length ≤ SL) :
    lcS false ga gt ge ρw (.fix xs) S = .ok (.lst ((xs.filter t).map e)) S := by
  unfold lcS
  rw [bind_run, lcF_pure h _ 0 [] (Nat.zero_le _) (by simp [Src.len]) (by simpa using hl)]
  simp [newL]
end MP

/-! MP27: the equations of the interpreter. -/
namespace MP
open PySem
section
variable (φ : Nat → List D → M D)
@[simp] theorem evE_non {ρ : Env} : evE φ (Ex.non) ρ = (pure .non : M D) := (rfl)
@[simp] theorem evE_bl {ρ : Env} {b} : evE φ (Ex.bl b) ρ = (pure (.bl b) : M D) := (rfl)
@[simp] theorem evE_int {ρ : Env} {i} : evE φ (Ex.int i) ρ = (pure (.int i) : M D) := (rfl)
@[simp] theorem evE_str {ρ : Env} {x} : evE φ (Ex.str x) ρ = (pure (.str x) : M D) := (rfl)
@[simp] theorem evE_neg {ρ : Env} {i} : evE φ (Ex.neg i) ρ = (pure (.int (-i)) : M D) := (rfl)
@[simp] theorem evE_var {ρ : Env} {i} : evE φ (Ex.var i) ρ = (getV ρ i : M D) := (rfl)
@[simp] theorem evE_glb {ρ : Env} {x0 d} : evE φ (Ex.glb x0 d) ρ = (pure d : M D) := (rfl)
@[simp] theorem evE_bin {ρ : Env} {o m a b} : evE φ (Ex.bin o m a b) ρ = (evE φ a ρ >>= fun d => evE φ b ρ >>= fun e => o.ev m d e : M D) := (rfl)
@[simp] theorem evE_cmp {ρ : Env} {o a b} : evE φ (Ex.cmp o a b) ρ = (evE φ a ρ >>= fun d => evE φ b ρ >>= fun e => o.ev d e : M D) := (rfl)
@[simp] theorem evE_chn {ρ : Env} {o p a b c} : evE φ (Ex.chn o p a b c) ρ = (evE φ a ρ >>= fun d => evE φ b ρ >>= fun e => o.ev d e >>= fun z => asB z >>= fun t => if t = true then evE φ c ρ >>= fun e' => p.ev e e' else pure (.bl false) : M D) := (rfl)
@[simp] theorem evE_not {ρ : Env} {a} : evE φ (Ex.not a) ρ = (evE φ a ρ >>= fun d => asB d >>= fun b => pure (.bl (!b)) : M D) := (rfl)
@[simp] theorem evE_and {ρ : Env} {a r} : evE φ (Ex.and a r) ρ = (evE φ a ρ >>= fun d => asB d >>= fun t => if t = true then evE φ r ρ else pure (.bl false) : M D) := (rfl)
@[simp] theorem evE_or {ρ : Env} {a r} : evE φ (Ex.or a r) ρ = (evE φ a ρ >>= fun d => asB d >>= fun t => if t = true then pure (.bl true) else evE φ r ρ : M D) := (rfl)
@[simp] theorem evE_one {ρ : Env} {a} : evE φ (Ex.one a) ρ = (evE φ a ρ : M D) := (rfl)
@[simp] theorem evE_ife {ρ : Env} {t a b} : evE φ (Ex.ife t a b) ρ = (evT φ t ρ >>= fun c => if c = true then evE φ a ρ else evE φ b ρ : M D) := (rfl)
@[simp] theorem evE_ix {ρ : Env} {a b} : evE φ (Ex.ix a b) ρ = (evE φ a ρ >>= fun d => evE φ b ρ >>= fun e => ixD d e : M D) := (rfl)
@[simp] theorem evE_sl {ρ : Env} {m a lo hi} : evE φ (Ex.sl m a lo hi) ρ = (evE φ a ρ >>= fun d => evO φ lo ρ >>= fun l => evO φ hi ρ >>= fun h => sliceE m d l h : M D) := (rfl)
@[simp] theorem evE_rev {ρ : Env} {m a} : evE φ (Ex.rev m a) ρ = (evE φ a ρ >>= revE m : M D) := (rfl)
@[simp] theorem evE_tup {ρ : Env} {es} : evE φ (Ex.tup es) ρ = (evL φ es ρ >>= fun ds => pure (.tup ds) : M D) := (rfl)
@[simp] theorem evE_lst {ρ : Env} {m es} : evE φ (Ex.lst m es) ρ = (evL φ es ρ >>= fun ds => newL m ds : M D) := (rfl)
@[simp] theorem evE_dic0 {ρ : Env} {m} : evE φ (Ex.dic0 m) ρ = (newD m [] : M D) := (rfl)
@[simp] theorem evE_dic1 {ρ : Env} {k i} : evE φ (Ex.dic1 k i) ρ = (getV ρ i >>= fun d => pure (.dic [(.inl k, d)]) : M D) := (rfl)
@[simp] theorem evE_dicC {ρ : Env} {m ps} : evE φ (Ex.dicC m ps) ρ = (newD m (mergeD [] (ps.map fun p => (p.1, keyC p.2))) : M D) := (rfl)
@[simp] theorem evE_gin {ρ : Env} {neg x1 kds a} : evE φ (Ex.gin neg x1 kds a) ρ = (evE φ a ρ >>= ginD neg kds : M D) := (rfl)
@[simp] theorem evE_gix {ρ : Env} {x0 kds a} : evE φ (Ex.gix x0 kds a) ρ = (evE φ a ρ >>= gixD kds : M D) := (rfl)
@[simp] theorem evE_fn {ρ : Env} {f m es} : evE φ (Ex.fn f m es) ρ = (evL φ es ρ >>= f.ev m : M D) := (rfl)
@[simp] theorem evE_isi {ρ : Env} {t a} : evE φ (Ex.isi t a) ρ = (evE φ a ρ >>= isinstD t : M D) := (rfl)
@[simp] theorem evE_me {ρ : Env} {f m o es} : evE φ (Ex.me f m o es) ρ = (evE φ o ρ >>= fun d => f.rc d >>= fun _ => evL φ es ρ >>= fun ds => f.ev m d ds : M D) := (rfl)
@[simp] theorem evE_repl {ρ : Env} {y z o} : evE φ (Ex.repl y z o) ρ = (evE φ o ρ >>= replD y z : M D) := (rfl)
@[simp] theorem evE_call {ρ : Env} {k es} : evE φ (Ex.call k es) ρ = (evL φ es ρ >>= φ k : M D) := (rfl)
@[simp] theorem evE_lc {ρ : Env} {m tg it ifs elt own} : evE φ (Ex.lc m tg it ifs elt own) ρ = (evI φ it ρ >>= lcS m tg.ev (evA φ ifs) (evE φ elt) (wipeE ρ own) : M D) := (rfl)
@[simp] theorem evO_non {ρ : Env} : evO φ (Ox.non) ρ = (pure none : M (Option Int)) := (rfl)
@[simp] theorem evO_som {ρ : Env} {e} : evO φ (Ox.som e) ρ = (evE φ e ρ >>= asI : M (Option Int)) := (rfl)
@[simp] theorem evL_nil {ρ : Env} : evL φ (Exs.nil) ρ = (pure [] : M (List D)) := (rfl)
@[simp] theorem evL_cons {ρ : Env} {e r} : evL φ (Exs.cons e r) ρ = (evE φ e ρ >>= fun d => evL φ r ρ >>= fun ds => pure (d :: ds) : M (List D)) := (rfl)
@[simp] theorem evT_cmp {ρ : Env} {o a b} : evT φ (Tx.cmp o a b) ρ = (evE φ a ρ >>= fun d => evE φ b ρ >>= fun e => o.ev d e >>= asB : M Bool) := (rfl)
@[simp] theorem evT_chn {ρ : Env} {o p a b c} : evT φ (Tx.chn o p a b c) ρ = (evE φ a ρ >>= fun d => evE φ b ρ >>= fun e => o.ev d e >>= fun z => asB z >>= fun t => if t = true then evE φ c ρ >>= fun e' => p.ev e e' >>= asB else pure false : M Bool) := (rfl)
@[simp] theorem evT_not {ρ : Env} {t} : evT φ (Tx.not t) ρ = (evT φ t ρ >>= fun b => pure (!b) : M Bool) := (rfl)
@[simp] theorem evT_and {ρ : Env} {ts} : evT φ (Tx.and ts) ρ = (evA φ ts ρ : M Bool) := (rfl)
@[simp] theorem evT_or {ρ : Env} {ts} : evT φ (Tx.or ts) ρ = (evOr φ ts ρ : M Bool) := (rfl)
@[simp] theorem evT_gin {ρ : Env} {neg x1 kds a} : evT φ (Tx.gin neg x1 kds a) ρ = (evE φ a ρ >>= fun d => ginD neg kds d >>= asB : M Bool) := (rfl)
@[simp] theorem evT_val {ρ : Env} {e} : evT φ (Tx.val e) ρ = (evE φ e ρ >>= truD : M Bool) := (rfl)
@[simp] theorem evA_nil {ρ : Env} : evA φ (Txs.nil) ρ = (pure true : M Bool) := (rfl)
@[simp] theorem evA_cons {ρ : Env} {t r} : evA φ (Txs.cons t r) ρ = (evT φ t ρ >>= fun c => if c = true then evA φ r ρ else pure false : M Bool) := (rfl)
@[simp] theorem evOr_nil {ρ : Env} : evOr φ (Txs.nil) ρ = (pure false : M Bool) := (rfl)
@[simp] theorem evOr_cons {ρ : Env} {t r} : evOr φ (Txs.cons t r) ρ = (evT φ t ρ >>= fun c => if c = true then pure true else evOr φ r ρ : M Bool) := (rfl)
@[simp] theorem evI_seq {ρ : Env} {e} : evI φ (Ix.seq e) ρ = (evE φ e ρ >>= seqSrc : M Src) := (rfl)
@[simp] theorem evI_rng {ρ : Env} {es} : evI φ (Ix.rng es) ρ = (evL φ es ρ >>= rngSrc : M Src) := (rfl)
@[simp] theorem evI_enu {ρ : Env} {es} : evI φ (Ix.enu es) ρ = (evL φ es ρ >>= enuL : M Src) := (rfl)
@[simp] theorem evS_pass {ρ : Env} : evS φ (Sx.pass) ρ = (pure (.next ρ) : M Fl) := (rfl)
@[simp] theorem evS_brk {ρ : Env} : evS φ (Sx.brk) ρ = (pure (.brk ρ) : M Fl) := (rfl)
@[simp] theorem evS_cont {ρ : Env} : evS φ (Sx.cont) ρ = (pure (.cont ρ) : M Fl) := (rfl)
@[simp] theorem evS_dead {ρ : Env} : evS φ (Sx.dead) ρ = (M.fail : M Fl) := (rfl)
@[simp] theorem evS_ret {ρ : Env} {e} : evS φ (Sx.ret e) ρ = (evE φ e ρ >>= fun d => pure (.ret d) : M Fl) := (rfl)
@[simp] theorem evS_set {ρ : Env} {i e} : evS φ (Sx.set i e) ρ = (evE φ e ρ >>= fun d => pure (.next (ρ.set i (some d))) : M Fl) := (rfl)
@[simp] theorem evS_par {ρ : Env} {is e} : evS φ (Sx.par is e) ρ = (evE φ e ρ >>= fun d => unpackD is.length none d >>= fun ds => pure (.next (setsL is.reverse ds.reverse ρ)) : M Fl) := (rfl)
@[simp] theorem evS_asg {ρ : Env} {tg e} : evS φ (Sx.asg tg e) ρ = (evE φ e ρ >>= fun d => tg.ev d ρ >>= fun ρ' => pure (.next ρ') : M Fl) := (rfl)
@[simp] theorem evS_put {ρ : Env} {o i e} : evS φ (Sx.put o i e) ρ = (evE φ e ρ >>= fun d => evE φ o ρ >>= fun od => evE φ i ρ >>= fun id => setD od id d >>= fun _ => pure (.next ρ) : M Fl) := (rfl)
@[simp] theorem evS_exp {ρ : Env} {e} : evS φ (Sx.exp e) ρ = (evE φ e ρ >>= fun _ => pure (.next ρ) : M Fl) := (rfl)
@[simp] theorem evS_ite {ρ : Env} {t a b} : evS φ (Sx.ite t a b) ρ = (evT φ t ρ >>= fun c => if c = true then evSs φ a ρ else evSs φ b ρ : M Fl) := (rfl)
@[simp] theorem evS_forr {ρ : Env} {tg it b} : evS φ (Sx.forr tg it b) ρ = (evI φ it ρ >>= forF tg.ev (evSs φ b) ρ : M Fl) := (rfl)
@[simp] theorem evSs_nil {ρ : Env} : evSs φ (Sxs.nil) ρ = (pure (.next ρ) : M Fl) := (rfl)
@[simp] theorem evSs_cons {ρ : Env} {s r} : evSs φ (Sxs.cons s r) ρ = (evS φ s ρ >>= thenF (evSs φ r) : M Fl) := (rfl)
end
end MP

/-! MP28: the operations at work. -/
namespace MP
open PySem L2
@[simp] theorem asB_bl (b : Bool) (S : Sto) : asB (.bl b) S = .ok b S := (rfl)
@[simp] theorem truD_bl (b : Bool) (S : Sto) : truD (.bl b) S = .ok b S := (rfl)
theorem isinstD_run (t : Ty) (d : D) (S : Sto) (h : ∀ n, d ≠ .ref n) : isinstD t d S = .ok (.bl (isiD t d)) S := by
  cases d <;> first | rfl | exact absurd rfl (h _)
@[simp] theorem isinstD_str (t : Ty) (x : Str) (S : Sto) : isinstD t (.str x) S = .ok (.bl (isiD t (.str x))) S := (rfl)
@[simp] theorem isinstD_tup (t : Ty) (x : List D) (S : Sto) : isinstD t (.tup x) S = .ok (.bl (isiD t (.tup x))) S := (rfl)
@[simp] theorem isinstD_int (t : Ty) (x : Int) (S : Sto) : isinstD t (.int x) S = .ok (.bl (isiD t (.int x))) S := (rfl)
@[simp] theorem isinstD_bl (t : Ty) (x : Bool) (S : Sto) : isinstD t (.bl x) S = .ok (.bl (isiD t (.bl x))) S := (rfl)
@[simp] theorem getV_run (ρ : Env) (i : Nat) (S : Sto) : getV ρ i S = match ρ[i]? with | some (some d) => .ok d S | _ => .bad := by
  unfold getV
  cases ρ[i]? with
  | none => rfl
  | some o => cases o <;> rfl
@[simp] theorem ite_run {α : Type} (c : Prop) [Decidable c] (a b : M α) (S : Sto) : (if c then a else b) S = if c then a S else b S := by split <;> rfl
theorem lenD_str {x : Str} (h : x.length ≤ SL) (S : Sto) : lenD [.str x] S = .ok (.int x.length) S := by
  show (match (if x.length ≤ SL then some x.length else none) with | some n => R.ok (D.int n) S | none => .bad) = _
  rw [if_pos h]
@[simp] theorem lenD_tup (xs : List D) (S : Sto) : lenD [.tup xs] S = .ok (.int xs.length) S := (rfl)
@[simp] theorem lenD_lst (xs : List D) (S : Sto) : lenD [.lst xs] S = .ok (.int xs.length) S := (rfl)
@[simp] theorem cop_eq : Cop.eq.ev = eqD := (rfl)
@[simp] theorem cop_ne : Cop.ne.ev = neD := (rfl)
@[simp] theorem cop_lt : Cop.lt.ev = ltD := (rfl)
@[simp] theorem cop_le : Cop.le.ev = leD := (rfl)
@[simp] theorem cop_gt : Cop.gt.ev = gtD := (rfl)
@[simp] theorem cop_ge : Cop.ge.ev = geD := (rfl)
@[simp] theorem cop_is : Cop.is.ev = isD := (rfl)
@[simp] theorem cop_isNot : Cop.isNot.ev = isNotD := (rfl)
@[simp] theorem cop_inn : Cop.inn.ev = inD := (rfl)
@[simp] theorem cop_notIn : Cop.notIn.ev = notInD := (rfl)
@[simp] theorem bop_add (m : Bool) : Bop.add.ev m = addD m := (rfl)
@[simp] theorem bop_sub (m : Bool) : Bop.sub.ev m = subD := (rfl)
@[simp] theorem bop_mul (m : Bool) : Bop.mul.ev m = mulM m := (rfl)
@[simp] theorem bop_fdiv (m : Bool) : Bop.fdiv.ev m = fdivD := (rfl)
@[simp] theorem bop_mod (m : Bool) : Bop.mod.ev m = modD := (rfl)
@[simp] theorem bop_pow (m : Bool) : Bop.pow.ev m = powD := (rfl)
@[simp] theorem fn_len (m : Bool) : Fn.len.ev m = lenD := (rfl)
@[simp] theorem fn_all (m : Bool) : Fn.all.ev m = allD := (rfl)
@[simp] theorem fn_any (m : Bool) : Fn.any.ev m = anyD := (rfl)
@[simp] theorem fn_min (m : Bool) : Fn.min.ev m = minD := (rfl)
@[simp] theorem fn_sum (m : Bool) : Fn.sum.ev m = sumD := (rfl)
@[simp] theorem fn_int (m : Bool) : Fn.int.ev m = intD := (rfl)
@[simp] theorem fn_str (m : Bool) : Fn.str.ev m = strD := (rfl)
@[simp] theorem fn_list (m : Bool) : Fn.list.ev m = listD m := (rfl)
@[simp] theorem fn_dict (m : Bool) : Fn.dict.ev m = dictD m := (rfl)
@[simp] theorem fn_tuple (m : Bool) : Fn.tuple.ev m = tupleD := (rfl)
@[simp] theorem fn_repr (m : Bool) (d : D) : Fn.repr.ev m [d] = reprD d := (rfl)
@[simp] theorem le_int (i j : Int) (S : Sto) : leD (.int i) (.int j) S = .ok (.bl (decide (i ≤ j))) S := (rfl)
@[simp] theorem lt_int (i j : Int) (S : Sto) : ltD (.int i) (.int j) S = .ok (.bl (decide (i < j))) S := (rfl)
@[simp] theorem ge_int (i j : Int) (S : Sto) : geD (.int i) (.int j) S = .ok (.bl (decide (j ≤ i))) S := (rfl)
@[simp] theorem gt_int (i j : Int) (S : Sto) : gtD (.int i) (.int j) S = .ok (.bl (decide (j < i))) S := (rfl)
@[simp] theorem le_str (x y : Str) (S : Sto) : leD (.str x) (.str y) S = .ok (.bl (!ltS y x)) S := (rfl)
@[simp] theorem eq_int (i j : Int) (S : Sto) : eqD (.int i) (.int j) S = .ok (.bl (decide (i = j))) S := (rfl)
@[simp] theorem ne_int (i j : Int) (S : Sto) : neD (.int i) (.int j) S = .ok (.bl (!decide (i = j))) S := (rfl)
@[simp] theorem eq_str (i j : Str) (S : Sto) : eqD (.str i) (.str j) S = .ok (.bl (decide (i = j))) S := (rfl)
@[simp] theorem ne_str (i j : Str) (S : Sto) : neD (.str i) (.str j) S = .ok (.bl (!decide (i = j))) S := (rfl)
@[simp] theorem seqSrc_str (x : Str) (S : Sto) : seqSrc (.str x) S = .ok (.fix (signsL x)) S := (rfl)
@[simp] theorem seqSrc_tup (x : List D) (S : Sto) : seqSrc (.tup x) S = .ok (.fix x) S := (rfl)
@[simp] theorem seqSrc_lst (x : List D) (S : Sto) : seqSrc (.lst x) S = .ok (.fix x) S := (rfl)
@[simp] theorem in_sign (c : Nat) (z : Str) (S : Sto) : inD (.str ⟨#[c]⟩) (.str z) S = .ok (.bl (decide (c ∈ z.cps.toList))) S := (rfl)
@[simp] theorem thenF_next (g : Env → M Fl) (ρ : Env) : thenF g (.next ρ) = g ρ := (rfl)
@[simp] theorem thenF_ret (g : Env → M Fl) (d : D) : thenF g (.ret d) = pure (.ret d) := (rfl)
theorem bools_of : ∀ (xs : List Bool), bools? (xs.map D.bl) = some xs
  | [] => rfl
  | x :: xs => by
    have := bools_of xs
    simp [bools?, this]
theorem allD_bools (xs : List Bool) (S : Sto) : allD [.lst (xs.map D.bl)] S = .ok (.bl (xs.all id)) S := by
  show (match (some (xs.map D.bl)).bind bools? with | some bs => R.ok (D.bl (bs.all id)) S | none => .bad) = _
  rw [Option.bind_some, bools_of]
@[simp] theorem allD_map {α : Type} (p : α → Bool) (l : List α) (S : Sto) : allD [.lst (l.map (D.bl ∘ p))] S = .ok (.bl (l.all p)) S := by
  have := allD_bools (l.map p) S
  rw [List.map_map] at this
  rw [this]
  simp
theorem ixD_str {x : Str} {i : Int} (h : x.length ≤ SL) (S : Sto) : ixD (.str x) (.int i) S = match atI x.cps.toList i with | some c => .ok (.str ⟨#[c]⟩) S | none => .bad := by
  show (match (if x.length ≤ SL then (atI x.cps.toList i).map (fun c => D.str ⟨#[c]⟩) else none) with | some e => R.ok e S | none => dicIx S (.str x) (.inl i)) = _
  rw [if_pos h]
  cases atI x.cps.toList i <;> rfl
@[simp] theorem ixD_tup (xs : List D) (i : Int) (S : Sto) : ixD (.tup xs) (.int i) S = match atI xs i with | some c => .ok c S | none => .bad := (rfl)
@[simp] theorem ixD_lst (xs : List D) (i : Int) (S : Sto) : ixD (.lst xs) (.int i) S = match atI xs i with | some c => .ok c S | none => .bad := (rfl)
theorem atI_nat {α : Type} (xs : List α) (k : Nat) : atI xs (k : Int) = xs[k]? := by
  unfold atI ixN
  by_cases h : k < xs.length
  · simp [h]
  · simp [h]
end MP

/-! MP29: what a run ends in (W): a run that ends well, and in what. -/
namespace MP
open PySem L2
def W {α : Type} (m : M α) (S : Sto) (Q : α → Sto → Prop) : Prop := match m S with
  | .ok a S' => Q a S'
  | .bad => False
theorem W_iff {α : Type} {m : M α} {S : Sto} {Q : α → Sto → Prop} : W m S Q ↔ ∃ a S', m S = .ok a S' ∧ Q a S' := by
  unfold W
  cases m S with
  | ok a S' => exact ⟨fun h => ⟨a, S', rfl, h⟩, fun ⟨_, _, e, h⟩ => by cases e; exact h⟩
  | bad => exact ⟨fun h => h.elim, fun ⟨_, _, e, _⟩ => by cases e⟩
theorem W_of {α : Type} {m : M α} {S S' : Sto} {a : α} (h : m S = .ok a S') (Q : α → Sto → Prop) : W m S Q = Q a S' := by
  unfold W
  rw [h]
theorem W_eq {α : Type} {m m' : M α} {S : Sto} (h : m S = m' S) (Q : α → Sto → Prop) : W m S Q = W m' S Q := by
  unfold W
  rw [h]
theorem W.mono {α : Type} {m : M α} {S : Sto} {Q Q' : α → Sto → Prop} (h : W m S Q) (k : ∀ a S', Q a S' → Q' a S') : W m S Q' := by
  rw [W_iff] at h ⊢
  obtain ⟨a, S', e, q⟩ := h
  exact ⟨a, S', e, k _ _ q⟩

@[simp ↓] theorem W_bind {α β : Type} (m : M α) (f : α → M β) (S : Sto) (Q : β → Sto → Prop) : W (m >>= f) S Q = W m S (fun a S' => W (f a) S' Q) := by
  unfold W
  rw [bind_run]
  cases m S <;> rfl
@[simp ↓] theorem W_pure {α : Type} (a : α) (S : Sto) (Q : α → Sto → Prop) : W (pure a : M α) S Q = Q a S := (rfl)
@[simp ↓] theorem W_mpure {α : Type} (a : α) (S : Sto) (Q : α → Sto → Prop) : W (M.pure a : M α) S Q = Q a S := (rfl)
@[simp ↓] theorem W_ite {α : Type} (c : Prop) [Decidable c] (a b : M α) (S : Sto) (Q : α → Sto → Prop) : W (if c then a else b) S Q = if c then W a S Q else W b S Q := by split <;> rfl
@[simp ↓] theorem W_fail {α : Type} (S : Sto) (Q : α → Sto → Prop) : W (M.fail : M α) S Q = False := (rfl)
section
variable (φ : Nat → List D → M D) (S : Sto) (ρ : Env)
@[simp ↓] theorem W_non (Q) : W (evE φ .non ρ) S Q = Q .non S := (rfl)
@[simp ↓] theorem W_bl (b Q) : W (evE φ (.bl b) ρ) S Q = Q (.bl b) S := (rfl)
@[simp ↓] theorem W_int (b Q) : W (evE φ (.int b) ρ) S Q = Q (.int b) S := (rfl)
@[simp ↓] theorem W_str (b Q) : W (evE φ (.str b) ρ) S Q = Q (.str b) S := (rfl)
@[simp ↓] theorem W_neg (b Q) : W (evE φ (.neg b) ρ) S Q = Q (.int (-b)) S := (rfl)
@[simp ↓] theorem W_glb (b d Q) : W (evE φ (.glb b d) ρ) S Q = Q d S := (rfl)
/-- the place of a slot -/
def vget (ρ : Env) (i : Nat) (S : Sto) (Q : D → Sto → Prop) : Prop := match ρ[i]? with | some (some d) => Q d S | _ => False
theorem W_getV (i Q) : W (getV ρ i) S Q = vget ρ i S Q := by
  unfold W vget
  rw [getV_run]
  split <;> split <;> simp_all
@[simp ↓] theorem W_var (i Q) : W (evE φ (.var i) ρ) S Q = vget ρ i S Q := W_getV S ρ i Q
@[simp ↓] theorem W_bin (o m a b Q) : W (evE φ (.bin o m a b) ρ) S Q = W (evE φ a ρ) S (fun d S1 => W (evE φ b ρ) S1 (fun e S2 => W (o.ev m d e) S2 Q)) := by simp only [evE_bin, W_bind]
@[simp ↓] theorem W_cmp (o a b Q) : W (evE φ (.cmp o a b) ρ) S Q = W (evE φ a ρ) S (fun d S1 => W (evE φ b ρ) S1 (fun e S2 => W (o.ev d e) S2 Q)) := by simp only [evE_cmp, W_bind]
@[simp ↓] theorem W_chn (o p a b c Q) : W (evE φ (.chn o p a b c) ρ) S Q = W (evE φ a ρ) S (fun d S1 => W (evE φ b ρ) S1 (fun e S2 => W (o.ev d e) S2 (fun z S3 => W (asB z) S3 (fun t S4 => if t = true then W (evE φ c ρ) S4 (fun e' S5 => W (p.ev e e') S5 Q) else Q (.bl false) S4)))) := by simp only [evE_chn, W_bind, W_ite, W_pure]
@[simp ↓] theorem W_not (a Q) : W (evE φ (.not a) ρ) S Q = W (evE φ a ρ) S (fun d S1 => W (asB d) S1 (fun b S2 => Q (.bl (!b)) S2)) := by simp only [evE_not, W_bind, W_pure]
@[simp ↓] theorem W_and (a r Q) : W (evE φ (.and a r) ρ) S Q = W (evE φ a ρ) S (fun d S1 => W (asB d) S1 (fun t S2 => if t = true then W (evE φ r ρ) S2 Q else Q (.bl false) S2)) := by simp only [evE_and, W_bind, W_ite, W_pure]
@[simp ↓] theorem W_or (a r Q) : W (evE φ (.or a r) ρ) S Q = W (evE φ a ρ) S (fun d S1 => W (asB d) S1 (fun t S2 => if t = true then Q (.bl true) S2 else W (evE φ r ρ) S2 Q)) := by simp only [evE_or, W_bind, W_ite, W_pure]
@[simp ↓] theorem W_one (a Q) : W (evE φ (.one a) ρ) S Q = W (evE φ a ρ) S Q := (rfl)
@[simp ↓] theorem W_ife (t a b Q) : W (evE φ (.ife t a b) ρ) S Q = W (evT φ t ρ) S (fun c S1 => if c = true then W (evE φ a ρ) S1 Q else W (evE φ b ρ) S1 Q) := by simp only [evE_ife, W_bind, W_ite]
@[simp ↓] theorem W_ix (a b Q) : W (evE φ (.ix a b) ρ) S Q = W (evE φ a ρ) S (fun d S1 => W (evE φ b ρ) S1 (fun e S2 => W (ixD d e) S2 Q)) := by simp only [evE_ix, W_bind]
@[simp ↓] theorem W_sl (m a lo hi Q) : W (evE φ (.sl m a lo hi) ρ) S Q = W (evE φ a ρ) S (fun d S1 => W (evO φ lo ρ) S1 (fun l S2 => W (evO φ hi ρ) S2 (fun h S3 => W (sliceE m d l h) S3 Q))) := by simp only [evE_sl, W_bind]
@[simp ↓] theorem W_rev (m a Q) : W (evE φ (.rev m a) ρ) S Q = W (evE φ a ρ) S (fun d S1 => W (revE m d) S1 Q) := by simp only [evE_rev, W_bind]
@[simp ↓] theorem W_tup (es Q) : W (evE φ (.tup es) ρ) S Q = W (evL φ es ρ) S (fun ds S1 => Q (.tup ds) S1) := by simp only [evE_tup, W_bind, W_pure]
@[simp ↓] theorem W_lst (m es Q) : W (evE φ (.lst m es) ρ) S Q = W (evL φ es ρ) S (fun ds S1 => W (newL m ds) S1 Q) := by simp only [evE_lst, W_bind]
@[simp ↓] theorem W_dic0 (m Q) : W (evE φ (.dic0 m) ρ) S Q = W (newD m []) S Q := (rfl)
@[simp ↓] theorem W_dicC (m ps Q) : W (evE φ (.dicC m ps) ρ) S Q = W (newD m (mergeD [] (ps.map fun p => (p.1, keyC p.2)))) S Q := (rfl)
@[simp ↓] theorem W_gin (g k kds a Q) : W (evE φ (.gin g k kds a) ρ) S Q = W (evE φ a ρ) S (fun d S1 => W (ginD g kds d) S1 Q) := by simp only [evE_gin, W_bind]
@[simp ↓] theorem W_gix (k kds a Q) : W (evE φ (.gix k kds a) ρ) S Q = W (evE φ a ρ) S (fun d S1 => W (gixD kds d) S1 Q) := by simp only [evE_gix, W_bind]
@[simp ↓] theorem WT_gin (g k kds a Q) : W (evT φ (.gin g k kds a) ρ) S Q = W (evE φ a ρ) S (fun d S1 => W (ginD g kds d) S1 (fun z S2 => W (asB z) S2 Q)) := by simp only [evT_gin, W_bind]
@[simp ↓] theorem WI_enu (es Q) : W (evI φ (.enu es) ρ) S Q = W (evL φ es ρ) S (fun ds S1 => W (enuL ds) S1 Q) := by simp only [evI_enu, W_bind]
@[simp ↓] theorem WS_dead (Q) : W (evS φ .dead ρ) S Q = False := (rfl)
@[simp ↓] theorem W_dic1 (k i Q) : W (evE φ (.dic1 k i) ρ) S Q = vget ρ i S (fun d S1 => Q (.dic [(.inl k, d)]) S1) := by simp only [evE_dic1, W_bind, W_getV, W_pure]
@[simp ↓] theorem W_fn (f m es Q) : W (evE φ (.fn f m es) ρ) S Q = W (evL φ es ρ) S (fun ds S1 => W (f.ev m ds) S1 Q) := by simp only [evE_fn, W_bind]
@[simp ↓] theorem W_isi (t a Q) : W (evE φ (.isi t a) ρ) S Q = W (evE φ a ρ) S (fun d S1 => W (isinstD t d) S1 Q) := by simp only [evE_isi, W_bind]
@[simp ↓] theorem W_isiS (t x Q) : W (isinstD t (.str x)) S Q = Q (.bl (isiD t (.str x))) S := (rfl)
@[simp ↓] theorem W_isiT (t x Q) : W (isinstD t (.tup x)) S Q = Q (.bl (isiD t (.tup x))) S := (rfl)
@[simp ↓] theorem W_isiI (t x Q) : W (isinstD t (.int x)) S Q = Q (.bl (isiD t (.int x))) S := (rfl)
@[simp ↓] theorem W_isiB (t x Q) : W (isinstD t (.bl x)) S Q = Q (.bl (isiD t (.bl x))) S := (rfl)
@[simp ↓] theorem W_isiN (t Q) : W (isinstD t .non) S Q = Q (.bl (isiD t .non)) S := (rfl)
@[simp ↓] theorem W_isiL (t x Q) : W (isinstD t (.lst x)) S Q = Q (.bl (isiD t (.lst x))) S := (rfl)
@[simp ↓] theorem W_me (f m o es Q) : W (evE φ (.me f m o es) ρ) S Q = W (evE φ o ρ) S (fun d S1 => W (f.rc d) S1 (fun _ S2 => W (evL φ es ρ) S2 (fun ds S3 => W (f.ev m d ds) S3 Q))) := by simp only [evE_me, W_bind]
@[simp ↓] theorem W_repl (y z o Q) : W (evE φ (.repl y z o) ρ) S Q = W (evE φ o ρ) S (fun d S1 => W (replD y z d) S1 Q) := by simp only [evE_repl, W_bind]
@[simp ↓] theorem W_call (k es Q) : W (evE φ (.call k es) ρ) S Q = W (evL φ es ρ) S (fun ds S1 => W (φ k ds) S1 Q) := by simp only [evE_call, W_bind]
@[simp ↓] theorem W_lc (m tg it ifs elt own Q) : W (evE φ (.lc m tg it ifs elt own) ρ) S Q = W (evI φ it ρ) S (fun src S1 => W (lcS m tg.ev (evA φ ifs) (evE φ elt) (wipeE ρ own) src) S1 Q) := by simp only [evE_lc, W_bind]
@[simp ↓] theorem WO_non (Q) : W (evO φ .non ρ) S Q = Q none S := (rfl)
@[simp ↓] theorem WO_som (e Q) : W (evO φ (.som e) ρ) S Q = W (evE φ e ρ) S (fun d S1 => W (asI d) S1 Q) := by simp only [evO_som, W_bind]
@[simp ↓] theorem WL_nil (Q) : W (evL φ .nil ρ) S Q = Q [] S := (rfl)
@[simp ↓] theorem WL_cons (e r Q) : W (evL φ (.cons e r) ρ) S Q = W (evE φ e ρ) S (fun d S1 => W (evL φ r ρ) S1 (fun ds S2 => Q (d :: ds) S2)) := by simp only [evL_cons, W_bind, W_pure]
@[simp ↓] theorem WT_cmp (o a b Q) : W (evT φ (.cmp o a b) ρ) S Q = W (evE φ a ρ) S (fun d S1 => W (evE φ b ρ) S1 (fun e S2 => W (o.ev d e) S2 (fun z S3 => W (asB z) S3 Q))) := by simp only [evT_cmp, W_bind]
@[simp ↓] theorem WT_chn (o p a b c Q) : W (evT φ (.chn o p a b c) ρ) S Q = W (evE φ a ρ) S (fun d S1 => W (evE φ b ρ) S1 (fun e S2 => W (o.ev d e) S2 (fun z S3 => W (asB z) S3 (fun t S4 => if t = true then W (evE φ c ρ) S4 (fun e' S5 => W (p.ev e e') S5 (fun z S6 => W (asB z) S6 Q)) else Q false S4)))) := by simp only [evT_chn, W_bind, W_ite, W_pure]
@[simp ↓] theorem WT_not (t Q) : W (evT φ (.not t) ρ) S Q = W (evT φ t ρ) S (fun b S1 => Q (!b) S1) := by simp only [evT_not, W_bind, W_pure]
@[simp ↓] theorem WT_and (t Q) : W (evT φ (.and t) ρ) S Q = W (evA φ t ρ) S Q := (rfl)
@[simp ↓] theorem WT_or (t Q) : W (evT φ (.or t) ρ) S Q = W (evOr φ t ρ) S Q := (rfl)
@[simp ↓] theorem WT_val (e Q) : W (evT φ (.val e) ρ) S Q = W (evE φ e ρ) S (fun d S1 => W (truD d) S1 Q) := by simp only [evT_val, W_bind]
@[simp ↓] theorem WA_nil (Q) : W (evA φ .nil ρ) S Q = Q true S := (rfl)
@[simp ↓] theorem WA_cons (t r Q) : W (evA φ (.cons t r) ρ) S Q = W (evT φ t ρ) S (fun c S1 => if c = true then W (evA φ r ρ) S1 Q else Q false S1) := by simp only [evA_cons, W_bind, W_ite, W_pure]
@[simp ↓] theorem WOr_nil (Q) : W (evOr φ .nil ρ) S Q = Q false S := (rfl)
@[simp ↓] theorem WOr_cons (t r Q) : W (evOr φ (.cons t r) ρ) S Q = W (evT φ t ρ) S (fun c S1 => if c = true then Q true S1 else W (evOr φ r ρ) S1 Q) := by simp only [evOr_cons, W_bind, W_ite, W_pure]
@[simp ↓] theorem WI_seq (e Q) : W (evI φ (.seq e) ρ) S Q = W (evE φ e ρ) S (fun d S1 => W (seqSrc d) S1 Q) := by simp only [evI_seq, W_bind]
@[simp ↓] theorem WI_rng (es Q) : W (evI φ (.rng es) ρ) S Q = W (evL φ es ρ) S (fun ds S1 => W (rngSrc ds) S1 Q) := by simp only [evI_rng, W_bind]
@[simp ↓] theorem WS_pass (Q) : W (evS φ .pass ρ) S Q = Q (.next ρ) S := (rfl)
@[simp ↓] theorem WS_brk (Q) : W (evS φ .brk ρ) S Q = Q (.brk ρ) S := (rfl)
@[simp ↓] theorem WS_cont (Q) : W (evS φ .cont ρ) S Q = Q (.cont ρ) S := (rfl)
@[simp ↓] theorem WS_ret (e Q) : W (evS φ (.ret e) ρ) S Q = W (evE φ e ρ) S (fun d S1 => Q (.ret d) S1) := by simp only [evS_ret, W_bind, W_pure]
@[simp ↓] theorem WS_set (i e Q) : W (evS φ (.set i e) ρ) S Q = W (evE φ e ρ) S (fun d S1 => Q (.next (ρ.set i (some d))) S1) := by simp only [evS_set, W_bind, W_pure]
@[simp ↓] theorem WS_par (is e Q) : W (evS φ (.par is e) ρ) S Q = W (evE φ e ρ) S (fun d S1 => W (unpackD is.length none d) S1 (fun ds S2 => Q (.next (setsL is.reverse ds.reverse ρ)) S2)) := by simp only [evS_par, W_bind, W_pure]
@[simp ↓] theorem WS_asg (tg e Q) : W (evS φ (.asg tg e) ρ) S Q = W (evE φ e ρ) S (fun d S1 => W (tg.ev d ρ) S1 (fun ρ' S2 => Q (.next ρ') S2)) := by simp only [evS_asg, W_bind, W_pure]
@[simp ↓] theorem WS_put (o i e Q) : W (evS φ (.put o i e) ρ) S Q = W (evE φ e ρ) S (fun d S1 => W (evE φ o ρ) S1 (fun od S2 => W (evE φ i ρ) S2 (fun id S3 => W (setD od id d) S3 (fun _ S4 => Q (.next ρ) S4)))) := by simp only [evS_put, W_bind, W_pure]
@[simp ↓] theorem WS_exp (e Q) : W (evS φ (.exp e) ρ) S Q = W (evE φ e ρ) S (fun _ S1 => Q (.next ρ) S1) := by simp only [evS_exp, W_bind, W_pure]
@[simp ↓] theorem WS_ite (t a b Q) : W (evS φ (.ite t a b) ρ) S Q = W (evT φ t ρ) S (fun c S1 => if c = true then W (evSs φ a ρ) S1 Q else W (evSs φ b ρ) S1 Q) := by simp only [evS_ite, W_bind, W_ite]
@[simp ↓] theorem WS_forr (tg it b Q) : W (evS φ (.forr tg it b) ρ) S Q = W (evI φ it ρ) S (fun src S1 => W (forF tg.ev (evSs φ b) ρ src) S1 Q) := by simp only [evS_forr, W_bind]
@[simp ↓] theorem WSs_nil (Q) : W (evSs φ .nil ρ) S Q = Q (.next ρ) S := (rfl)
@[simp ↓] theorem WSs_cons (s r Q) : W (evSs φ (.cons s r) ρ) S Q = W (evS φ s ρ) S (fun fl S1 => W (thenF (evSs φ r) fl) S1 Q) := by simp only [evSs_cons, W_bind]
end
@[simp ↓] theorem W_thenN (g : Env → M Fl) (ρ : Env) (S : Sto) (Q) : W (thenF g (.next ρ)) S Q = W (g ρ) S Q := (rfl)
@[simp ↓] theorem W_thenR (g : Env → M Fl) (d : D) (S : Sto) (Q) : W (thenF g (.ret d)) S Q = Q (.ret d) S := (rfl)
@[simp ↓] theorem W_thenB (g : Env → M Fl) (ρ : Env) (S : Sto) (Q) : W (thenF g (.brk ρ)) S Q = Q (.brk ρ) S := (rfl)
@[simp ↓] theorem W_thenC (g : Env → M Fl) (ρ : Env) (S : Sto) (Q) : W (thenF g (.cont ρ)) S Q = Q (.cont ρ) S := (rfl)
/-- the end of a def -/
def bodyQ (Q : D → Sto → Prop) : Fl → Sto → Prop
  | .ret d, S => Q d S
  | .next _, S => Q .non S
  | _, _ => False
@[simp ↓] theorem bodyQ_ret (Q d S) : bodyQ Q (.ret d) S = Q d S := (rfl)
@[simp ↓] theorem bodyQ_next (Q d S) : bodyQ Q (.next d) S = Q .non S := (rfl)
theorem W_body (k : Nat) (g : Env → M Fl) (ds : List D) (S : Sto) (Q) : W (bodyD k g ds) S Q = W (g (startD k ds)) S (bodyQ Q) := by
  unfold bodyD
  rw [W_bind]
  congr 1
  funext fl S'
  cases fl <;> rfl
@[simp ↓] theorem W_asB (b : Bool) (S : Sto) (Q) : W (asB (.bl b)) S Q = Q b S := (rfl)
@[simp ↓] theorem W_asI (i : Int) (S : Sto) (Q) : W (asI (.int i)) S Q = Q (some i) S := (rfl)
@[simp ↓] theorem W_truB (b : Bool) (S : Sto) (Q) : W (truD (.bl b)) S Q = Q b S := (rfl)
@[simp ↓] theorem vget_0 (d : D) (r : Env) (S : Sto) (Q) : vget (some d :: r) 0 S Q = Q d S := (rfl)
@[simp ↓] theorem vget_n (d : Option D) (r : Env) (n : Nat) (S : Sto) (Q) : vget (d :: r) (n + 1) S Q = vget r n S Q := by
  unfold vget
  rw [List.getElem?_cons_succ]
@[simp ↓] theorem W_newF (ds : List D) (S : Sto) (Q) : W (newL false ds) S Q = Q (.lst ds) S := (rfl)
@[simp ↓] theorem W_newT (ds : List D) (S : Sto) (Q) : W (newL true ds) S Q = Q (.ref S.length) (S ++ [.lst ds]) := (rfl)
@[simp ↓] theorem W_addI (m : Bool) (i j : Int) (S : Sto) (Q) : W (addD m (.int i) (.int j)) S Q = Q (.int (i + j)) S := (rfl)
@[simp ↓] theorem W_subI (i j : Int) (S : Sto) (Q) : W (subD (.int i) (.int j)) S Q = Q (.int (i - j)) S := (rfl)
@[simp ↓] theorem W_leI (i j : Int) (S : Sto) (Q) : W (leD (.int i) (.int j)) S Q = Q (.bl (decide (i ≤ j))) S := (rfl)
@[simp ↓] theorem W_ltI (i j : Int) (S : Sto) (Q) : W (ltD (.int i) (.int j)) S Q = Q (.bl (decide (i < j))) S := (rfl)
@[simp ↓] theorem W_geI (i j : Int) (S : Sto) (Q) : W (geD (.int i) (.int j)) S Q = Q (.bl (decide (j ≤ i))) S := (rfl)
@[simp ↓] theorem W_gtI (i j : Int) (S : Sto) (Q) : W (gtD (.int i) (.int j)) S Q = Q (.bl (decide (j < i))) S := (rfl)
@[simp ↓] theorem W_eqI (i j : Int) (S : Sto) (Q) : W (eqD (.int i) (.int j)) S Q = Q (.bl (decide (i = j))) S := (rfl)
@[simp ↓] theorem W_neI (i j : Int) (S : Sto) (Q) : W (neD (.int i) (.int j)) S Q = Q (.bl (!decide (i = j))) S := (rfl)
@[simp ↓] theorem W_lenL (xs : List D) (S : Sto) (Q) : W (lenD [.lst xs]) S Q = Q (.int xs.length) S := (rfl)
@[simp ↓] theorem W_lenT (xs : List D) (S : Sto) (Q) : W (lenD [.tup xs]) S Q = Q (.int xs.length) S := (rfl)
@[simp ↓] theorem W_seqT (xs : List D) (S : Sto) (Q) : W (seqSrc (.tup xs)) S Q = Q (.fix xs) S := (rfl)
@[simp ↓] theorem W_seqL (xs : List D) (S : Sto) (Q) : W (seqSrc (.lst xs)) S Q = Q (.fix xs) S := (rfl)
@[simp ↓] theorem W_seqS (x : Str) (S : Sto) (Q) : W (seqSrc (.str x)) S Q = Q (.fix (signsL x)) S := (rfl)
@[simp ↓] theorem W_tupleL (xs : List D) (S : Sto) (Q) : W (tupleD [.lst xs]) S Q = Q (.tup xs) S := (rfl)
@[simp ↓] theorem W_nm (i : Nat) (d : D) (ρ : Env) (S : Sto) (Q) : W ((Tg.nm i).ev d ρ) S Q = Q (ρ.set i (some d)) S := (rfl)
@[simp] theorem rc_append : Me.append.rc = rcL := (rfl)
@[simp] theorem rc_extend : Me.extend.rc = rcL := (rfl)
@[simp] theorem rc_pop : Me.pop.rc = rcL := (rfl)
@[simp] theorem rc_join : Me.join.rc = rcS := (rfl)
@[simp] theorem rc_split : Me.split.rc = rcS := (rfl)
@[simp] theorem rc_count : Me.count.rc = rcS := (rfl)
@[simp] theorem rc_index : Me.index.rc = rcX := (rfl)
@[simp ↓] theorem W_rcX (xs : List D) (S : Sto) (Q) : W (rcX (.lst xs)) S Q = Q () S := (rfl)
@[simp] theorem rc_upper : Me.upper.rc = rcS := (rfl)
@[simp ↓] theorem W_rcS (x : Str) (S : Sto) (Q) : W (rcS (.str x)) S Q = Q () S := (rfl)
@[simp] theorem me_append (m : Bool) : Me.append.ev m = appendD := (rfl)
@[simp] theorem me_extend (m : Bool) : Me.extend.ev m = extendD := (rfl)
@[simp] theorem me_pop (m : Bool) : Me.pop.ev m = popD := (rfl)
@[simp] theorem me_join (m : Bool) : Me.join.ev m = joinD := (rfl)
@[simp] theorem me_split (m : Bool) : Me.split.ev m = splitD m := (rfl)
@[simp] theorem me_count (m : Bool) : Me.count.ev m = countD := (rfl)
@[simp] theorem me_index (m : Bool) : Me.index.ev m = indexD := (rfl)
@[simp] theorem me_upper (m : Bool) : Me.upper.ev m = upperD := (rfl)
theorem W_modI {i j : Int} (h : 0 < j) (S : Sto) (Q) : W (modD (.int i) (.int j)) S Q = Q (.int (i % j)) S := by
  show W (if 0 < j then pure (.int (i % j)) else M.fail) S Q = _
  rw [if_pos h]; rfl
theorem W_fdivI {i j : Int} (h : 0 < j ∧ j < 1073741824) (S : Sto) (Q) : W (fdivD (.int i) (.int j)) S Q = Q (.int (i / j)) S := by
  show W (if 0 < j ∧ j < 1073741824 then pure (.int (i / j)) else M.fail) S Q = _
  rw [if_pos h]; rfl
theorem W_mulI {m : Bool} {i j : Int} (h : (-(2 ^ 64) < i ∧ i < 2 ^ 64) ∨ (-(2 ^ 64) < j ∧ j < 2 ^ 64)) (S : Sto) (Q) : W (mulM m (.int i) (.int j)) S Q = Q (.int (i * j)) S := by
  show W (if (-(2 ^ 64) < i ∧ i < 2 ^ 64) ∨ (-(2 ^ 64) < j ∧ j < 2 ^ 64) then pure (.int (i * j)) else M.fail) S Q = _
  rw [if_pos h]; rfl
theorem W_addS {x y : Str} (m : Bool) (h : x.length + y.length ≤ SL) (S : Sto) (Q) : W (addD m (.str x) (.str y)) S Q = Q (.str (x ++ y)) S := by
  show W (if x.length + y.length ≤ SL then pure (.str (x ++ y)) else M.fail) S Q = _
  rw [if_pos h]; rfl
theorem W_addT {x y : List D} (m : Bool) (h : x.length + y.length ≤ SL) (S : Sto) (Q) : W (addD m (.tup x) (.tup y)) S Q = Q (.tup (x ++ y)) S := by
  show W (if x.length + y.length ≤ SL then pure (.tup (x ++ y)) else M.fail) S Q = _
  rw [if_pos h]; rfl
theorem W_addL {x y : List D} (m : Bool) (h : x.length + y.length ≤ SL) (S : Sto) (Q) : W (addD m (.lst x) (.lst y)) S Q = W (newL m (x ++ y)) S Q := by
  show W (fun S => if x.length + y.length ≤ SL then newL m (x ++ y) S else .bad) S Q = _
  unfold W
  dsimp only
  rw [if_pos h]
theorem atI_some {α : Type} (xs : List α) {i : Int} (h0 : 0 ≤ i) (h1 : i < xs.length) : ∃ x, atI xs i = some x ∧ x ∈ xs := by
  obtain ⟨k, rfl⟩ := Int.eq_ofNat_of_zero_le h0
  have hk : k < xs.length := by omega
  exact ⟨xs[k], by rw [atI_nat, List.getElem?_eq_getElem hk], List.getElem_mem hk⟩
theorem W_ixL_all {xs : List D} {i : Int} {S : Sto} {Q : D → Sto → Prop} (h0 : 0 ≤ i) (h1 : i < xs.length) (h : ∀ x ∈ xs, Q x S) : W (ixD (.lst xs) (.int i)) S Q := by
  obtain ⟨x, e, hx⟩ := atI_some xs h0 h1
  rw [W_of (show ixD (.lst xs) (.int i) S = .ok x S by rw [ixD_lst, e])]
  exact h x hx
theorem W_ixT_all {xs : List D} {i : Int} {S : Sto} {Q : D → Sto → Prop} (h0 : 0 ≤ i) (h1 : i < xs.length) (h : ∀ x ∈ xs, Q x S) : W (ixD (.tup xs) (.int i)) S Q := by
  obtain ⟨x, e, hx⟩ := atI_some xs h0 h1
  rw [W_of (show ixD (.tup xs) (.int i) S = .ok x S by rw [ixD_tup, e])]
  exact h x hx
/-- a comprehension, its parts one after another: an invariant of what is made and of the store -/
theorem W_lcF {ga : D → Env → M Env} {gt : Env → M Bool} {ge : Env → M D} {ρw : Env} {xs : List D} (I : Nat → List D → Sto → Prop)
    (h : ∀ i d acc S, xs[i]? = some d → I i acc S → acc.length ≤ i → W (ga d ρw) S (fun ρ1 S1 => W (gt ρ1) S1 (fun b S2 => if b = true then W (ge ρ1) S2 (fun y S3 => I (i + 1) (acc ++ [y]) S3) else I (i + 1) acc S2))) :
    ∀ (k i : Nat) (acc : List D) (S : Sto), i ≤ xs.length → xs.length < i + k → acc.length ≤ i → xs.length ≤ SL → I i acc S → W (lcF (.fix xs) ga gt ge ρw k i acc) S (fun ys S' => I xs.length ys S' ∧ ys.length ≤ xs.length)
  | 0, i, acc, S, h0, h1, _, _, _ => by omega
  | k + 1, i, acc, S, h0, h1, h2, h3, hI => by
    by_cases hi : i < xs.length
    · have e : xs[i]? = some xs[i] := List.getElem?_eq_getElem hi
      have st := h i xs[i] acc S e hI h2
      have : lcF (.fix xs) ga gt ge ρw (k + 1) i acc S = (ga xs[i] ρw >>= fun ρ1 => gt ρ1 >>= fun b => if b = true then ge ρ1 >>= fun y => if acc.length < SL then lcF (.fix xs) ga gt ge ρw k (i + 1) (acc ++ [y]) else M.fail else lcF (.fix xs) ga gt ge ρw k (i + 1) acc) S := by
        show (match (some xs[i]? : Option (Option D)) with | none => _ | some none => _ | some (some d) => _) = _
        rw [e]
      rw [W_eq this]
      simp only [W_bind, W_ite]
      refine st.mono fun ρ1 S1 z1 => z1.mono fun b S2 z2 => ?_
      cases b with
      | true =>
        rw [if_pos rfl] at z2 ⊢
        refine z2.mono fun y S3 z3 => ?_
        rw [if_pos (by omega)]
        exact W_lcF I h k (i + 1) (acc ++ [y]) S3 hi (by omega) (by rw [List.length_append, List.length_singleton]; omega) h3 z3
      | false =>
        rw [if_neg Bool.false_ne_true] at z2 ⊢
        exact W_lcF I h k (i + 1) acc S2 hi (by omega) (by omega) h3 z2
    · have hl : i = xs.length := by omega
      subst hl
      have : lcF (.fix xs) ga gt ge ρw (k + 1) xs.length acc S = .ok acc S := by
        show (match (some xs[xs.length]? : Option (Option D)) with | none => _ | some none => _ | some (some d) => _) = _
        rw [List.getElem?_eq_none (Nat.le_refl _)]
      rw [W_of this]
      exact ⟨hI, h2⟩
theorem W_lcS {m : Bool} {ga : D → Env → M Env} {gt : Env → M Bool} {ge : Env → M D} {ρw : Env} {xs : List D} {S : Sto} {Q : D → Sto → Prop} (I : Nat → List D → Sto → Prop) (h3 : xs.length ≤ SL) (h0 : I 0 [] S)
    (h : ∀ i d acc S, xs[i]? = some d → I i acc S → acc.length ≤ i → W (ga d ρw) S (fun ρ1 S1 => W (gt ρ1) S1 (fun b S2 => if b = true then W (ge ρ1) S2 (fun y S3 => I (i + 1) (acc ++ [y]) S3) else I (i + 1) acc S2)))
    (hq : ∀ ys S', I xs.length ys S' → ys.length ≤ xs.length → W (newL m ys) S' Q) : W (lcS m ga gt ge ρw (.fix xs)) S Q := by
  unfold lcS
  show W (lcF (.fix xs) ga gt ge ρw (xs.length + 1) 0 [] >>= fun acc => newL m acc) S Q
  rw [W_bind]
  exact (W_lcF I h (xs.length + 1) 0 [] S (Nat.zero_le _) (by omega) (Nat.le_refl _) h3 h0).mono fun ys S' z => hq ys S' z.1 z.2
/-- a for, by an invariant -/
theorem W_forF {ga : D → Env → M Env} {body : Env → M Fl} {ρ : Env} {xs : List D} {S : Sto} {Q : Fl → Sto → Prop} (I : Nat → Env → Sto → Prop) (h0 : I 0 ρ S)
    (h : ∀ i d ρ S, xs[i]? = some d → I i ρ S → W (ga d ρ) S (fun ρ1 S1 => W (body ρ1) S1 (fun fl S2 => match fl with | .next ρ2 => I (i + 1) ρ2 S2 | .cont ρ2 => I (i + 1) ρ2 S2 | .brk ρ2 => Q (.next ρ2) S2 | .ret d => Q (.ret d) S2)))
    (hq : ∀ ρ' S', I xs.length ρ' S' → Q (.next ρ') S') : W (forF ga body ρ (.fix xs)) S Q := by
  have key : ∀ (k i : Nat) (ρ : Env) (S : Sto), i ≤ xs.length → xs.length < i + k → I i ρ S → W (loopF (.fix xs) ga body k i ρ) S Q := by
    intro k
    induction k with
    | zero => intro i ρ S h1 h2 _; omega
    | succ k ih =>
      intro i ρ S h1 h2 hI
      by_cases hi : i < xs.length
      · have e : xs[i]? = some xs[i] := List.getElem?_eq_getElem hi
        have st := h i xs[i] ρ S e hI
        have : loopF (.fix xs) ga body (k + 1) i ρ S = (ga xs[i] ρ >>= fun ρ1 => body ρ1 >>= fun fl => match fl with
            | .next ρ2 => loopF (.fix xs) ga body k (i + 1) ρ2
            | .cont ρ2 => loopF (.fix xs) ga body k (i + 1) ρ2
            | .brk ρ2 => pure (.next ρ2)
            | .ret d => pure (.ret d)) S := by
          show (match (some xs[i]? : Option (Option D)) with | none => _ | some none => _ | some (some d) => _) = _
          rw [e]
          all_goals rfl
        rw [W_eq this, W_bind]
        refine st.mono fun ρ1 S1 z1 => ?_
        rw [W_bind]
        refine z1.mono fun fl S2 z2 => ?_
        cases fl with
        | next ρ2 => exact ih (i + 1) ρ2 S2 hi (by omega) z2
        | cont ρ2 => exact ih (i + 1) ρ2 S2 hi (by omega) z2
        | brk ρ2 => exact z2
        | ret d => exact z2
      · have hl : i = xs.length := by omega
        subst hl
        have : loopF (.fix xs) ga body (k + 1) xs.length ρ S = .ok (.next ρ) S := by
          show (match (some xs[xs.length]? : Option (Option D)) with | none => _ | some none => _ | some (some d) => _) = _
          rw [List.getElem?_eq_none (Nat.le_refl _)]
        rw [W_of this]
        exact hq ρ S hI
  exact key (xs.length + 1) 0 ρ S (Nat.zero_le _) (by omega) h0
end MP

/-! MP30: data whose repr can be told: sizes. -/
namespace MP
open PySem L2
def ascS (x : Str) : Bool := x.cps.toList.all fun c => decide (c < 128)
def smallI (B : Nat) (i : Int) : Bool := decide (i.natAbs < B)
def keyOk (B : Nat) : Key → Bool
  | .inl i => smallI B i
  | .inr x => ascS x
def wtKey : Key → Nat
  | .inl _ => 60
  | .inr x => 10 * x.length + 60
mutual
/-- how long the repr may be -/
def wtD : D → Nat
  | .non => 60
  | .bl _ => 60
  | .int _ => 60
  | .str x => 10 * x.length + 60
  | .tup xs => wtL xs + 60
  | .lst xs => wtL xs + 60
  | .frz _ => 0
  | .dic kvs => wtK kvs + 60
  | .ref _ => 0
  | .clo .. => 0
  | .own _ => 0
def wtL : List D → Nat
  | [] => 0
  | x :: xs => wtD x + 2 + wtL xs
def wtK : List (Key × D) → Nat
  | [] => 0
  | (k, x) :: xs => wtKey k + wtD x + 4 + wtK xs
end
mutual
def okD (B : Nat) : D → Bool
  | .non => true
  | .bl _ => true
  | .int i => smallI B i
  | .str x => ascS x
  | .tup xs => okL B xs
  | .lst xs => okL B xs
  | .frz _ => false
  | .dic kvs => okK B kvs
  | .ref _ => false
  | .clo .. => false
  | .own _ => false
def okL (B : Nat) : List D → Bool
  | [] => true
  | x :: xs => okD B x && okL B xs
def okK (B : Nat) : List (Key × D) → Bool
  | [] => true
  | (k, x) :: xs => keyOk B k && okD B x && okK B xs
end
mutual
def depD : D → Nat
  | .tup xs => depL xs + 1
  | .lst xs => depL xs + 1
  | .dic kvs => depK kvs + 1
  | _ => 0
def depL : List D → Nat
  | [] => 0
  | x :: xs => max (depD x) (depL xs)
def depK : List (Key × D) → Nat
  | [] => 0
  | (_, x) :: xs => max (depD x) (depK xs)
end
theorem smallI_log {B : Nat} (hB : B ≤ 10 ^ 50) {i : Int} (h : smallI B i = true) : i.natAbs.log2 < 1920 := by
  have h : i.natAbs < 10 ^ 50 := Nat.lt_of_lt_of_le (of_decide_eq_true h) hB
  by_cases h0 : i.natAbs = 0
  · rw [h0]; decide +kernel
  · have : i.natAbs < 2 ^ 1920 := Nat.lt_trans h (by decide +kernel)
    exact (Nat.log2_lt h0).mpr this
theorem smallI_len {B : Nat} (hB : B ≤ 10 ^ 50) {i : Int} (h : smallI B i = true) : (Str.ofString (toString i)).length ≤ 60 := by
  have h : i.natAbs < 10 ^ 50 := Nat.lt_of_lt_of_le (of_decide_eq_true h) hB
  have := int_text_length_le10 (k := 50) (by decide) h
  have e : (Str.ofString (toString i)).length = (toString i).length := ofString_length _
  omega
theorem ascS_len {x : Str} (h : ascS x = true) : (reprText x).length ≤ 10 * x.length + 2 := by
  refine StrLaws.reprText_len x fun c hc => ?_
  have := of_decide_eq_true (List.all_eq_true.mp h c hc)
  have h2 : (128 : Nat) < 16 ^ 8 := by decide
  omega
theorem piled_ge (ts : List Str) : (listText ts).length ≤ piled ts + 2 := by
  unfold listText
  rw [strLen_append]
  have e1 : ((("[" : String) : Str)).length = 1 := rfl
  have e2 : ((("]" : String) : Str)).length = 1 := rfl
  rw [e2]
  cases ts with
  | nil => show (("[" : String) : Str).length + 1 ≤ _; rw [e1]; omega
  | cons t r =>
    have := textFrom_length_pos r 1 ((("[" : String) : Str) ++ (if 0 > 0 then ", " else "" : String) ++ t) (by omega)
    show (textFrom 1 ((("[" : String) : Str) ++ (if 0 > 0 then ", " else "" : String) ++ t) r).length + 1 ≤ _
    rw [this, piled_cons, strLen_append, strLen_append, e1]
    have e3 : (((if 0 > 0 then ", " else "" : String) : Str)).length = 0 := rfl
    rw [e3]
    omega
theorem piled_ge_tup (ts : List Str) : (tupleText ts).length ≤ piled ts + 3 := by
  unfold tupleText
  rw [strLen_append, strLen_append]
  have e1 : ((("(" : String) : Str)).length = 1 := rfl
  have e3 : (((if ts.length == 1 then ",)" else ")" : String) : Str)).length ≤ 2 := by split <;> decide
  rw [e1]
  by_cases h : ts = []
  · subst h
    have : (Str.join ", " []).length = 0 := rfl
    rw [this]
    omega
  · have := join_length_add ts h
    omega
theorem piled_ge_dict (ts : List Str) : (dictText ts).length ≤ piled ts + 2 := by
  unfold dictText
  rw [strLen_append, strLen_append]
  have e1 : ((("{" : String) : Str)).length = 1 := rfl
  have e3 : ((("}" : String) : Str)).length = 1 := rfl
  rw [e1, e3]
  by_cases h : ts = []
  · subst h
    have : (Str.join ", " []).length = 0 := rfl
    rw [this]
    omega
  · have := join_length_add ts h
    omega
theorem key_deep {B : Nat} (hB : B ≤ 10 ^ 50) (k : Key) (h : keyOk B k = true) : (keyP k).showable = true ∧ (keyP k).depth = 0 ∧ (keyP k).shown.length ≤ wtKey k := by
  cases k with
  | inl i =>
    refine ⟨?_, rfl, smallI_len hB h⟩
    show decide (i.natAbs.log2 < 1920) = true
    exact decide_eq_true (smallI_log hB h)
  | inr x =>
    refine ⟨rfl, rfl, ?_⟩
    show (reprText x).length ≤ 10 * x.length + 60
    have := ascS_len (x := x) h
    omega
mutual
theorem okD_deep {B : Nat} (hB : B ≤ 10 ^ 50) : ∀ (d : D), okD B d = true → ∃ p, deep d = some p ∧ p.showable = true ∧ p.depth = depD d ∧ p.shown.length ≤ wtD d
  | .non, _ => ⟨.none, rfl, rfl, rfl, by decide +kernel⟩
  | .bl b, _ => ⟨.bool b, rfl, rfl, rfl, by cases b <;> decide +kernel⟩
  | .int i, h => ⟨.int i, rfl, decide_eq_true (smallI_log hB h), rfl, smallI_len hB h⟩
  | .str x, h => ⟨.str x, rfl, rfl, rfl, by
    show (reprText x).length ≤ 10 * x.length + 60
    have := ascS_len (x := x) h
    omega⟩
  | .tup xs, h => by
    obtain ⟨ps, e, h1, h2, h3⟩ := okL_deep hB xs h
    refine ⟨.tuple ps, ?_, h1, by show PyData.depthAll ps + 1 = _; rw [h2]; rfl, ?_⟩
    · show (deeps xs).map PyData.tuple = _; rw [e]; rfl
    · show (tupleText (PyData.shownAll ps)).length ≤ wtL xs + 60
      have := piled_ge_tup (PyData.shownAll ps)
      omega
  | .lst xs, h => by
    obtain ⟨ps, e, h1, h2, h3⟩ := okL_deep hB xs h
    refine ⟨.list ps, ?_, h1, by show PyData.depthAll ps + 1 = _; rw [h2]; rfl, ?_⟩
    · show (deeps xs).map PyData.list = _; rw [e]; rfl
    · show (listText (PyData.shownAll ps)).length ≤ wtL xs + 60
      have := piled_ge (PyData.shownAll ps)
      omega
  | .frz _, h => (Bool.false_ne_true h).elim
  | .dic kvs, h => by
    obtain ⟨ps, e, h1, h2, h3⟩ := okK_deep hB kvs h
    refine ⟨.dict ps, ?_, h1, by show PyData.depthKv ps + 1 = _; rw [h2]; rfl, ?_⟩
    · show (deepk kvs).map PyData.dict = _; rw [e]; rfl
    · show (dictText (PyData.shownKv ps)).length ≤ wtK kvs + 60
      have := piled_ge_dict (PyData.shownKv ps)
      omega
  | .ref _, h => (Bool.false_ne_true h).elim
  | .clo _ _, h => (Bool.false_ne_true h).elim
  | .own _, h => (Bool.false_ne_true h).elim
theorem okL_deep {B : Nat} (hB : B ≤ 10 ^ 50) : ∀ (xs : List D), okL B xs = true → ∃ ps, deeps xs = some ps ∧ PyData.showableAll ps = true ∧ PyData.depthAll ps = depL xs ∧ piled (PyData.shownAll ps) ≤ wtL xs
  | [], _ => ⟨[], rfl, rfl, rfl, Nat.le_refl _⟩
  | x :: xs, h => by
    have h : (okD B x && okL B xs) = true := h
    rw [Bool.and_eq_true] at h
    obtain ⟨p, e, h1, h2, h3⟩ := okD_deep hB x h.1
    obtain ⟨ps, e', h1', h2', h3'⟩ := okL_deep hB xs h.2
    refine ⟨p :: ps, ?_, ?_, ?_, ?_⟩
    · show (match deep x, deeps xs with | some a, some b => some (a :: b) | _, _ => none) = _; rw [e, e']
    · show (p.showable && PyData.showableAll ps) = true; rw [h1, h1']; rfl
    · show max p.depth (PyData.depthAll ps) = max (depD x) (depL xs); rw [h2, h2']
    · show piled (p.shown :: PyData.shownAll ps) ≤ wtD x + 2 + wtL xs
      rw [piled_cons]
      omega
theorem okK_deep {B : Nat} (hB : B ≤ 10 ^ 50) : ∀ (xs : List (Key × D)), okK B xs = true → ∃ ps, deepk xs = some ps ∧ PyData.showableKv ps = true ∧ PyData.depthKv ps = depK xs ∧ piled (PyData.shownKv ps) ≤ wtK xs
  | [], _ => ⟨[], rfl, rfl, rfl, Nat.le_refl _⟩
  | (k, x) :: xs, h => by
    have h : (keyOk B k && okD B x && okK B xs) = true := h
    rw [Bool.and_eq_true, Bool.and_eq_true] at h
    obtain ⟨p, e, h1, h2, h3⟩ := okD_deep hB x h.1.2
    obtain ⟨ps, e', h1', h2', h3'⟩ := okK_deep hB xs h.2
    obtain ⟨g1, g2, g3⟩ := key_deep hB k h.1.1
    refine ⟨(keyP k, p) :: ps, ?_, ?_, ?_, ?_⟩
    · show (match deep x, deepk xs with | some a, some b => some ((keyP k, a) :: b) | _, _ => none) = _; rw [e, e']
    · show ((keyP k).showable && p.showable && PyData.showableKv ps) = true; rw [h1, h1', g1]; rfl
    · show max (max (keyP k).depth p.depth) (PyData.depthKv ps) = max (depD x) (depK xs); rw [h2, h2', g2, Nat.zero_max]
    · show piled (((keyP k).shown ++ ": " ++ p.shown) :: PyData.shownKv ps) ≤ wtKey k + wtD x + 4 + wtK xs
      rw [piled_cons, strLen_append, strLen_append]
      have : (((": " : String) : Str)).length = 2 := rfl
      omega
end
theorem reprD_ok {B : Nat} (hB : B ≤ 10 ^ 50) {d : D} (h : okD B d = true) (h1 : depD d ≤ 150) (h2 : wtD d ≤ SL) : ∃ x, ∀ S, reprD d S = .ok (.str x) S := by
  obtain ⟨p, e, g1, g2, g3⟩ := okD_deep hB d h
  refine ⟨p.shown, fun S => ?_⟩
  unfold reprD
  rw [e]
  show (if p.showable = true ∧ p.depth ≤ 150 ∧ p.shown.length ≤ SL then pure (D.str p.shown) else M.fail : M D) S = _
  rw [if_pos ⟨g1, by omega, by omega⟩]
  rfl
/-! ### lists -/
theorem okL_all {B : Nat} : ∀ {xs : List D}, okL B xs = true ↔ ∀ x ∈ xs, okD B x = true
  | [] => ⟨fun _ _ h => (List.not_mem_nil h).elim, fun _ => rfl⟩
  | x :: xs => by
    show (okD B x && okL B xs) = true ↔ _
    rw [Bool.and_eq_true, okL_all (xs := xs)]
    simp
theorem okL_append {B : Nat} {xs ys : List D} : okL B (xs ++ ys) = (okL B xs && okL B ys) := by
  induction xs with
  | nil => rfl
  | cons x xs ih =>
    show (okD B x && okL B (xs ++ ys)) = (okD B x && okL B xs && okL B ys)
    rw [ih, Bool.and_assoc]
theorem wtL_append : ∀ (xs ys : List D), wtL (xs ++ ys) = wtL xs + wtL ys
  | [], ys => by show wtL ys = 0 + _; omega
  | x :: xs, ys => by
    show wtD x + 2 + wtL (xs ++ ys) = wtD x + 2 + wtL xs + wtL ys
    rw [wtL_append xs ys]
    omega
theorem depL_append : ∀ (xs ys : List D), depL (xs ++ ys) = max (depL xs) (depL ys)
  | [], ys => by show depL ys = max 0 _; omega
  | x :: xs, ys => by
    show max (depD x) (depL (xs ++ ys)) = max (max (depD x) (depL xs)) (depL ys)
    rw [depL_append xs ys]
    omega
theorem wtL_mem : ∀ {xs : List D} {d : D}, d ∈ xs → wtD d ≤ wtL xs
  | x :: xs, d, h => by
    show _ ≤ wtD x + 2 + wtL xs
    rcases List.mem_cons.mp h with rfl | h
    · omega
    · have := wtL_mem h; omega
theorem depL_le {n : Nat} : ∀ {xs : List D}, depL xs ≤ n ↔ ∀ x ∈ xs, depD x ≤ n
  | [] => ⟨fun _ _ h => (List.not_mem_nil h).elim, fun _ => Nat.zero_le _⟩
  | x :: xs => by
    show max (depD x) (depL xs) ≤ n ↔ _
    rw [Nat.max_le, depL_le (xs := xs)]
    simp
theorem wtL_len : ∀ (xs : List D), 2 * xs.length ≤ wtL xs
  | [] => Nat.le_refl _
  | x :: xs => by
    show 2 * (xs.length + 1) ≤ wtD x + 2 + wtL xs
    have := wtL_len xs
    omega
mutual
theorem okD_mono {B B' : Nat} (hB : B ≤ B') : ∀ (d : D), okD B d = true → okD B' d = true
  | .non, _ => rfl
  | .bl _, _ => rfl
  | .int i, h => decide_eq_true (Nat.lt_of_lt_of_le (of_decide_eq_true h) hB)
  | .str x, h => h
  | .tup xs, h => okL_mono hB xs h
  | .lst xs, h => okL_mono hB xs h
  | .frz _, h => (Bool.false_ne_true h).elim
  | .dic kvs, h => okK_mono hB kvs h
  | .ref _, h => (Bool.false_ne_true h).elim
  | .clo _ _, h => (Bool.false_ne_true h).elim
  | .own _, h => (Bool.false_ne_true h).elim
theorem okL_mono {B B' : Nat} (hB : B ≤ B') : ∀ (xs : List D), okL B xs = true → okL B' xs = true
  | [], _ => rfl
  | x :: xs, h => by
    have h : (okD B x && okL B xs) = true := h
    rw [Bool.and_eq_true] at h
    show (okD B' x && okL B' xs) = true
    rw [okD_mono hB x h.1, okL_mono hB xs h.2]
    rfl
theorem okK_mono {B B' : Nat} (hB : B ≤ B') : ∀ (xs : List (Key × D)), okK B xs = true → okK B' xs = true
  | [], _ => rfl
  | (k, x) :: xs, h => by
    have h : (keyOk B k && okD B x && okK B xs) = true := h
    rw [Bool.and_eq_true, Bool.and_eq_true] at h
    show (keyOk B' k && okD B' x && okK B' xs) = true
    have hk : keyOk B' k = true := by
      cases k with
      | inl i => exact decide_eq_true (Nat.lt_of_lt_of_le (of_decide_eq_true h.1.1) hB)
      | inr x => exact h.1.1
    rw [okD_mono hB x h.1.2, okK_mono hB xs h.2, hk]
    rfl
end
end MP

/-! MP31: what a run ends in: functions as arguments, while, +=, dict displays. -/
namespace MP
open PySem L2
section
variable (φ : Nat → List D → M D) {ρ : Env} {S : Sto}
@[simp ↓] theorem WE_app (i es Q) : W (evE φ (.app i es) ρ) S Q = W (getC ρ i) S (fun c S1 => W (evL φ es ρ) S1 (fun ds S2 => W (appD φ c ds) S2 Q)) := by
  show W (getC ρ i >>= fun c => evL φ es ρ >>= fun ds => appD φ c ds) S Q = _
  simp only [W_bind]
@[simp ↓] theorem WE_callc (k as Q) : W (evE φ (.callc k as) ρ) S Q = W (evAx φ as ρ) S (fun ds S1 => W (φ k ds) S1 Q) := by
  show W (evAx φ as ρ >>= φ k) S Q = _
  simp only [W_bind]
@[simp ↓] theorem WE_callkw (k es Q) : W (evE φ (.callkw k es) ρ) S Q = W (evL φ es ρ) S (fun ds S1 => W (φ k ds) S1 Q) := by
  show W (evL φ es ρ >>= φ k) S Q = _
  simp only [W_bind]
@[simp ↓] theorem WE_dicE (ks es Q) : W (evE φ (.dicE ks es) ρ) S Q = W (evL φ es ρ) (S ++ [.dic []]) (fun ds S1 => W (if ds.length = ks.length ∧ ks.length ≤ 15 then fillD S.length (mergeD [] (ks.zip ds)) else M.fail) S1 Q) := by
  show W (evL φ es ρ >>= fun ds => if ds.length = ks.length ∧ ks.length ≤ 15 then fillD S.length (mergeD [] (ks.zip ds)) else M.fail) (S ++ [.dic []]) Q = _
  rw [W_bind]
@[simp ↓] theorem WE_lzip (a b Q) : W (evE φ (.lzip a b) ρ) S Q = W (evE φ a ρ) S (fun n S1 => W (evE φ b ρ) S1 (fun t S2 => W (lzipD n t) S2 Q)) := by
  show W (evE φ a ρ >>= fun n => evE φ b ρ >>= fun t => lzipD n t) S Q = _
  simp only [W_bind]
@[simp ↓] theorem WAx_nil (Q) : W (evAx φ .nil ρ) S Q = Q [] S := rfl
@[simp ↓] theorem WAx_d (e r Q) : W (evAx φ (.d e r) ρ) S Q = W (evE φ e ρ) S (fun d S1 => W (evAx φ r ρ) S1 (fun ds S2 => Q (d :: ds) S2)) := by
  show W (evE φ e ρ >>= fun d => evAx φ r ρ >>= fun ds => pure (d :: ds)) S Q = _
  simp only [W_bind, W_pure]
@[simp ↓] theorem WAx_par (i r Q) : W (evAx φ (.par i r) ρ) S Q = W (getC ρ i) S (fun d S1 => W (evAx φ r ρ) S1 (fun ds S2 => Q (d :: ds) S2)) := by
  show W (getC ρ i >>= fun d => evAx φ r ρ >>= fun ds => pure (d :: ds)) S Q = _
  simp only [W_bind, W_pure]
@[simp ↓] theorem WAx_glb (k r Q) : W (evAx φ (.glb k r) ρ) S Q = W (evAx φ r ρ) S (fun ds S2 => Q (.clo k [] :: ds) S2) := by
  show W ((pure (.clo k []) : M D) >>= fun d => evAx φ r ρ >>= fun ds => pure (d :: ds)) S Q = _
  simp only [W_bind, W_pure]
@[simp ↓] theorem WAx_lam (k js r Q) : W (evAx φ (.lam k js r) ρ) S Q = W (capsD ρ js) S (fun cs S1 => W (evAx φ r ρ) S1 (fun ds S2 => Q (.clo k cs :: ds) S2)) := by
  show W ((capsD ρ js >>= fun ds => pure (.clo k ds)) >>= fun d => evAx φ r ρ >>= fun ds => pure (d :: ds)) S Q = _
  simp only [W_bind, W_pure]
@[simp ↓] theorem WAx_own (i k js r Q) : W (evAx φ (.own i k js r) ρ) S Q = W (getO ρ i k) S (fun _ S0 => W (capsD ρ js) S0 (fun cs S1 => W (evAx φ r ρ) S1 (fun ds S2 => Q (.clo k cs :: ds) S2))) := by
  show W ((getO ρ i k >>= fun _ => capsD ρ js >>= fun ds => pure (.clo k ds)) >>= fun d => evAx φ r ρ >>= fun ds => pure (d :: ds)) S Q = _
  simp only [W_bind, W_pure]
@[simp ↓] theorem WS_whl (n t b Q) : W (evS φ (.whl n t b) ρ) S Q = W (whlF (evT φ t) (evSs φ b) n ρ) S Q := rfl
@[simp ↓] theorem WS_aug (i e Q) : W (evS φ (.aug i e) ρ) S Q = W (getV ρ i) S (fun d S1 => W (evE φ e ρ) S1 (fun b S2 => W (augI d b) S2 (fun r S3 => Q (.next (ρ.set i (some r))) S3))) := by
  show W (getV ρ i >>= fun d => evE φ e ρ >>= fun b => augI d b >>= fun r => pure (.next (ρ.set i (some r)))) S Q = _
  simp only [W_bind, W_pure]
@[simp ↓] theorem WS_dfn (i k Q) : W (evS φ (.dfn i k) ρ) S Q = Q (.next (ρ.set i (some (.own k)))) S := rfl
end
@[simp ↓] theorem getC_0 (k : Nat) (cs : List D) (r : Env) (S : Sto) (Q) : W (getC (some (.clo k cs) :: r) 0) S Q = Q (.clo k cs) S := rfl
@[simp ↓] theorem getC_n (d : Option D) (r : Env) (n : Nat) (S : Sto) (Q) : W (getC (d :: r) (n + 1)) S Q = W (getC r n) S Q := by
  unfold getC
  rw [List.getElem?_cons_succ]
@[simp ↓] theorem getO_0 (k : Nat) (r : Env) (S : Sto) (Q) : W (getO (some (.own k) :: r) 0 k) S Q = Q () S := by
  unfold getO
  simp
@[simp ↓] theorem getO_n (d : Option D) (r : Env) (n k : Nat) (S : Sto) (Q) : W (getO (d :: r) (n + 1) k) S Q = W (getO r n k) S Q := by
  unfold getO
  rw [List.getElem?_cons_succ]
@[simp ↓] theorem W_appD (φ : Nat → List D → M D) (k : Nat) (cs ds : List D) (S : Sto) (Q) : W (appD φ (.clo k cs) ds) S Q = W (φ k (ds ++ cs)) S Q := rfl
@[simp ↓] theorem W_capsN (ρ : Env) (S : Sto) (Q) : W (capsD ρ []) S Q = Q [] S := rfl
@[simp ↓] theorem W_capsC (ρ : Env) (j : Nat) (js : List Nat) (S : Sto) (Q) : W (capsD ρ (j :: js)) S Q = W (getV ρ j) S (fun d S1 => W (capsD ρ js) S1 (fun ds S2 => Q (d :: ds) S2)) := by
  show W (getV ρ j >>= fun d => capsD ρ js >>= fun ds => pure (d :: ds)) S Q = _
  simp only [W_bind, W_pure]
@[simp ↓] theorem W_augI (a b : Int) (S : Sto) (Q) : W (augI (.int a) (.int b)) S Q = Q (.int (a + b)) S := rfl
@[simp ↓] theorem W_getV0 (d : D) (r : Env) (S : Sto) (Q) : W (getV (some d :: r) 0) S Q = Q d S := rfl
@[simp ↓] theorem W_getVn (d : Option D) (r : Env) (n : Nat) (S : Sto) (Q) : W (getV (d :: r) (n + 1)) S Q = W (getV r n) S Q := by
  unfold getV
  rw [List.getElem?_cons_succ]
theorem W_whl (gt : Env → M Bool) (gb : Env → M Fl) (k : Nat) (ρ : Env) (S : Sto) (Q) : W (whlF gt gb (k + 1) ρ) S Q = W (gt ρ) S (fun t S1 => if t = true then W (gb ρ) S1 (fun fl S2 => match fl with
    | .next ρ2 => W (whlF gt gb k ρ2) S2 Q
    | .cont ρ2 => W (whlF gt gb k ρ2) S2 Q
    | .brk ρ2 => Q (.next ρ2) S2
    | .ret d => Q (.ret d) S2) else Q (.next ρ) S1) := by
  show W (gt ρ >>= fun t => if t = true then gb ρ >>= fun fl => (match fl with
      | .next ρ2 => whlF gt gb k ρ2
      | .cont ρ2 => whlF gt gb k ρ2
      | .brk ρ2 => pure (.next ρ2)
      | .ret d => pure (.ret d)) else pure (.next ρ)) S Q = _
  rw [W_bind]
  congr 1
  funext t S1
  cases t with
  | false => rfl
  | true =>
    rw [if_pos rfl, if_pos rfl, W_bind]
    congr 1
    funext fl S2
    cases fl <;> rfl
end MP

/-! MP32: exceptions as things: the equations. -/
namespace MP
open PySem L2
section
variable (φ : Nat → List D → M D) (S : Sto) (ρ : Env)
@[simp ↓] theorem W_mk (k es Q) : W (evE φ (.mk k es) ρ) S Q = W (evL φ es ρ) S (fun ds S1 => W (φ k ds) S1 Q) := by
  show W (evL φ es ρ >>= φ k) S Q = _
  simp only [W_bind]
@[simp ↓] theorem W_isx (y yes a Q) : W (evE φ (.isx y yes a) ρ) S Q = W (evE φ a ρ) S (fun d S1 => W (isxD yes d) S1 Q) := by
  show W (evE φ a ρ >>= isxD yes) S Q = _
  simp only [W_bind]
@[simp ↓] theorem W_fld (f a Q) : W (evE φ (.fld f a) ρ) S Q = W (evE φ a ρ) S (fun d S1 => W (fldD f d) S1 Q) := by
  show W (evE φ a ρ >>= fldD f) S Q = _
  simp only [W_bind]
@[simp ↓] theorem W_lrng (m a Q) : W (evE φ (.lrng m a) ρ) S Q = W (evE φ a ρ) S (fun d S1 => W (lrngD m d) S1 Q) := by
  show W (evE φ a ρ >>= lrngD m) S Q = _
  simp only [W_bind]
end
theorem isx_at {S : Sto} {n c : Nat} {fs : List (Str × D)} (h : S[n]? = some (.exc c fs)) (yes : List Nat) : isxD yes (.ref n) S = .ok (.bl (yes.contains c)) S := by
  show (match S[n]? with | some (.exc c _) => R.ok (D.bl (yes.contains c)) S | _ => .bad) = _
  rw [h]
theorem fld_at {S : Sto} {n c : Nat} {fs : List (Str × D)} {f : Str} {v : D} (h : S[n]? = some (.exc c fs)) (hv : fs.lookup f = some v) : fldD f (.ref n) S = .ok v S := by
  show (match S[n]? with | some (.exc _ fs) => (match fs.lookup f with | some v => R.ok v S | none => .bad) | _ => .bad) = _
  rw [h]
  dsimp only
  rw [hv]
end MP

/-! PL1: names, figures, far names: what the package's looks tell. -/
namespace PL
open MP PySem L2
def lowB (c : Nat) : Bool := decide (97 ≤ c) && decide (c ≤ 122)
def nameS (x : Str) : Bool := decide (1 ≤ x.length) && decide (x.length ≤ 8) && x.cps.toList.all lowB
def nameB : D → Bool
  | .str x => nameS x
  | _ => false
/-- a text that may be looked at -/
def fitD : D → Prop
  | .str x => x.length ≤ SL
  | _ => True
theorem letters_mem (c : Nat) : decide (c ∈ (Str.ofString "abcdefghijklmnopqrstuvwxyz").cps.toList) = lowB c := by
  have e : (Str.ofString "abcdefghijklmnopqrstuvwxyz").cps.toList = [97, 98, 99, 100, 101, 102, 103, 104, 105, 106, 107, 108, 109, 110, 111, 112, 113, 114, 115, 116, 117, 118, 119, 120, 121, 122] := by decide +kernel
  rw [e]
  unfold lowB
  rw [← Bool.decide_and]
  apply decide_eq_decide.mpr
  simp only [List.mem_cons, List.not_mem_nil, or_false]
  omega
def figB (c : Nat) : Bool := decide (48 ≤ c) && decide (c ≤ 57)
theorem figures_mem (c : Nat) : decide (c ∈ (Str.ofString "0123456789").cps.toList) = figB c := by
  have e : (Str.ofString "0123456789").cps.toList = [48, 49, 50, 51, 52, 53, 54, 55, 56, 57] := by decide +kernel
  rw [e]
  unfold figB
  rw [← Bool.decide_and]
  apply decide_eq_decide.mpr
  simp only [List.mem_cons, List.not_mem_nil, or_false]
  omega
/-- the i-th sign's test, over a text's signs -/
def ofSign (p : Nat → Bool) : D → Bool
  | .str x => match x.cps.toList with
    | [c] => p c
    | _ => false
  | _ => false
theorem signs_mem {x : Str} {d : D} (h : d ∈ signsL x) : ∃ c, c ∈ x.cps.toList ∧ d = .str ⟨#[c]⟩ := by
  unfold signsL at h
  obtain ⟨c, hc, rfl⟩ := List.mem_map.mp h
  exact ⟨c, hc, rfl⟩
theorem signs_map (p : Nat → Bool) (x : Str) : ((signsL x).map fun d => D.bl (ofSign p d)) = (x.cps.toList.map p).map D.bl := by
  unfold signsL
  rw [List.map_map, List.map_map]
  rfl
theorem signs_len (x : Str) : (signsL x).length = x.length := by
  unfold signsL
  rw [List.length_map, Array.length_toList]
  rfl
def figS (x : Str) : Bool := decide (1 ≤ x.length) && decide (x.length ≤ 40) && x.cps.toList.all figB && (decide (x = "0") || !(x.cps.toList.head? == some 48))
theorem sign0 (c : Nat) : (some c == some 48) = decide ((⟨#[c]⟩ : Str) = "0") := by
  have e : ("0" : Str) = ⟨#[48]⟩ := by decide +kernel
  rw [e]
  by_cases h : c = 48
  · subst h; rfl
  · have h2 : ¬ (⟨#[c]⟩ : Str) = ⟨#[48]⟩ := fun z => h (by injection z with z; simpa using z)
    rw [decide_eq_false h2]
    simp [h]
def isNameB (g2 g0 : Nat) : Sxs :=
    (.cons (.ite (.or (.cons (.not (.val (.isi .str (.var 0)))) (.cons (.not (.chn .le .le (.int 1) (.fn .len false (.cons (.var 0) .nil)) (.glb g2 (.int 8)))) .nil))) (.cons (.ret (.bl false))
    .nil) .nil)
    (.cons (.ret (.fn .all false (.cons (.lc false (.nm 1) (.seq (.var 0)) .nil (.cmp .inn (.var 1) (.glb g0 (.str "abcdefghijklmnopqrstuvwxyz"))) [1]) .nil)))
    .nil))
def areFiguresB (g3 g1 : Nat) : Sxs :=
    (.cons (.ite (.or (.cons (.not (.chn .le .le (.int 1) (.fn .len false (.cons (.var 0) .nil)) (.glb g3 (.int 40)))) (.cons (.not (.val (.fn .all false (.cons (.lc false (.nm 1) (.seq (.var 0)) .nil (.cmp .inn (.var 1) (.glb g1 (.str "0123456789"))) [1]) .nil)))) .nil))) (.cons (.ret (.bl false))
    .nil) .nil)
    (.cons (.ret (.or (.cmp .eq (.var 0) (.str "0")) (.one (.cmp .ne (.ix (.var 0) (.int 0)) (.str "0")))))
    .nil))
def isFarB (kn kf : Nat) : Sxs :=
    (.cons (.ite (.not (.val (.isi .str (.var 0)))) (.cons (.ret (.bl false))
    .nil) .nil)
    (.cons (.set 1 (.me .split false (.var 0) (.cons (.str ".") .nil)))
    (.cons (.ite (.or (.cons (.cmp .ne (.fn .len false (.cons (.var 1) .nil)) (.int 3)) (.cons (.not (.val (.call kn (.cons (.ix (.var 1) (.int 0)) .nil)))) (.cons (.not (.val (.call kn (.cons (.ix (.var 1) (.int 2)) .nil)))) .nil)))) (.cons (.ret (.bl false))
    .nil) .nil)
    (.cons (.ret (.and (.call kf (.cons (.ix (.var 1) (.int 1)) .nil)) (.one (.cmp .ne (.ix (.var 1) (.int 1)) (.str "0")))))
    .nil))))
theorem is_name_b {φ : Nat → List D → M D} {g2 g0 : Nat} (d : D) (S : Sto) (h : fitD d) (hr : ∀ n, d ≠ .ref n) : bodyD 2 (evSs φ (isNameB g2 g0)) [d] S = .ok (.bl (nameB d)) S := by
  cases d with
  | str x =>
    have hx : x.length ≤ SL := h
    have lc : lcS false (Tg.nm 1).ev (evA (φ) .nil) (evE (φ) (Ex.cmp Cop.inn (Ex.var 1) (Ex.glb g0 (D.str (Str.ofString "abcdefghijklmnopqrstuvwxyz"))))) (wipeE [some (D.str x), none] [1]) (.fix (signsL x)) S = .ok (.lst ((x.cps.toList.map lowB).map D.bl)) S := by
      rw [lcS_pure (t := fun _ => true) (e := fun d => D.bl (ofSign lowB d)) (fun d hd => ?_) (by rw [signs_len]; exact hx)]
      · rw [List.filter_eq_self.mpr (fun _ _ => rfl), signs_map]
      · obtain ⟨c, hc, rfl⟩ := signs_mem hd
        refine ⟨_, rfl, rfl, fun _ => ?_⟩
        show R.ok (D.bl (decide (c ∈ (Str.ofString "abcdefghijklmnopqrstuvwxyz").cps.toList))) S = .ok (D.bl (lowB c)) S
        rw [letters_mem]
    by_cases h1 : 1 ≤ x.length
    · by_cases h2 : x.length ≤ 8
      · have h1' : (1 : Int) ≤ (x.length : Int) := by omega
        have h2' : (x.length : Int) ≤ 8 := by omega
        simp [bodyD, isNameB, startD, lenD_str hx, isiD, h1', h2', lc, allD_bools, nameB, nameS, h1, h2]
      · have h1' : (1 : Int) ≤ (x.length : Int) := by omega
        have h2' : ¬ (x.length : Int) ≤ 8 := by omega
        simp [bodyD, isNameB, startD, lenD_str hx, isiD, h1', h2', nameB, nameS, h1, h2]
    · have h1' : ¬ (1 : Int) ≤ (x.length : Int) := by omega
      simp [bodyD, isNameB, startD, lenD_str hx, isiD, h1', nameB, nameS, h1]
  | ref n => exact absurd rfl (hr n)
  | _ => rfl
theorem are_figures_b {φ : Nat → List D → M D} {g3 g1 : Nat} (x : Str) (S : Sto) (hx : x.length ≤ SL) : bodyD 2 (evSs φ (areFiguresB g3 g1)) [.str x] S = .ok (.bl (figS x)) S := by
  have lc : lcS false (Tg.nm 1).ev (evA (φ) .nil) (evE (φ) (Ex.cmp Cop.inn (Ex.var 1) (Ex.glb g1 (D.str (Str.ofString "0123456789"))))) (wipeE [some (D.str x), none] [1]) (.fix (signsL x)) S = .ok (.lst ((x.cps.toList.map figB).map D.bl)) S := by
    rw [lcS_pure (t := fun _ => true) (e := fun d => D.bl (ofSign figB d)) (fun d hd => ?_) (by rw [signs_len]; exact hx)]
    · rw [List.filter_eq_self.mpr (fun _ _ => rfl), signs_map]
    · obtain ⟨c, hc, rfl⟩ := signs_mem hd
      refine ⟨_, rfl, rfl, fun _ => ?_⟩
      show R.ok (D.bl (decide (c ∈ (Str.ofString "0123456789").cps.toList))) S = .ok (D.bl (figB c)) S
      rw [figures_mem]
  by_cases h1 : 1 ≤ x.length
  · by_cases h2 : x.length ≤ 40
    · have h1' : (1 : Int) ≤ (x.length : Int) := by omega
      have h2' : (x.length : Int) ≤ 40 := by omega
      obtain ⟨c, r, hc⟩ : ∃ c r, x.cps.toList = c :: r := by
        cases q : x.cps.toList with
        | nil =>
          have : x.length = 0 := by
            show x.cps.size = 0
            rw [← Array.length_toList, q]
            rfl
          omega
        | cons c r => exact ⟨c, r, rfl⟩
      have h0 : ixD (.str x) (.int 0) S = .ok (.str ⟨#[c]⟩) S := by
        rw [ixD_str hx, show (0 : Int) = ((0 : Nat) : Int) from rfl, MP.atI_nat, hc]
        rfl
      have hall : allD [.lst ((x.cps.toList.map figB).map D.bl)] S = .ok (.bl (x.cps.toList.all figB)) S := by
        rw [List.map_map]
        exact allD_map figB _ S
      have hh : (x.cps.toList.head? == some 48) = decide ((⟨#[c]⟩ : Str) = "0") := by rw [hc]; exact sign0 c
      unfold figS
      rw [hh]
      generalize x.cps.toList.all figB = A at hall
      have he : eqD (.str x) (.str "0") S = .ok (.bl (decide (x = "0"))) S := rfl
      have hn : neD (.str ⟨#[c]⟩) (.str "0") S = .ok (.bl (!decide ((⟨#[c]⟩ : Str) = "0"))) S := rfl
      generalize decide (x = "0") = B at he
      generalize decide ((⟨#[c]⟩ : Str) = "0") = C at hn
      cases A <;> cases B <;> simp [bodyD, areFiguresB, startD, lenD_str hx, isiD, h1', h2', lc, hall, -List.map_map, h1, h2, h0, he, hn, -eq_str, -ne_str]
    · have h1' : (1 : Int) ≤ (x.length : Int) := by omega
      have h2' : ¬ (x.length : Int) ≤ 40 := by omega
      simp [bodyD, areFiguresB, startD, lenD_str hx, isiD, h1', h2', figS, h1, h2]
  · have h1' : ¬ (1 : Int) ≤ (x.length : Int) := by omega
    simp [bodyD, areFiguresB, startD, lenD_str hx, isiD, h1', figS, h1]
abbrev dot : Str := "."
theorem dot_len : dot.length = 1 := by decide +kernel
theorem kind_dot : Builtin.Str.strKind dot = 1 := by decide +kernel
theorem kind_ge (x : Str) : 1 ≤ Builtin.Str.strKind x := by
  unfold Builtin.Str.strKind
  split
  · exact Nat.le_refl _
  · split <;> decide
def occ (x : Str) : List Nat := Builtin.Str.occurrences x dot 0 x.length (x.length + 1)
theorem count_occ (x : Str) : Txt.count x dot = ((occ x).length : Nat) := rfl
theorem occ_empty {x : Str} (h : x.length < 1) : occ x = [] := by
  obtain ⟨c⟩ := x
  have e : c = #[] := Array.eq_empty_of_size_eq_zero (by
    have : c.size < 1 := h
    omega)
  subst e
  decide +kernel
theorem split_eq (x : Str) : Txt.split x dot = if (occ x).isEmpty = true then [x] else Builtin.Str.partsBetween x (occ x) 1 := by
  unfold Txt.split
  by_cases h : x.length < dot.length
  · rw [decide_eq_true h, Bool.true_or, if_pos rfl, occ_empty (by rw [dot_len] at h; exact h)]
    rfl
  · have k : ¬ Builtin.Str.strKind x < Builtin.Str.strKind dot := by
      have := kind_ge x
      rw [kind_dot]
      omega
    rw [decide_eq_false h, decide_eq_false k, Bool.or_false, if_neg Bool.false_ne_true]
    rfl
theorem split_len (x : Str) : (Txt.split x dot).length = (occ x).length + 1 := by
  rw [split_eq]
  cases q : occ x with
  | nil => rfl
  | cons a r =>
    rw [if_neg (by simp), ← q]
    exact PySem.length_partsBetween x (occ x) 1
theorem sub_len (x : Str) (i j : Nat) : (Builtin.Str.strSub x i j).length ≤ x.length := by
  show (Builtin.Str.strSub x i j).cps.size ≤ x.cps.size
  rw [← Array.length_toList, ← Array.length_toList, StrLaws.strSub_toList, List.length_take, List.length_drop]
  omega
theorem split_word {x w : Str} (h : w ∈ Txt.split x dot) : w.length ≤ x.length := by
  rw [split_eq] at h
  split at h
  · obtain rfl : w = x := by simpa using h
    exact Nat.le_refl _
  · unfold Builtin.Str.partsBetween at h
    obtain ⟨p, _, rfl⟩ := List.mem_map.mp h
    exact sub_len x _ _
/-- far names -/
def farW : List Str → Bool
  | [a, b, c] => nameS a && nameS c && figS b && !decide (b = "0")
  | _ => false
def farB : D → Bool
  | .str x => farW (Txt.split x dot)
  | _ => false
theorem splitD_dot {x : Str} (h : x.length + 2 ≤ SL) (S : Sto) : splitD false (.str x) [.str "."] S = .ok (.lst ((Txt.split x dot).map D.str)) S := by
  show (if (dot.length == 0) = false ∧ x.length + 2 ≤ SL then newL false ((Txt.split x dot).map D.str) S else .bad) = _
  rw [if_pos ⟨by rw [dot_len]; rfl, h⟩]
  rfl
theorem rcS_str (x : Str) (S : Sto) : rcS (.str x) S = .ok () S := rfl
theorem is_far_b {φ : Nat → List D → M D} {kn kf : Nat} (hN : ∀ x S, x.length ≤ SL → φ kn [.str x] S = .ok (.bl (nameS x)) S) (hF : ∀ x S, x.length ≤ SL → φ kf [.str x] S = .ok (.bl (figS x)) S) (d : D) (S : Sto) (h : ∀ x, d = .str x → x.length + 2 ≤ SL) (hr : ∀ n, d ≠ .ref n) : bodyD 2 (evSs φ (isFarB kn kf)) [d] S = .ok (.bl (farB d)) S := by
  cases d with
  | str x =>
    have hx := h x rfl
    have hs := splitD_dot hx S
    have hw := fun w (hw : w ∈ Txt.split x dot) => split_word hw
    show _ = R.ok (D.bl (farW (Txt.split x dot))) S
    generalize Txt.split x dot = ws at hs hw
    have name : ∀ w ∈ ws, φ kn [.str w] S = .ok (.bl (nameS w)) S := fun w hm => hN w S (by have := hw w hm; omega)
    have figs : ∀ w ∈ ws, φ kf [.str w] S = .ok (.bl (figS w)) S := fun w hm => hF w S (by have := hw w hm; omega)
    match ws, hs, hw, name, figs with
    | [], hs, hw, name, figs => simp [bodyD, isFarB, startD, isiD, Me.ev, Me.rc, rcS_str, hs, farW]
    | [a], hs, hw, name, figs => simp [bodyD, isFarB, startD, isiD, Me.ev, Me.rc, rcS_str, hs, farW]
    | [a, b], hs, hw, name, figs => simp [bodyD, isFarB, startD, isiD, Me.ev, Me.rc, rcS_str, hs, farW]
    | [a, b, c], hs, hw, name, figs =>
      have na := name a (by simp)
      have nc := name c (by simp)
      have fb := figs b (by simp)
      have i0 : atI [D.str a, D.str b, D.str c] 0 = some (.str a) := rfl
      have i1 : atI [D.str a, D.str b, D.str c] 1 = some (.str b) := rfl
      have i2 : atI [D.str a, D.str b, D.str c] 2 = some (.str c) := rfl
      have hn : neD (.str b) (.str "0") S = .ok (.bl (!decide (b = "0"))) S := rfl
      show _ = R.ok (D.bl (nameS a && nameS c && figS b && !decide (b = "0"))) S
      generalize nameS a = A at na ⊢
      generalize nameS c = C at nc ⊢
      generalize figS b = B at fb ⊢
      generalize decide (b = "0") = Z at hn ⊢
      cases A <;> cases C <;> cases B <;> simp [bodyD, isFarB, startD, isiD, Me.ev, Me.rc, rcS_str, hs, i0, i1, i2, na, nc, fb, hn, -ne_str]
    | a :: b :: c :: d :: r, hs, hw, name, figs =>
      have hne : ¬ ((r.length : Int) + 1 + 1 + 1 + 1 = 3) := by omega
      simp [bodyD, isFarB, startD, isiD, Me.ev, Me.rc, rcS_str, hs, farW, hne]
  | ref n => exact absurd rfl (hr n)
  | _ => rfl
end PL

/-! PL2: the law's draws: numbers, names, far names. -/
namespace PL
open MP PySem L2
/-! ### the deck: its cells at 0, itself at 1 -/
def Dk (S : Sto) (T : List O) : Prop := ∃ (cs : List Int) (m t : Int), cs.length ≤ 63 ∧ S = .lst (cs.map D.int) :: .lst [.ref 0, .int m, .int t] :: T
theorem draw_fin {φ : Nat → List D → M D} {w m : Int} {T : List O} {Q : D → Sto → Prop} (h0 : 0 < w) (h : ∀ i S', 0 ≤ i → i < w → Dk S' T → Q (.int i) S') (ix2 : ∀ (L : List D) (t : Int), ixD (.ref 1) (.int 2) (.lst L :: .lst [.ref 0, .int m, .int t] :: T) = .ok (.int t) (.lst L :: .lst [.ref 0, .int m, .int t] :: T)) : ∀ (c u : Int) (L : List Int) (S : Sto), L.length ≤ 63 → S = .lst (L.map D.int) :: .lst [.ref 0, .int m, .int u] :: T →
      W (evSs φ (.cons (.set 3 (.bin .mod false (.bin .mul false (.bin .add false (.bin .add false (.bin .mod false (.var 2) (.int 2147483629)) (.bin .mul false (.int 92821) (.ix (.var 0) (.int 2)))) (.int 17)) (.int 48271)) (.int 2147483647)))
    (.cons (.set 3 (.bin .mod false (.bin .add false (.bin .add false (.bin .mul false (.var 3) (.var 3)) (.bin .mul false (.int 69621) (.ix (.var 0) (.int 2)))) (.int 29)) (.int 2147483587)))
    (.cons (.ret (.bin .mod false (.bin .fdiv false (.bin .mod false (.bin .add false (.bin .mul false (.var 3) (.var 3)) (.bin .mul false (.int 40692) (.var 3))) (.int 2147483563)) (.int 64)) (.var 1)))
    .nil))) [some (.ref 1), some (.int w), some (.int c), none]) S (bodyQ Q) := by
    rintro c u L S hL rfl
    have mm : ∀ (x y : Int) (S : Sto) (R : D → Sto → Prop), W (modD (.int x) (.int 2147483647)) S R = R (.int (x % 2147483647)) S := fun x y S R => W_modI (by decide) S R
    simp [W_of (ix2 _ _), W_modI (show (0 : Int) < 2147483647 by decide), W_modI (show (0 : Int) < 2147483629 by decide), W_modI (show (0 : Int) < 2147483587 by decide), W_modI (show (0 : Int) < 2147483563 by decide), W_modI h0, W_fdivI (show (0 : Int) < 64 ∧ (64 : Int) < 1073741824 by decide),
      fun (j : Int) S Q => W_mulI (m := false) (i := 92821) (j := j) (Or.inl (by decide)) S Q, fun (j : Int) S Q => W_mulI (m := false) (i := 69621) (j := j) (Or.inl (by decide)) S Q, fun (j : Int) S Q => W_mulI (m := false) (i := 40692) (j := j) (Or.inl (by decide)) S Q, fun (j : Int) S Q => W_mulI (m := false) (i := j) (j := 48271) (Or.inr (by decide)) S Q]
    generalize hx : ((c % 2147483629 + 92821 * u + 17) * 48271 % 2147483647 : Int) = x
    have hx0 : 0 ≤ x ∧ x < 2147483647 := by omega
    rw [W_mulI (Or.inl (by omega))]
    simp [W_of (ix2 _ _), W_modI (show (0 : Int) < 2147483647 by decide), W_modI (show (0 : Int) < 2147483629 by decide), W_modI (show (0 : Int) < 2147483587 by decide), W_modI (show (0 : Int) < 2147483563 by decide), W_modI h0, W_fdivI (show (0 : Int) < 64 ∧ (64 : Int) < 1073741824 by decide),
      fun (j : Int) S Q => W_mulI (m := false) (i := 92821) (j := j) (Or.inl (by decide)) S Q, fun (j : Int) S Q => W_mulI (m := false) (i := 69621) (j := j) (Or.inl (by decide)) S Q, fun (j : Int) S Q => W_mulI (m := false) (i := 40692) (j := j) (Or.inl (by decide)) S Q, fun (j : Int) S Q => W_mulI (m := false) (i := j) (j := 48271) (Or.inr (by decide)) S Q]
    generalize hy : ((x * x + 69621 * u + 29) % 2147483587 : Int) = y
    have hy0 : 0 ≤ y ∧ y < 2147483587 := by omega
    rw [W_mulI (Or.inl (by omega))]
    simp [W_of (ix2 _ _), W_modI (show (0 : Int) < 2147483647 by decide), W_modI (show (0 : Int) < 2147483629 by decide), W_modI (show (0 : Int) < 2147483587 by decide), W_modI (show (0 : Int) < 2147483563 by decide), W_modI h0, W_fdivI (show (0 : Int) < 64 ∧ (64 : Int) < 1073741824 by decide),
      fun (j : Int) S Q => W_mulI (m := false) (i := 40692) (j := j) (Or.inl (by decide)) S Q]
    exact h _ _ (Int.emod_nonneg _ (by omega)) (Int.emod_lt_of_pos _ h0) ⟨L, m, u, hL, rfl⟩
def drawB : Sxs :=
    (.cons (.put (.var 0) (.int 2) (.bin .add false (.ix (.var 0) (.int 2)) (.int 1)))
    (.cons (.set 2 (.ix (.var 0) (.int 1)))
    (.cons (.ite (.cmp .ne (.ix (.var 0) (.int 0)) (.lst false .nil)) (.cons (.set 2 (.me .pop false (.ix (.var 0) (.int 0)) .nil))
    (.cons (.ite (.cmp .ge (.var 2) (.bin .pow false (.int 10) (.int 18))) (.cons (.exp (.me .append false (.ix (.var 0) (.int 0)) (.cons (.bin .fdiv false (.var 2) (.var 1)) .nil)))
    (.cons (.ret (.bin .mod false (.var 2) (.var 1)))
    .nil)) .nil)
    .nil)) .nil)
    (.cons (.set 3 (.bin .mod false (.bin .mul false (.bin .add false (.bin .add false (.bin .mod false (.var 2) (.int 2147483629)) (.bin .mul false (.int 92821) (.ix (.var 0) (.int 2)))) (.int 17)) (.int 48271)) (.int 2147483647)))
    (.cons (.set 3 (.bin .mod false (.bin .add false (.bin .add false (.bin .mul false (.var 3) (.var 3)) (.bin .mul false (.int 69621) (.ix (.var 0) (.int 2)))) (.int 29)) (.int 2147483587)))
    (.cons (.ret (.bin .mod false (.bin .fdiv false (.bin .mod false (.bin .add false (.bin .mul false (.var 3) (.var 3)) (.bin .mul false (.int 40692) (.var 3))) (.int 2147483563)) (.int 64)) (.var 1)))
    .nil))))))
/-- a draw, of so many ways -/
def DrawOk (φ : Nat → List D → M D) (k : Nat) : Prop := ∀ {w : Int} {S : Sto} {T : List O} {Q : D → Sto → Prop}, Dk S T → 0 < w → w < 1073741824 → (∀ i S', 0 ≤ i → i < w → Dk S' T → Q (.int i) S') → W (φ k [.ref 1, .int w]) S Q
theorem draw_b {φ : Nat → List D → M D} {w : Int} {S : Sto} {T : List O} {Q : D → Sto → Prop} (hd : Dk S T) (h0 : 0 < w) (h1 : w < 1073741824) (h : ∀ i S', 0 ≤ i → i < w → Dk S' T → Q (.int i) S') : W (bodyD 4 (evSs φ drawB) [.ref 1, .int w]) S Q := by
  obtain ⟨cs, m, t, hl, rfl⟩ := hd
  rw [W_body]
  unfold drawB
  have rc0 : ∀ (L : List D) (t : Int), rcL (.ref 0) (.lst L :: .lst [.ref 0, .int m, .int t] :: T) = .ok () (.lst L :: .lst [.ref 0, .int m, .int t] :: T) := fun _ _ => rfl
  have ix2 : ∀ (L : List D) (t : Int), ixD (.ref 1) (.int 2) (.lst L :: .lst [.ref 0, .int m, .int t] :: T) = .ok (.int t) (.lst L :: .lst [.ref 0, .int m, .int t] :: T) := fun _ _ => rfl
  have ix1 : ∀ (L : List D) (t : Int), ixD (.ref 1) (.int 1) (.lst L :: .lst [.ref 0, .int m, .int t] :: T) = .ok (.int m) (.lst L :: .lst [.ref 0, .int m, .int t] :: T) := fun _ _ => rfl
  have ix0 : ∀ (L : List D) (t : Int), ixD (.ref 1) (.int 0) (.lst L :: .lst [.ref 0, .int m, .int t] :: T) = .ok (.ref 0) (.lst L :: .lst [.ref 0, .int m, .int t] :: T) := fun _ _ => rfl
  have st : ∀ (L : List D) (t u : Int), setD (.ref 1) (.int 2) (.int u) (.lst L :: .lst [.ref 0, .int m, .int t] :: T) = .ok () (.lst L :: .lst [.ref 0, .int m, .int u] :: T) := fun _ _ _ => rfl
  have p18 : ∀ S, powD (.int 10) (.int 18) S = .ok (.int 1000000000000000000) S := fun S => rfl
  simp [startD, W_of (ix2 _ _), W_of (ix1 _ _), W_of (st _ _ _), W_of (ix0 _ _)]
  by_cases hc : cs = []
  · have hn : neD (.ref 0) (.lst []) (.lst (cs.map D.int) :: .lst [.ref 0, .int m, .int (t + 1)] :: T) = .ok (.bl false) (.lst (cs.map D.int) :: .lst [.ref 0, .int m, .int (t + 1)] :: T) := by
      rw [hc]
      rfl
    rw [W_of hn]
    simpa using draw_fin (φ := φ) h0 h ix2 m (t + 1) cs _ hl rfl
  · obtain ⟨cs', c, rfl⟩ : ∃ cs' c, cs = cs' ++ [c] := ⟨cs.dropLast, cs.getLast hc, (List.dropLast_concat_getLast hc).symm⟩
    have hl' : cs'.length + 1 ≤ 63 := by simpa using hl
    rw [List.map_append, List.map_singleton]
    have hn : neD (.ref 0) (.lst []) (.lst (cs'.map D.int ++ [.int c]) :: .lst [.ref 0, .int m, .int (t + 1)] :: T) = .ok (.bl true) (.lst (cs'.map D.int ++ [.int c]) :: .lst [.ref 0, .int m, .int (t + 1)] :: T) := by
      cases cs' <;> rfl
    have hp : popD (.ref 0) [] (.lst (cs'.map D.int ++ [.int c]) :: .lst [.ref 0, .int m, .int (t + 1)] :: T) = .ok (.int c) (.lst (cs'.map D.int) :: .lst [.ref 0, .int m, .int (t + 1)] :: T) := by
      show (match (cs'.map D.int ++ [D.int c])[(cs'.map D.int ++ [D.int c]).length - 1]? with | some e => R.ok e (.lst (cs'.map D.int ++ [D.int c]).dropLast :: .lst [.ref 0, .int m, .int (t + 1)] :: T) | none => .bad) = _
      have e1 : (cs'.map D.int ++ [D.int c])[(cs'.map D.int ++ [D.int c]).length - 1]? = some (.int c) := by simp
      have e2 : (cs'.map D.int ++ [D.int c]).dropLast = cs'.map D.int := by simp
      rw [e1, e2]
    have ha : appendD (.ref 0) [.int (c / w)] (.lst (cs'.map D.int) :: .lst [.ref 0, .int m, .int (t + 1)] :: T) = .ok .non (.lst ((cs' ++ [c / w]).map D.int) :: .lst [.ref 0, .int m, .int (t + 1)] :: T) := by
      show (if (cs'.map D.int).length < SL then R.ok D.non (.lst (cs'.map D.int ++ [D.int (c / w)]) :: .lst [.ref 0, .int m, .int (t + 1)] :: T) else .bad) = _
      rw [if_pos (by rw [List.length_map]; show _ < 16777216; omega), List.map_append]
      rfl
    rw [W_of hn]
    simp [W_of (ix0 _ _), W_of (rc0 _ _), Me.ev, W_of (p18 _)]
    rw [W_of hp]
    by_cases hg : (1000000000000000000 : Int) ≤ c
    · simp [hg]
      rw [W_of (ix0 _ _), W_of (rc0 _ _), W_fdivI ⟨h0, h1⟩, W_of ha, W_modI h0]
      exact h _ _ (Int.emod_nonneg _ (by omega)) (Int.emod_lt_of_pos _ h0) ⟨cs' ++ [c / w], m, t + 1, by simpa using hl', rfl⟩
    · simp [hg]
      simpa using draw_fin (φ := φ) h0 h ix2 c (t + 1) cs' _ (by omega) rfl
theorem W_rng {j : Int} (h : -(2 ^ 62) ≤ j ∧ j < 2 ^ 62) (S : Sto) (Q) : W (rngSrc [.int j]) S Q = Q (.fix (rangeL 0 j.toNat)) S := by
  refine W_of ?_ Q
  show (if -(2 ^ 62) ≤ j ∧ j < 2 ^ 62 then R.ok (Src.fix (rangeL 0 j.toNat)) S else .bad) = _
  rw [if_pos h]
theorem range_at {n i : Nat} {d : D} (h : (rangeL 0 n)[i]? = some d) : i < n ∧ d = .int (i : Int) := by
  unfold rangeL at h
  rw [List.getElem?_map] at h
  by_cases hi : i < n
  · rw [List.getElem?_range hi] at h
    refine ⟨hi, ?_⟩
    have h : some (D.int (0 + (i : Int))) = some d := h
    rw [Int.zero_add] at h
    exact (Option.some.inj h).symm
  · rw [List.getElem?_eq_none (by simpa using hi)] at h
    cases h
theorem range_len (n : Nat) : (rangeL 0 n).length = n := by simp [rangeL]
/-- signs -/
def sg (c : Nat) : Str := ⟨#[c]⟩
theorem join_sg (cs : List Nat) : Txt.join "" (cs.map sg) = SX.S cs := by
  have e : ("" : Str) = SX.S [] := by decide +kernel
  have e2 : cs.map sg = (cs.map fun c => [c]).map SX.S := by
    rw [List.map_map]
    rfl
  rw [e, e2, SX.join_S]
  congr 1
  induction cs with
  | nil => rfl
  | cons c r ih =>
    cases r with
    | nil => rfl
    | cons d r =>
      show [c] ++ ([] ++ TL.joinL [] (((d :: r).map fun c => [c]))) = _
      rw [ih (by rw [List.map_map]; rfl)]
      rfl
theorem strs_of : ∀ (xs : List Str), strs? (xs.map D.str) = some xs
  | [] => rfl
  | x :: xs => by
    have := strs_of xs
    simp [strs?, this]
theorem low_mem {i : Int} (h0 : 0 ≤ i) (h1 : i < 26) : ∃ c, lowB c = true ∧ ∀ S, ixD (.str "abcdefghijklmnopqrstuvwxyz") (.int i) S = .ok (.str (sg c)) S := by
  obtain ⟨k, rfl⟩ := Int.eq_ofNat_of_zero_le h0
  have hl : (Str.ofString "abcdefghijklmnopqrstuvwxyz").length ≤ SL := by decide +kernel
  have e : (Str.ofString "abcdefghijklmnopqrstuvwxyz").cps.toList = [97, 98, 99, 100, 101, 102, 103, 104, 105, 106, 107, 108, 109, 110, 111, 112, 113, 114, 115, 116, 117, 118, 119, 120, 121, 122] := by decide +kernel
  have hk : k < 26 := by omega
  have : ∀ k, k < 26 → ∃ c, lowB c = true ∧ ([97, 98, 99, 100, 101, 102, 103, 104, 105, 106, 107, 108, 109, 110, 111, 112, 113, 114, 115, 116, 117, 118, 119, 120, 121, 122] : List Nat)[k]? = some c := by
    intro k hk
    refine ⟨97 + k, ?_, ?_⟩
    · unfold lowB
      simp
      omega
    · revert k
      decide
  obtain ⟨c, hc, hh⟩ := this k hk
  refine ⟨c, hc, fun S => ?_⟩
  rw [ixD_str hl, MP.atI_nat, e, hh]
  rfl
theorem name_of {cs : List Nat} (h : cs.all lowB = true) (h1 : 1 ≤ cs.length) (h2 : cs.length ≤ 8) : nameS (SX.S cs) = true := by
  unfold nameS
  rw [SX.S_len, h]
  simp [h1, h2]
def nameGenB (kd : Nat) : Sxs :=
    (.cons (.set 1 (.str "abcdefghijklmnopqrstuvwxyz"))
    (.cons (.set 2 (.ix (.lst false (.cons (.int 1) (.cons (.int 8) (.cons (.bin .add false (.int 1) (.call kd (.cons (.var 0) (.cons (.int 8) .nil)))) (.cons (.int 2) .nil))))) (.call kd (.cons (.var 0) (.cons (.int 4) .nil)))))
    (.cons (.set 3 (.call kd (.cons (.var 0) (.cons (.int 26) .nil))))
    (.cons (.set 4 (.call kd (.cons (.var 0) (.cons (.int 3) .nil))))
    (.cons (.ret (.me .join false (.str "") (.cons (.lc false (.nm 5) (.rng (.cons (.var 2) .nil)) .nil (.ix (.var 1) (.bin .mod false (.bin .add false (.var 3) (.bin .mul false (.var 4) (.var 5))) (.int 26))) [5]) .nil)))
    .nil)))))
def NameOk (φ : Nat → List D → M D) (k : Nat) : Prop := ∀ {S : Sto} {T : List O} {Q : D → Sto → Prop}, Dk S T → (∀ x S', nameS x = true → Dk S' T → Q (.str x) S') → W (φ k [.ref 1]) S Q
theorem name_b {φ : Nat → List D → M D} {kd : Nat} (draw_W : DrawOk φ kd) {S : Sto} {T : List O} {Q : D → Sto → Prop} (hd : Dk S T) (h : ∀ x S', nameS x = true → Dk S' T → Q (.str x) S') : W (bodyD 6 (evSs φ (nameGenB kd)) [.ref 1]) S Q := by
  rw [W_body]
  unfold nameGenB
  simp [startD]
  refine draw_W hd (by decide) (by decide) fun i1 S1 a1 b1 d1 => ?_
  simp
  refine draw_W d1 (by decide) (by decide) fun i2 S2 a2 b2 d2 => ?_
  refine W_ixL_all a2 b2 ?_
  intro x hx
  obtain ⟨k, rfl, hk, hk'⟩ : ∃ k : Int, x = .int k ∧ 1 ≤ k ∧ k ≤ 8 := by
    simp at hx
    rcases hx with rfl | rfl | rfl | rfl
    · exact ⟨_, rfl, by decide, by decide⟩
    · exact ⟨_, rfl, by decide, by decide⟩
    · exact ⟨_, rfl, by omega, by omega⟩
    · exact ⟨_, rfl, by decide, by decide⟩
  refine draw_W d2 (by decide) (by decide) fun i3 S3 a3 b3 d3 => ?_
  refine draw_W d3 (by decide) (by decide) fun i4 S4 a4 b4 d4 => ?_
  rw [W_rng (by omega)]
  refine W_lcS (I := fun i acc S' => S' = S4 ∧ ∃ cs : List Nat, acc = cs.map (fun c => D.str (sg c)) ∧ cs.length = i ∧ cs.all lowB = true) ?_ ⟨rfl, [], rfl, rfl, rfl⟩ ?_ ?_
  · rw [range_len]
    show _ ≤ 16777216
    omega
  · rintro i d acc S' hi ⟨rfl, cs, rfl, hl, hc⟩ _
    obtain ⟨hi, rfl⟩ := range_at hi
    obtain ⟨c, hlow, hix⟩ := low_mem (i := (i3 + i4 * (i : Int)) % 26) (Int.emod_nonneg _ (by decide)) (Int.emod_lt_of_pos _ (by decide))
    simp [wipeE, W_mulI (m := false) (i := i4) (j := (i : Int)) (Or.inl (by omega)), W_modI (show (0 : Int) < 26 by decide), W_of (hix _)]
    refine ⟨cs ++ [c], ?_, ?_, ?_⟩
    · simp
    · simp [hl]
    · intro x hx
      rcases List.mem_append.mp hx with hx | hx
      · exact List.all_eq_true.mp hc x hx
      · rw [List.mem_singleton.mp hx]
        exact hlow
  · rintro ys S' ⟨rfl, cs, rfl, hl, hc⟩ _
    rw [range_len] at hl
    simp
    have hj : joinD (.str "") [.lst (cs.map fun c => D.str (sg c))] S' = .ok (.str (SX.S cs)) S' := by
      have e : strs? (cs.map fun c => D.str (sg c)) = some (cs.map sg) := by
        rw [← strs_of, List.map_map]
        rfl
      have e2 : ((cs.map sg).map (fun y : Str => y.length)).sum + (cs.map sg).length * ("" : Str).length ≤ SL := by
        have : ∀ l : List Nat, ((l.map sg).map (fun y : Str => y.length)).sum = l.length := by
          intro l
          induction l with
          | nil => rfl
          | cons c r ih =>
            rw [List.map_cons, List.map_cons, List.sum_cons, ih]
            show 1 + r.length = r.length + 1
            omega
        rw [this]
        have : ("" : Str).length = 0 := by decide +kernel
        rw [this]
        show _ ≤ 16777216
        omega
      show (match (some (cs.map fun c => D.str (sg c))).bind strs? with | some ys => if (ys.map (fun y : Str => y.length)).sum + ys.length * ("" : Str).length ≤ SL then R.ok (D.str (Txt.join "" ys)) S' else .bad | none => .bad) = _
      rw [Option.bind_some, e]
      dsimp only
      rw [if_pos e2, join_sg]
    rw [W_of hj]
    exact h _ _ (name_of hc (by omega) (by omega)) d4
/-! ### far names -/
theorem low_lt {c : Nat} (h : lowB c = true) : c < 128 := by
  unfold lowB at h
  simp at h
  omega
theorem fig_lt {c : Nat} (h : figB c = true) : c < 128 := by
  unfold figB at h
  simp at h
  omega
theorem asc_of {cs : List Nat} (h : ∀ c ∈ cs, c < 128) : ascS (SX.S cs) = true := by
  unfold ascS
  rw [List.all_eq_true]
  intro c hc
  exact decide_eq_true (h c hc)
theorem asc_mem {x : Str} (h : ascS x = true) : ∀ c ∈ x.cps.toList, c < 128 := fun c hc => of_decide_eq_true (List.all_eq_true.mp h c hc)
theorem name_asc {x : Str} (h : nameS x = true) : ascS x = true ∧ 1 ≤ x.length ∧ x.length ≤ 8 ∧ ∀ c ∈ x.cps.toList, lowB c = true := by
  unfold nameS at h
  simp only [Bool.and_eq_true, decide_eq_true_eq, List.all_eq_true] at h
  refine ⟨?_, h.1.1, h.1.2, h.2⟩
  unfold ascS
  rw [List.all_eq_true]
  exact fun c hc => decide_eq_true (low_lt (h.2 c hc))
theorem fig_asc {x : Str} (h : figS x = true) : ascS x = true ∧ 1 ≤ x.length ∧ x.length ≤ 40 ∧ ∀ c ∈ x.cps.toList, figB c = true := by
  unfold figS at h
  simp only [Bool.and_eq_true, decide_eq_true_eq, List.all_eq_true] at h
  refine ⟨?_, h.1.1.1, h.1.1.2, h.1.2⟩
  unfold ascS
  rw [List.all_eq_true]
  exact fun c hc => decide_eq_true (fig_lt (h.1.2 c hc))
/-- a far name, its parts -/
structure Far (x : Str) : Prop where
  far : farB (.str x) = true
  asc : ascS x = true
  len : x.length ≤ 58
  pos : 5 ≤ x.length
  parts : ∃ a b c, nameS a = true ∧ figS b = true ∧ b ≠ "0" ∧ nameS c = true ∧ x = a ++ "." ++ b ++ "." ++ c
theorem asc_cat {x y : Str} (h : ascS x = true) (h' : ascS y = true) : ascS (x ++ y) = true := by
  unfold ascS at *
  have e : (x ++ y).cps.toList = x.cps.toList ++ y.cps.toList := TL.tl_append x y
  rw [e, List.all_append, h, h']
  rfl
theorem far_make {a b c : Str} (ha : nameS a = true) (hb : figS b = true) (h0 : b ≠ "0") (hc : nameS c = true) : Far (a ++ "." ++ b ++ "." ++ c) ∧ Txt.split (a ++ "." ++ b ++ "." ++ c) dot = [a, b, c] := by
  obtain ⟨a1, a2, a3, a4⟩ := name_asc ha
  obtain ⟨b1, b2, b3, b4⟩ := fig_asc hb
  obtain ⟨c1, c2, c3, c4⟩ := name_asc hc
  have e : a ++ "." ++ b ++ "." ++ c = Txt.join dot [a, b, c] := by
    rw [TL.join_eq]
    show a ++ dot ++ b ++ dot ++ c = a ++ dot ++ (b ++ dot ++ c)
    refine TL.ext_tl ?_
    simp only [TL.tl_append, List.append_assoc]
  have ed : TL.tl dot = 46 :: [] := by decide +kernel
  have hsp : Txt.split (a ++ "." ++ b ++ "." ++ c) dot = [a, b, c] := by
    rw [e]
    refine TL.split_join ed (by decide +kernel) (by simp) ?_
    intro p hp
    simp only [List.mem_cons, List.not_mem_nil, or_false] at hp
    rcases hp with rfl | rfl | rfl
    · intro h; have := a4 46 h; revert this; decide
    · intro h; have := b4 46 h; revert this; decide
    · intro h; have := c4 46 h; revert this; decide
  have dl : (("." : String) : Str).length = 1 := dot_len
  have da : ascS (("." : String) : Str) = true := by decide +kernel
  refine ⟨⟨?_, ?_, ?_, ?_, ?_⟩, hsp⟩
  · show farW (Txt.split _ dot) = true
    rw [hsp]
    show (nameS a && nameS c && figS b && !decide (b = "0")) = true
    rw [ha, hb, hc]
    simp [h0]
  · exact asc_cat (asc_cat (asc_cat (asc_cat a1 da) b1) da) c1
  · rw [strLen_append, strLen_append, strLen_append, strLen_append, dl]; omega
  · rw [strLen_append, strLen_append, strLen_append, strLen_append, dl]; omega
  · exact ⟨a, b, c, ha, hb, h0, hc, rfl⟩
theorem num_fig : ∀ k : Nat, k < 121 → 1 ≤ k → figS (Str.ofString (toString (k : Int))) = true ∧ Str.ofString (toString (k : Int)) ≠ "0" := by decide +kernel
theorem big_fig : figS (Str.ofString (toString (10 ^ 39 : Int))) = true ∧ Str.ofString (toString (10 ^ 39 : Int)) ≠ "0" := by decide +kernel
def farGenB (kd kn : Nat) : Sxs :=
    (.cons (.set 1 (.ix (.lst false (.cons (.int 1) (.cons (.int 9) (.cons (.int 10) (.cons (.bin .add false (.int 1) (.call kd (.cons (.var 0) (.cons (.int 120) .nil)))) (.cons (.bin .pow false (.int 10) (.int 39)) .nil)))))) (.call kd (.cons (.var 0) (.cons (.int 5) .nil)))))
    (.cons (.ret (.bin .add false (.bin .add false (.bin .add false (.bin .add false (.call kn (.cons (.var 0) .nil)) (.str ".")) (.fn .str false (.cons (.var 1) .nil))) (.str ".")) (.call kn (.cons (.var 0) .nil))))
    .nil))
def FarOk (φ : Nat → List D → M D) (k : Nat) : Prop := ∀ {S : Sto} {T : List O} {Q : D → Sto → Prop}, Dk S T → (∀ x S', Far x → Dk S' T → Q (.str x) S') → W (φ k [.ref 1]) S Q
theorem far_b {φ : Nat → List D → M D} {kd kn : Nat} (draw_W : DrawOk φ kd) (name_W : NameOk φ kn) {S : Sto} {T : List O} {Q : D → Sto → Prop} (hd : Dk S T) (h : ∀ x S', Far x → Dk S' T → Q (.str x) S') : W (bodyD 2 (evSs φ (farGenB kd kn)) [.ref 1]) S Q := by
  rw [W_body]
  unfold farGenB
  have p39 : ∀ S, powD (.int 10) (.int 39) S = .ok (.int (10 ^ 39)) S := fun S => rfl
  simp [startD]
  refine draw_W hd (by decide) (by decide) fun i1 S1 a1 b1 d1 => ?_
  simp [W_of (p39 _)]
  refine draw_W d1 (by decide) (by decide) fun i2 S2 a2 b2 d2 => ?_
  refine W_ixL_all a2 b2 ?_
  intro x hx
  obtain ⟨k, rfl, hk, hk0, hl⟩ : ∃ k : Int, x = .int k ∧ figS (Str.ofString (toString k)) = true ∧ Str.ofString (toString k) ≠ "0" ∧ k.natAbs.log2 < 1920 := by
    have small : ∀ k : Nat, k < 121 → 1 ≤ k → (k : Int).natAbs.log2 < 1920 := by decide +kernel
    simp at hx
    rcases hx with rfl | rfl | rfl | rfl | rfl
    · exact ⟨_, rfl, (num_fig 1 (by decide) (by decide)).1, (num_fig 1 (by decide) (by decide)).2, by decide +kernel⟩
    · exact ⟨_, rfl, (num_fig 9 (by decide) (by decide)).1, (num_fig 9 (by decide) (by decide)).2, by decide +kernel⟩
    · exact ⟨_, rfl, (num_fig 10 (by decide) (by decide)).1, (num_fig 10 (by decide) (by decide)).2, by decide +kernel⟩
    · obtain ⟨j, rfl⟩ := Int.eq_ofNat_of_zero_le a1
      have e : (1 : Int) + (j : Int) = ((1 + j : Nat) : Int) := by omega
      refine ⟨_, rfl, ?_⟩
      rw [e]
      exact ⟨(num_fig (1 + j) (by omega) (by omega)).1, (num_fig (1 + j) (by omega) (by omega)).2, small _ (by omega) (by omega)⟩
    · exact ⟨_, rfl, big_fig.1, big_fig.2, by decide +kernel⟩
  have hs : ∀ S, strD [.int k] S = .ok (.str (Str.ofString (toString k))) S := fun S => by
    show (if k.natAbs.log2 < 1920 then pure (D.str (toString k)) else M.fail : M D) S = _
    rw [if_pos hl]; rfl
  have dl : (("." : String) : Str).length = 1 := dot_len
  obtain ⟨f1, f2, f3, f4⟩ := fig_asc hk
  generalize Str.ofString (toString k) = z at *
  refine name_W d2 fun x S3 hx d3 => ?_
  obtain ⟨x1, x2, x3, x4⟩ := name_asc hx
  rw [W_addS _ (by rw [dl]; show _ ≤ 16777216; omega)]
  simp [W_of (hs _)]
  rw [W_addS _ (by rw [strLen_append, dl]; show _ ≤ 16777216; omega), W_addS _ (by rw [strLen_append, strLen_append, dl]; show _ ≤ 16777216; omega)]
  refine name_W d3 fun y S4 hy d4 => ?_
  obtain ⟨y1, y2, y3, y4⟩ := name_asc hy
  rw [W_addS _ (by rw [strLen_append, strLen_append, strLen_append, dl]; show _ ≤ 16777216; omega)]
  obtain ⟨q1, q2⟩ := far_make hx hk hk0 hy
  exact h _ _ q1 d4
end PL

/-! PL3: terms as a type, how they lie in data; functions by fuel. -/
namespace PL
open MP PySem L2
/-- F n: what the defs tell with fuel n; k is the def of this body -/
def IsFn (F : Nat → Nat → List D → M D) (k N np : Nat) (b : Sxs) : Prop := ∀ n ds, ds.length = np → F (n + 1) k ds = bodyD N (evSs (F n) b) ds
inductive W3 where | to | fn | give
  deriving DecidableEq, Inhabited
inductive W2 where | family | call
  deriving DecidableEq, Inhabited
inductive Mk where | run | gone
  deriving DecidableEq, Inhabited
def W3.s : W3 → Str
  | .to => "to" | .fn => "fun" | .give => "give"
def W2.s : W2 → Str
  | .family => "family" | .call => "call"
def Mk.s : Mk → Str
  | .run => "run" | .gone => "gone"
inductive T where
  | at (i : Nat)
  | world (i : Nat)
  | hole (x : Str)
  | bi (w : W3) (m : Mk) (a b : T)
  | no (w : W2) (x : Str) (ts : List T)
  | sh (x y : Str) (ts : List T)
  deriving Inhabited
/-- a name, near or far -/
def Cl (x : Str) : Prop := nameS x = true ∨ Far x
mutual
def T.d : T → D
  | .at i => .tup [.str "at", .int i]
  | .world i => .tup [.str "world", .int i]
  | .hole x => .tup [.str "hole", .str x]
  | .bi w m a b => .tup [.str w.s, .str m.s, a.d, b.d]
  | .no w x ts => .tup [.str w.s, .str x, .tup (T.ds ts)]
  | .sh x y ts => .tup [.str "shape", .str x, .str y, .tup (T.ds ts)]
def T.ds : List T → List D
  | [] => []
  | t :: ts => t.d :: T.ds ts
end
mutual
def T.Ok : T → Prop
  | .at i => i < 10 ^ 40
  | .world i => i ≤ 9
  | .hole x => nameS x = true
  | .bi _ _ a b => a.Ok ∧ b.Ok
  | .no _ x ts => Cl x ∧ T.Oks ts
  | .sh x y ts => Cl x ∧ nameS y = true ∧ T.Oks ts
def T.Oks : List T → Prop
  | [] => True
  | t :: ts => t.Ok ∧ T.Oks ts
end
mutual
/-- spots -/
def T.sz : T → Nat
  | .at _ => 1
  | .world _ => 1
  | .hole _ => 1
  | .bi _ _ a b => a.sz + b.sz + 1
  | .no _ _ ts => T.szs ts + 1
  | .sh _ _ ts => T.szs ts + 1
def T.szs : List T → Nat
  | [] => 0
  | t :: ts => t.sz + T.szs ts
end
mutual
/-- within one another -/
def T.dp : T → Nat
  | .at _ => 0
  | .world _ => 0
  | .hole _ => 0
  | .bi _ _ a b => max a.dp b.dp + 1
  | .no _ _ ts => T.dps ts + 1
  | .sh _ _ ts => T.dps ts + 1
def T.dps : List T → Nat
  | [] => 0
  | t :: ts => max t.dp (T.dps ts)
end
mutual
/-- the greatest number of a name -/
def T.mx : T → Nat
  | .at i => i
  | .world _ => 0
  | .hole _ => 0
  | .bi _ _ a b => max a.mx b.mx
  | .no _ _ ts => T.mxs ts
  | .sh _ _ ts => T.mxs ts
def T.mxs : List T → Nat
  | [] => 0
  | t :: ts => max t.mx (T.mxs ts)
end
theorem mxs_le {n : Nat} : ∀ {ts : List T}, T.mxs ts ≤ n ↔ ∀ t ∈ ts, t.mx ≤ n
  | [] => by simp [T.mxs]
  | t :: ts => by rw [T.mxs, Nat.max_le, mxs_le (ts := ts)]; simp
def T.parts : T → List T
  | .bi _ _ a b => [a, b]
  | .no _ _ ts => ts
  | .sh _ _ ts => ts
  | _ => []
theorem ds_map : ∀ ts : List T, T.ds ts = ts.map T.d
  | [] => rfl
  | t :: ts => by rw [T.ds, ds_map ts]; rfl
theorem ds_len (ts : List T) : (T.ds ts).length = ts.length := by rw [ds_map, List.length_map]
theorem oks_iff : ∀ {ts : List T}, T.Oks ts ↔ ∀ t ∈ ts, t.Ok
  | [] => by simp [T.Oks]
  | t :: ts => by rw [T.Oks, oks_iff (ts := ts)]; simp
theorem szs_mem : ∀ {ts : List T} {t : T}, t ∈ ts → t.sz ≤ T.szs ts
  | t :: ts, u, h => by
    rw [T.szs]
    rcases List.mem_cons.mp h with rfl | h
    · omega
    · have := szs_mem h; omega
theorem szs_append : ∀ (ts us : List T), T.szs (ts ++ us) = T.szs ts + T.szs us
  | [], us => by simp [T.szs]
  | t :: ts, us => by
    show t.sz + T.szs (ts ++ us) = t.sz + T.szs ts + T.szs us
    rw [szs_append ts us]; omega
theorem sz_pos (t : T) : 1 ≤ t.sz := by cases t <;> simp [T.sz]
theorem szs_len : ∀ (ts : List T), ts.length ≤ T.szs ts
  | [] => Nat.le_refl _
  | t :: ts => by
    show ts.length + 1 ≤ t.sz + T.szs ts
    have := szs_len ts
    have := sz_pos t
    omega
theorem dps_le {n : Nat} : ∀ {ts : List T}, T.dps ts ≤ n ↔ ∀ t ∈ ts, t.dp ≤ n
  | [] => by simp [T.dps]
  | t :: ts => by rw [T.dps, Nat.max_le, dps_le (ts := ts)]; simp
theorem parts_ok {t : T} (h : t.Ok) : ∀ u ∈ t.parts, u.Ok := by
  cases t with
  | bi w m a b => intro u hu; simp [T.parts] at hu; rcases hu with rfl | rfl; exact h.1; exact h.2
  | no w x ts => exact oks_iff.mp h.2
  | sh x y ts => exact oks_iff.mp h.2.2
  | _ => intro u hu; simp [T.parts] at hu
theorem parts_dp {t : T} : ∀ u ∈ t.parts, u.dp + 1 ≤ t.dp := by
  cases t with
  | bi w m a b => intro u hu; simp [T.parts] at hu; rw [T.dp]; rcases hu with rfl | rfl <;> omega
  | no w x ts => intro u hu; rw [T.dp]; have := dps_le.mp (Nat.le_refl (T.dps ts)) u hu; omega
  | sh x y ts => intro u hu; rw [T.dp]; have := dps_le.mp (Nat.le_refl (T.dps ts)) u hu; omega
  | _ => intro u hu; simp [T.parts] at hu
theorem parts_sz (t : T) : T.szs t.parts + 1 = t.sz := by
  cases t <;> simp [T.parts, T.szs, T.sz]
/-! ### sizes of the data -/
theorem cl_facts {x : Str} (h : Cl x) : ascS x = true ∧ 1 ≤ x.length ∧ x.length ≤ 58 := by
  rcases h with h | h
  · obtain ⟨h1, h2, h3, _⟩ := name_asc h
    exact ⟨h1, h2, by omega⟩
  · exact ⟨h.asc, by have := h.pos; omega, h.len⟩
theorem w3_facts (w : W3) : ascS w.s = true ∧ 2 ≤ w.s.length ∧ w.s.length ≤ 4 := by cases w <;> decide +kernel
theorem w2_facts (w : W2) : ascS w.s = true ∧ 2 ≤ w.s.length ∧ w.s.length ≤ 6 := by cases w <;> decide +kernel
theorem mk_facts (w : Mk) : ascS w.s = true ∧ 2 ≤ w.s.length ∧ w.s.length ≤ 4 := by cases w <;> decide +kernel
abbrev BB : Nat := 10 ^ 40
mutual
theorem T.okD : ∀ (t : T), t.Ok → okD BB t.d = true
  | .at i, h => by
    show (ascS "at" && (smallI BB i && true)) = true
    have : smallI BB (i : Int) = true := decide_eq_true (show (i : Int).natAbs < BB from h)
    rw [this]; decide +kernel
  | .world i, h => by
    show (ascS "world" && (smallI BB i && true)) = true
    have : smallI BB (i : Int) = true := decide_eq_true (show (i : Int).natAbs < BB from Nat.lt_of_le_of_lt h (by decide))
    rw [this]; decide +kernel
  | .hole x, h => by
    show (ascS "hole" && (ascS x && true)) = true
    rw [(name_asc h).1]; decide +kernel
  | .bi w m a b, h => by
    show (ascS w.s && (ascS m.s && (MP.okD BB a.d && (MP.okD BB b.d && true)))) = true
    rw [(w3_facts w).1, (mk_facts m).1, T.okD a h.1, T.okD b h.2]; rfl
  | .no w x ts, h => by
    show (ascS w.s && (ascS x && (okL BB (T.ds ts) && true))) = true
    rw [(w2_facts w).1, (cl_facts h.1).1, T.okDs ts h.2]; rfl
  | .sh x y ts, h => by
    show (ascS "shape" && (ascS x && (ascS y && (okL BB (T.ds ts) && true)))) = true
    rw [(cl_facts h.1).1, (name_asc h.2.1).1, T.okDs ts h.2.2]; decide +kernel
theorem T.okDs : ∀ (ts : List T), T.Oks ts → okL BB (T.ds ts) = true
  | [], _ => rfl
  | t :: ts, h => by
    show (MP.okD BB t.d && okL BB (T.ds ts)) = true
    rw [T.okD t h.1, T.okDs ts h.2]; rfl
end
theorem l_at : (("at" : String) : Str).length = 2 := by decide +kernel
theorem l_world : (("world" : String) : Str).length = 5 := by decide +kernel
theorem l_hole : (("hole" : String) : Str).length = 4 := by decide +kernel
theorem l_shape : (("shape" : String) : Str).length = 5 := by decide +kernel
mutual
theorem T.wt : ∀ (t : T), t.Ok → wtD t.d + 2 ≤ 1100 * t.sz
  | .at i, h => by
    show 10 * (("at" : String) : Str).length + 60 + 2 + (60 + 2 + 0) + 60 + 2 ≤ 1100 * 1
    rw [l_at]; decide
  | .world i, h => by
    show 10 * (("world" : String) : Str).length + 60 + 2 + (60 + 2 + 0) + 60 + 2 ≤ 1100 * 1
    rw [l_world]; decide
  | .hole x, h => by
    show 10 * (("hole" : String) : Str).length + 60 + 2 + (10 * x.length + 60 + 2 + 0) + 60 + 2 ≤ 1100 * 1
    rw [l_hole]
    have := (name_asc h).2.2.1
    omega
  | .bi w m a b, h => by
    show 10 * w.s.length + 60 + 2 + (10 * m.s.length + 60 + 2 + (wtD a.d + 2 + (wtD b.d + 2 + 0))) + 60 + 2 ≤ 1100 * (a.sz + b.sz + 1)
    have := T.wt a h.1
    have := T.wt b h.2
    have := (w3_facts w).2.2
    have := (mk_facts m).2.2
    omega
  | .no w x ts, h => by
    show 10 * w.s.length + 60 + 2 + (10 * x.length + 60 + 2 + (wtL (T.ds ts) + 60 + 2 + 0)) + 60 + 2 ≤ 1100 * (T.szs ts + 1)
    have := T.wts ts h.2
    have := (w2_facts w).2.2
    have := (cl_facts h.1).2.2
    omega
  | .sh x y ts, h => by
    show 10 * (("shape" : String) : Str).length + 60 + 2 + (10 * x.length + 60 + 2 + (10 * y.length + 60 + 2 + (wtL (T.ds ts) + 60 + 2 + 0))) + 60 + 2 ≤ 1100 * (T.szs ts + 1)
    have := T.wts ts h.2.2
    have := (name_asc h.2.1).2.2.1
    have := (cl_facts h.1).2.2
    rw [l_shape]
    omega
theorem T.wts : ∀ (ts : List T), T.Oks ts → wtL (T.ds ts) ≤ 1100 * T.szs ts
  | [], _ => Nat.le_refl _
  | t :: ts, h => by
    show wtD t.d + 2 + wtL (T.ds ts) ≤ 1100 * (t.sz + T.szs ts)
    have := T.wt t h.1
    have := T.wts ts h.2
    omega
end
mutual
theorem T.dep : ∀ (t : T), depD t.d ≤ 2 * t.dp + 1
  | .at i => Nat.le_refl _
  | .world i => Nat.le_refl _
  | .hole x => Nat.le_refl _
  | .bi w m a b => by
    show max 0 (max 0 (max (depD a.d) (max (depD b.d) 0))) + 1 ≤ 2 * (max a.dp b.dp + 1) + 1
    have := T.dep a
    have := T.dep b
    omega
  | .no w x ts => by
    show max 0 (max 0 (max (depL (T.ds ts) + 1) 0)) + 1 ≤ 2 * (T.dps ts + 1) + 1
    have := T.deps ts
    omega
  | .sh x y ts => by
    show max 0 (max 0 (max 0 (max (depL (T.ds ts) + 1) 0))) + 1 ≤ 2 * (T.dps ts + 1) + 1
    have := T.deps ts
    omega
theorem T.deps : ∀ (ts : List T), depL (T.ds ts) ≤ 2 * T.dps ts + 1
  | [] => by decide
  | t :: ts => by
    show max (depD t.d) (depL (T.ds ts)) ≤ 2 * max t.dp (T.dps ts) + 1
    have := T.dep t
    have := T.deps ts
    omega
end
end PL

/-! PL4: drawn terms. -/
namespace PL
open MP PySem L2
theorem draw_F {F : Nat → Nat → List D → M D} {kd : Nat} (h : IsFn F kd 4 2 drawB) : ∀ n, 1 ≤ n → DrawOk (F n) kd := by
  intro n hn
  obtain ⟨n, rfl⟩ : ∃ m, n = m + 1 := ⟨n - 1, by omega⟩
  intro w S T Q hd h0 h1 hq
  rw [h n _ rfl]
  exact draw_b hd h0 h1 hq
theorem name_F {F : Nat → Nat → List D → M D} {kd kn : Nat} (h : IsFn F kn 6 1 (nameGenB kd)) (hd : IsFn F kd 4 2 drawB) : ∀ n, 2 ≤ n → NameOk (F n) kn := by
  intro n hn
  obtain ⟨n, rfl⟩ : ∃ m, n = m + 1 := ⟨n - 1, by omega⟩
  intro S T Q hk hq
  rw [h n _ rfl]
  exact name_b (draw_F hd n (by omega)) hk hq
theorem far_F {F : Nat → Nat → List D → M D} {kd kn kf : Nat} (h : IsFn F kf 2 1 (farGenB kd kn)) (hn : IsFn F kn 6 1 (nameGenB kd)) (hd : IsFn F kd 4 2 drawB) : ∀ n, 3 ≤ n → FarOk (F n) kf := by
  intro n h3
  obtain ⟨n, rfl⟩ : ∃ m, n = m + 1 := ⟨n - 1, by omega⟩
  intro S T Q hk hq
  rw [h n _ rfl]
  exact far_b (draw_F hd n (by omega)) (name_F hn hd n (by omega)) hk hq
def ClOk (φ : Nat → List D → M D) (k : Nat) : Prop := ∀ {S : Sto} {T : List O} {Q : D → Sto → Prop}, Dk S T → (∀ x S', Cl x → Dk S' T → Q (.str x) S') → W (φ k [.ref 1]) S Q
def LeafOk (φ : Nat → List D → M D) (k mm : Nat) : Prop := ∀ {S : Sto} {T : List O} {Q : D → Sto → Prop}, Dk S T → (∀ (t : PL.T) S', t.Ok → t.dp = 0 → t.sz = 1 → t.mx ≤ mm → Dk S' T → Q t.d S') → W (φ k [.ref 1]) S Q
def calledGenB (kd kf kn : Nat) : Sxs :=
    (.cons (.ret (.ife (.cmp .eq (.call kd (.cons (.var 0) (.cons (.int 3) .nil))) (.int 0)) (.call kf (.cons (.var 0) .nil)) (.call kn (.cons (.var 0) .nil))))
    .nil)
theorem called_b {φ : Nat → List D → M D} {kd kf kn : Nat} (draw_W : DrawOk φ kd) (far_W : FarOk φ kf) (name_W : NameOk φ kn) {S : Sto} {T : List O} {Q : D → Sto → Prop} (hd : Dk S T) (h : ∀ x S', Cl x → Dk S' T → Q (.str x) S') : W (bodyD 1 (evSs φ (calledGenB kd kf kn)) [.ref 1]) S Q := by
  rw [W_body]
  unfold calledGenB
  simp [startD]
  refine draw_W hd (by decide) (by decide) fun i1 S1 a1 b1 d1 => ?_
  simp
  split
  · exact far_W d1 fun x S2 hx d2 => h x S2 (.inr hx) d2
  · exact name_W d1 fun x S2 hx d2 => h x S2 (.inl hx) d2
/-- called like words, too -/
def calledGenW (kd kf kn : Nat) : Sxs :=
    (.cons (.set 1 (.call kd (.cons (.var 0) (.cons (.int 5) .nil))))
    (.cons (.ite (.cmp .eq (.var 1) (.int 4)) (.cons (.ret (.ix (.lst false (.cons (.str "to") (.cons (.str "fun") (.cons (.str "run") (.cons (.str "gone") (.cons (.str "at") (.cons (.str "shape") (.cons (.str "hole") (.cons (.str "call") (.cons (.str "family") (.cons (.str "give") .nil))))))))))) (.call kd (.cons (.var 0) (.cons (.int 10) .nil)))))
    .nil) .nil)
    (.cons (.ret (.ife (.cmp .eq (.var 1) (.int 0)) (.call kf (.cons (.var 0) .nil)) (.call kn (.cons (.var 0) .nil))))
    .nil)))
theorem W_ixL_mem {xs : List Str} {i : Int} {S : Sto} {Q : D → Sto → Prop} (h0 : 0 ≤ i) (h1 : i < xs.length) (h : ∀ x ∈ xs, Q (.str x) S) : W (ixD (.lst (xs.map D.str)) (.int i)) S Q := by
  refine W_ixL_all h0 (by simpa using h1) fun x hx => ?_
  obtain ⟨y, hy, rfl⟩ := List.mem_map.mp hx
  exact h y hy
theorem calledW_b {φ : Nat → List D → M D} {kd kf kn : Nat} (draw_W : DrawOk φ kd) (far_W : FarOk φ kf) (name_W : NameOk φ kn) {S : Sto} {T : List O} {Q : D → Sto → Prop} (hd : Dk S T) (h : ∀ x S', Cl x → Dk S' T → Q (.str x) S') : W (bodyD 2 (evSs φ (calledGenW kd kf kn)) [.ref 1]) S Q := by
  rw [W_body]
  unfold calledGenW
  simp [startD]
  refine draw_W hd (by decide) (by decide) fun i1 S1 a1 b1 d1 => ?_
  simp
  split
  · refine draw_W d1 (by decide) (by decide) fun i2 S2 a2 b2 d2 => ?_
    refine W_ixL_mem (xs := ["to", "fun", "run", "gone", "at", "shape", "hole", "call", "family", "give"]) a2 b2 fun w hw => ?_
    have : ∀ w ∈ (["to", "fun", "run", "gone", "at", "shape", "hole", "call", "family", "give"] : List Str), nameS w = true := by decide +kernel
    exact h w S2 (.inl (this w hw)) d2
  · split
    · exact far_W d1 fun x S2 hx d2 => h x S2 (.inr hx) d2
    · exact name_W d1 fun x S2 hx d2 => h x S2 (.inl hx) d2
def leafGenB (kd kn : Nat) (a b e : Int) : Sxs :=
    (.cons (.set 1 (.call kd (.cons (.var 0) (.cons (.int 3) .nil))))
    (.cons (.set 2 (.ix (.lst false (.cons (.call kd (.cons (.var 0) (.cons (.int a) .nil))) (.cons (.call kd (.cons (.var 0) (.cons (.int b) .nil))) (.cons (.bin .pow false (.int 10) (.int e)) .nil)))) (.call kd (.cons (.var 0) (.cons (.int 3) .nil)))))
    (.cons (.ret (.ix (.lst false (.cons (.tup (.cons (.str "at") (.cons (.var 2) .nil))) (.cons (.tup (.cons (.str "world") (.cons (.call kd (.cons (.var 0) (.cons (.int 10) .nil))) .nil))) (.cons (.tup (.cons (.str "hole") (.cons (.call kn (.cons (.var 0) .nil)) .nil))) .nil)))) (.var 1)))
    .nil)))
theorem leaf_b {φ : Nat → List D → M D} {kd kn : Nat} {a b e v : Int} (draw_W : DrawOk φ kd) (name_W : NameOk φ kn) (ha : 0 < a ∧ a < 1000) (hb : 0 < b ∧ b < 1000) (he : ∀ S, powD (.int 10) (.int e) S = .ok (.int v) S) (hv : 0 ≤ v ∧ v ≤ 10 ^ 39) {mm : Nat} (hm : 1000 ≤ mm ∧ v ≤ mm) {S : Sto} {T : List O} {Q : D → Sto → Prop} (hd : Dk S T)
    (h : ∀ (t : PL.T) S', t.Ok → t.dp = 0 → t.sz = 1 → t.mx ≤ mm → Dk S' T → Q t.d S') : W (bodyD 3 (evSs φ (leafGenB kd kn a b e)) [.ref 1]) S Q := by
  rw [W_body]
  unfold leafGenB
  simp [startD]
  refine draw_W hd (by decide) (by decide) fun i1 S1 a1 b1 d1 => ?_
  refine draw_W d1 (by omega) (by omega) fun i2 S2 a2 b2 d2 => ?_
  refine draw_W d2 (by omega) (by omega) fun i3 S3 a3 b3 d3 => ?_
  simp [W_of (he _)]
  refine draw_W d3 (by decide) (by decide) fun i4 S4 a4 b4 d4 => ?_
  refine W_ixL_all a4 b4 ?_
  intro x hx
  obtain ⟨k, rfl, hk, hkm⟩ : ∃ k : Nat, x = .int k ∧ k < 10 ^ 40 ∧ k ≤ mm := by
    simp at hx
    have mk : ∀ j : Int, 0 ≤ j → j ≤ 10 ^ 39 → j ≤ mm → ∃ k : Nat, D.int j = .int k ∧ k < 10 ^ 40 ∧ k ≤ mm := by
      intro j h0 h1 h2
      obtain ⟨k, rfl⟩ := Int.eq_ofNat_of_zero_le h0
      exact ⟨k, rfl, by omega, by omega⟩
    rcases hx with rfl | rfl | rfl
    · exact mk _ a2 (by omega) (by omega)
    · exact mk _ a3 (by omega) (by omega)
    · exact mk _ hv.1 hv.2 hm.2
  refine draw_W d4 (by decide) (by decide) fun i5 S5 a5 b5 d5 => ?_
  refine name_W d5 fun y S6 hy d6 => ?_
  refine W_ixL_all a1 b1 ?_
  intro t ht
  simp at ht
  obtain ⟨j, rfl⟩ := Int.eq_ofNat_of_zero_le a5
  rcases ht with rfl | rfl | rfl
  · exact h (.at k) S6 hk rfl rfl hkm d6
  · exact h (.world j) S6 (show j ≤ 9 by omega) rfl rfl (Nat.zero_le _) d6
  · exact h (.hole y) S6 hy rfl rfl (Nat.zero_le _) d6
theorem last_at (T0 : List O) (o : O) : (T0 ++ [o])[T0.length]? = some o := by simp
theorem last_set (T0 : List O) (o o' : O) : (T0 ++ [o]).set T0.length o' = T0 ++ [o'] := by
  induction T0 with
  | nil => rfl
  | cons a r ih =>
    show a :: (r ++ [o]).set r.length o' = a :: (r ++ [o'])
    rw [ih]
/-! ### tracked lists -/
section
variable {S : Sto} {n : Nat} {xs : List D}
theorem ix_ref {i : Int} {e : D} (h : S[n]? = some (.lst xs)) (ha : atI xs i = some e) : ixD (.ref n) (.int i) S = .ok e S := by
  show (match ((itemsR S (.ref n)).bind fun xs => atI xs i) with | some e => R.ok e S | none => dicIx S (.ref n) (.inl i)) = _
  have : itemsR S (.ref n) = some xs := by
    show (match S[n]? with | some (.lst ds) => some ds | _ => none) = _
    rw [h]
  rw [this, Option.bind_some, ha]
theorem set_ref {i : Int} {j : Nat} {d : D} (h : S[n]? = some (.lst xs)) (hj : ixN xs.length i = some j) : setD (.ref n) (.int i) d S = .ok () (S.set n (.lst (xs.set j d))) := by
  unfold setD
  simp only [h, hj]
theorem append_ref {d : D} (h : S[n]? = some (.lst xs)) (hl : xs.length < SL) : appendD (.ref n) [d] S = .ok .non (S.set n (.lst (xs ++ [d]))) := by
  unfold appendD
  simp only [h, if_pos hl]
theorem rcL_ref (h : S[n]? = some (.lst xs)) : rcL (.ref n) S = .ok () S := by
  unfold rcL
  simp only [h]
theorem len_ref (h : S[n]? = some (.lst xs)) : lenD [.ref n] S = .ok (.int xs.length) S := by
  have : itemsR S (.ref n) = some xs := by
    show (match S[n]? with | some (.lst ds) => some ds | _ => none) = _
    rw [h]
  unfold lenD lenE
  simp only [this]
theorem src_ref (h : S[n]? = some (.lst xs)) : seqSrc (.ref n) S = .ok (.ref n) S := by
  unfold seqSrc
  simp only [h]
end
theorem left_at {S : Sto} {T0 : List O} {v : Int} (hd : Dk S (T0 ++ [.lst [.int v]])) : S[T0.length + 2]? = some (.lst [.int v]) := by
  obtain ⟨cs, m, t, hl, rfl⟩ := hd
  rw [List.getElem?_cons_succ, List.getElem?_cons_succ, last_at]
theorem left_ix {S : Sto} {T0 : List O} {v : Int} (hd : Dk S (T0 ++ [.lst [.int v]])) : ixD (.ref (T0.length + 2)) (.int 0) S = .ok (.int v) S := ix_ref (left_at hd) rfl
theorem left_set {S : Sto} {T0 : List O} {v u : Int} (hd : Dk S (T0 ++ [.lst [.int v]])) : ∃ S', setD (.ref (T0.length + 2)) (.int 0) (.int u) S = .ok () S' ∧ Dk S' (T0 ++ [.lst [.int u]]) := by
  refine ⟨_, set_ref (j := 0) (left_at hd) rfl, ?_⟩
  obtain ⟨cs, m, t, hl, rfl⟩ := hd
  refine ⟨cs, m, t, hl, ?_⟩
  show O.lst (cs.map D.int) :: O.lst [.ref 0, .int m, .int t] :: (T0 ++ [O.lst [D.int v]]).set T0.length (.lst [.int u]) = _
  rw [last_set]
theorem min_I (i j : Int) (S : Sto) (Q) : W (minD [.int i, .int j]) S Q = Q (.int (if j < i then j else i)) S := rfl
def termGenB (kd kl kt kc kn : Nat) : Sxs :=
    (.cons (.par [3, 4] (.tup (.cons (.call kd (.cons (.var 0) (.cons (.int 9) .nil))) (.cons (.call kd (.cons (.var 0) (.cons (.int 5) .nil))) .nil))))
    (.cons (.ite (.or (.cons (.cmp .eq (.var 1) (.int 0)) (.cons (.cmp .lt (.var 3) (.int 2)) (.cons (.cmp .lt (.ix (.var 2) (.int 0)) (.int 2)) .nil)))) (.cons (.ret (.call kl (.cons (.var 0) .nil)))
    .nil) .nil)
    (.cons (.set 5 (.ife (.cmp .lt (.var 3) (.int 6)) (.int 2) (.fn .min false (.cons (.var 4) (.cons (.ix (.var 2) (.int 0)) .nil)))))
    (.cons (.put (.var 2) (.int 0) (.bin .sub false (.ix (.var 2) (.int 0)) (.var 5)))
    (.cons (.set 6 (.fn .tuple false (.cons (.lc false (.nm 7) (.rng (.cons (.var 5) .nil)) .nil (.call kt (.cons (.var 0) (.cons (.bin .sub false (.var 1) (.int 1)) (.cons (.var 2) .nil)))) [7]) .nil)))
    (.cons (.ite (.cmp .lt (.var 3) (.int 6)) (.cons (.ret (.bin .add false (.tup (.cons (.ix (.lst false (.cons (.str "to") (.cons (.str "fun") (.cons (.str "give") (.cons (.str "give") .nil))))) (.bin .sub false (.var 3) (.int 2))) (.cons (.ix (.lst false (.cons (.str "run") (.cons (.str "gone") .nil))) (.call kd (.cons (.var 0) (.cons (.int 2) .nil)))) .nil))) (.var 6)))
    .nil) .nil)
    (.cons (.ite (.cmp .eq (.var 3) (.int 8)) (.cons (.ret (.tup (.cons (.str "shape") (.cons (.call kc (.cons (.var 0) .nil)) (.cons (.call kn (.cons (.var 0) .nil)) (.cons (.var 6) .nil))))))
    .nil) .nil)
    (.cons (.ret (.tup (.cons (.ix (.lst false (.cons (.str "family") (.cons (.str "call") .nil))) (.bin .sub false (.var 3) (.int 6))) (.cons (.call kc (.cons (.var 0) .nil)) (.cons (.var 6) .nil)))))
    .nil))))))))
theorem par2 (d e : D) (S : Sto) : unpackD 2 none (.tup [d, e]) S = .ok [d, e] S := rfl
theorem w3_mem {w : Str} (h : w ∈ (["to", "fun", "give", "give"] : List Str)) : ∃ v : W3, w = v.s := by
  simp at h
  rcases h with rfl | rfl | rfl
  · exact ⟨.to, rfl⟩
  · exact ⟨.fn, rfl⟩
  · exact ⟨.give, rfl⟩
theorem mk_mem {w : Str} (h : w ∈ (["run", "gone"] : List Str)) : ∃ v : Mk, w = v.s := by
  simp at h
  rcases h with rfl | rfl
  · exact ⟨.run, rfl⟩
  · exact ⟨.gone, rfl⟩
theorem w2_mem {w : Str} (h : w ∈ (["family", "call"] : List Str)) : ∃ v : W2, w = v.s := by
  simp at h
  rcases h with rfl | rfl
  · exact ⟨.family, rfl⟩
  · exact ⟨.call, rfl⟩
section
variable {F : Nat → Nat → List D → M D} {kd kl kt kc kn mm : Nat}
theorem term_F (hT : IsFn F kt 8 3 (termGenB kd kl kt kc kn)) (draw_W : ∀ n, 1 ≤ n → DrawOk (F n) kd) (leaf_W : ∀ n, 4 ≤ n → LeafOk (F n) kl mm) (called_W : ∀ n, 4 ≤ n → ClOk (F n) kc) (name_W : ∀ n, 2 ≤ n → NameOk (F n) kn) :
    ∀ (deep : Nat) {n : Nat} {S : Sto} {T0 : List O} {v : Int} {Q : D → Sto → Prop}, Dk S (T0 ++ [.lst [.int v]]) → 0 ≤ v → v ≤ 1000 → deep + 5 ≤ n →
    (∀ (t : T) S' v', 0 ≤ v' → v' ≤ v → t.Ok → t.dp ≤ deep → t.sz ≤ (1 + v - v').toNat → t.mx ≤ mm → Dk S' (T0 ++ [.lst [.int v']]) → Q t.d S') → W (F n kt [.ref 1, .int deep, .ref (T0.length + 2)]) S Q := by
  intro deep
  induction deep with
  | zero =>
    intro n S T0 v Q hd h0 h1 hn h
    obtain ⟨n, rfl⟩ : ∃ m, n = m + 5 := ⟨n - 5, by omega⟩
    rw [hT (n + 4) _ rfl, W_body]
    unfold termGenB
    simp [startD]
    refine draw_W (n + 4) (by omega) hd (by decide) (by decide) fun i1 S1 a1 b1 d1 => ?_
    refine draw_W (n + 4) (by omega) d1 (by decide) (by decide) fun i2 S2 a2 b2 d2 => ?_
    simp [W_of (par2 _ _ _), setsL]
    refine leaf_W (n + 4) (by omega) d2 fun t S3 ht hp hz hx d3 => ?_
    exact h t S3 v h0 (Int.le_refl _) ht (by omega) (by omega) hx d3
  | succ deep ih =>
    intro n S T0 v Q hd h0 h1 hn h
    obtain ⟨n, rfl⟩ : ∃ m, n = m + 5 := ⟨n - 5, by omega⟩
    rw [hT (n + 4) _ rfl, W_body]
    unfold termGenB
    simp [startD]
    refine draw_W (n + 4) (by omega) hd (by decide) (by decide) fun i1 S1 a1 b1 d1 => ?_
    refine draw_W (n + 4) (by omega) d1 (by decide) (by decide) fun i2 S2 a2 b2 d2 => ?_
    have lf : W (F (n + 4) kl [.ref 1]) S2 (fun d S' => Q d S') := by
      refine leaf_W (n + 4) (by omega) d2 fun t S3 ht hp hz hx d3 => ?_
      exact h t S3 v h0 (Int.le_refl _) ht (by omega) (by omega) hx d3
    have e0 : ¬ ((deep : Int) + 1 = 0) := by omega
    simp [W_of (par2 _ _ _), setsL, e0, W_of (left_ix d2)]
    by_cases c1 : i1 < 2
    · simp [c1]
      exact lf
    by_cases c2 : v < 2
    · simp [c1, c2]
      exact lf
    simp [c1, c2]
    have parts : ∀ (m : Int) (ρ : MP.Env) (S4 : Sto) (R : D → Sto → Prop), 0 ≤ m → m ≤ 4 → m ≤ v → ρ = [some (.ref 1), some (.int ((deep : Int) + 1)), some (.ref (T0.length + 2)), some (.int i1), some (.int i2), some (.int m), none, none] → Dk S4 (T0 ++ [.lst [.int (v - m)]]) →
        (∀ (ts : List T) S' v', 0 ≤ v' → v' ≤ v - m → ts.length = m.toNat → T.Oks ts → T.dps ts ≤ deep → T.szs ts ≤ (v - v').toNat → T.mxs ts ≤ mm → Dk S' (T0 ++ [.lst [.int v']]) → R (.tup (T.ds ts)) S') →
        W (lcS false (Tg.nm 7).ev (evA (F (n + 4)) Txs.nil) (evE (F (n + 4)) (Ex.call kt (Exs.cons (Ex.var 0) (Exs.cons (Ex.bin Bop.sub false (Ex.var 1) (Ex.int 1)) (Exs.cons (Ex.var 2) Exs.nil))))) (wipeE ρ [7]) (.fix (rangeL 0 m.toNat))) S4 (fun d S1 => W (tupleD [d]) S1 R) := by
      rintro m ρ S4 R m0 m4 mv rfl d4 hR
      refine W_lcS (I := fun i acc S' => ∃ v', 0 ≤ v' ∧ v' ≤ v - m ∧ ∃ ts : List T, acc = T.ds ts ∧ ts.length = i ∧ T.Oks ts ∧ T.dps ts ≤ deep ∧ T.szs ts ≤ ((i : Int) + (v - m) - v').toNat ∧ T.mxs ts ≤ mm ∧ Dk S' (T0 ++ [.lst [.int v']])) ?_ ?_ ?_ ?_
      · rw [range_len]; show _ ≤ 16777216; omega
      · exact ⟨v - m, by omega, Int.le_refl _, [], rfl, rfl, trivial, Nat.zero_le _, Nat.zero_le _, Nat.zero_le _, d4⟩
      · rintro i d acc S' hi ⟨v', w0, w1, ts, rfl, wl, wo, wp, wz, wx, wd⟩ _
        obtain ⟨hi, rfl⟩ := range_at hi
        simp [wipeE]
        refine ih wd w0 (by omega) (by omega) fun t S'' v'' u0 u1 ut up uz ux ud => ?_
        refine ⟨v'', u0, by omega, ts ++ [t], ?_, by simp [wl], ?_, ?_, ?_, ?_, ud⟩
        · rw [ds_map, ds_map, List.map_append]; rfl
        · rw [oks_iff] at wo ⊢
          intro x hx
          rcases List.mem_append.mp hx with hx | hx
          · exact wo x hx
          · rw [List.mem_singleton.mp hx]; exact ut
        · rw [dps_le] at wp ⊢
          intro x hx
          rcases List.mem_append.mp hx with hx | hx
          · exact wp x hx
          · rw [List.mem_singleton.mp hx]; exact up
        · rw [szs_append]
          show T.szs ts + (t.sz + 0) ≤ _
          omega
        · rw [mxs_le] at wx ⊢
          intro x hx
          rcases List.mem_append.mp hx with hx | hx
          · exact wx x hx
          · rw [List.mem_singleton.mp hx]; exact ux
      · rintro ys S' ⟨v', w0, w1, ts, rfl, wl, wo, wp, wz, wx, wd⟩ _
        rw [range_len] at wl wz
        simp
        exact hR ts S' v' w0 w1 wl wo wp (by omega) wx wd
    have fin : ∀ (m : Int) (ts : List T) (S1 : Sto) (v' : Int), 0 ≤ v' → v' ≤ v - m → 0 ≤ m → ts.length = m.toNat → (i1 < 6 → m = 2) → T.Oks ts → T.dps ts ≤ deep → T.szs ts ≤ (v - v').toNat → T.mxs ts ≤ mm → Dk S1 (T0 ++ [.lst [.int v']]) →
        (if i1 < 6 then
              W (ixD (D.lst [D.str (Str.ofString "to"), D.str (Str.ofString "fun"), D.str (Str.ofString "give"), D.str (Str.ofString "give")]) (D.int (i1 - 2))) S1 fun d_1 S1 =>
                W (F (n + 4) kd [D.ref 1, D.int 2]) S1 fun e S2 =>
                  W (ixD (D.lst [D.str (Str.ofString "run"), D.str (Str.ofString "gone")]) e) S2 fun d_2 S1 =>
                    W (addD false (D.tup [d_1, d_2]) (.tup (T.ds ts))) S1 fun d S1 => Q d S1
            else
              if i1 = 8 then
                W (F (n + 4) kc [D.ref 1]) S1 fun d_1 S1 =>
                  W (F (n + 4) kn [D.ref 1]) S1 fun d_2 S1 =>
                    Q (D.tup [D.str (Str.ofString "shape"), d_1, d_2, (.tup (T.ds ts))]) S1
              else
                W (ixD (D.lst [D.str (Str.ofString "family"), D.str (Str.ofString "call")]) (D.int (i1 - 6))) S1
                  fun d_1 S1 => W (F (n + 4) kc [D.ref 1]) S1 fun d_2 S1 => Q (D.tup [d_1, d_2, (.tup (T.ds ts))]) S1) := by
      intro m ts S1 v' w0 w1 m0 wl hm wo wp wz wx wd
      split
      · rename_i c6
        have hm2 := hm c6
        subst hm2
        obtain ⟨t1, t2, rfl⟩ : ∃ t1 t2, ts = [t1, t2] := by
          match ts, wl with
          | [a, b], _ => exact ⟨a, b, rfl⟩
        refine W_ixL_mem (xs := ["to", "fun", "give", "give"]) (by omega) (by show i1 - 2 < 4; omega) fun w hw => ?_
        refine draw_W (n + 4) (by omega) wd (by decide) (by decide) fun i5 S5 a5 b5 d5 => ?_
        refine W_ixL_mem (xs := ["run", "gone"]) a5 b5 fun k hk => ?_
        rw [W_addT _ (by show 2 + 2 ≤ 16777216; decide)]
        obtain ⟨w, rfl⟩ := w3_mem hw
        obtain ⟨k, rfl⟩ := mk_mem hk
        refine h (.bi w k t1 t2) _ v' w0 (by omega) ⟨wo.1, wo.2.1⟩ ?_ ?_ ?_ d5
        · rw [T.dp]
          have : max t1.dp (max t2.dp 0) ≤ deep := wp
          omega
        · rw [T.sz]
          have : t1.sz + (t2.sz + 0) ≤ (v - v').toNat := wz
          omega
        · rw [T.mx]
          have : max t1.mx (max t2.mx 0) ≤ mm := wx
          omega
      · split
        · refine called_W (n + 4) (by omega) wd fun x S2 hx d2 => ?_
          refine name_W (n + 4) (by omega) d2 fun y S3 hy d3 => ?_
          refine h (.sh x y ts) _ v' w0 (by omega) ⟨hx, hy, wo⟩ ?_ ?_ wx d3
          · rw [T.dp]; omega
          · rw [T.sz]; omega
        · rename_i c6 c8
          refine W_ixL_mem (xs := ["family", "call"]) (by omega) (by show i1 - 6 < 2; omega) fun w hw => ?_
          refine called_W (n + 4) (by omega) wd fun x S2 hx d2 => ?_
          obtain ⟨w, rfl⟩ := w2_mem hw
          refine h (.no w x ts) _ v' w0 (by omega) ⟨hx, wo⟩ ?_ ?_ wx d2
          · rw [T.dp]; omega
          · rw [T.sz]; omega
    split
    · rename_i c6
      obtain ⟨S3, e3, d3⟩ := left_set (u := v - 2) d2
      rw [W_of e3, W_rng (by omega)]
      refine parts 2 _ _ _ (by decide) (by decide) (by omega) rfl d3 fun ts S' v' w0 w1 wl wo wp wz wx wd => ?_
      have := fin 2 ts S' v' w0 w1 (by decide) wl (fun _ => rfl) wo wp wz wx wd
      rw [if_pos c6] at this
      exact this
    · rename_i c6
      rw [min_I]
      generalize hm : (if v < i2 then v else i2) = m
      have hm0 : 0 ≤ m ∧ m ≤ 4 ∧ m ≤ v := by
        rw [← hm]
        split <;> omega
      obtain ⟨S3, e3, d3⟩ := left_set (u := v - m) d2
      rw [W_of (left_ix d2), W_subI, W_of e3, W_rng (by omega)]
      refine parts m _ _ _ hm0.1 hm0.2.1 hm0.2.2 rfl d3 fun ts S' v' w0 w1 wl wo wp wz wx wd => ?_
      have := fin m ts S' v' w0 w1 hm0.1 wl (fun z => absurd z c6) wo wp wz wx wd
      rw [if_neg c6] at this
      exact this
end
end PL

/-! PLd: the deck dealt (PL12 without what is about texts). -/
namespace PL
open MP PySem L2
def deckB : Sxs :=
    (.cons (.set 1 (.fn .list false (.cons (.sl false (.var 0) .non (.som (.int 63))) .nil)))
    (.cons (.ret (.lst true (.cons (.rev true (.var 1)) (.cons (.bin .add false (.fn .sum false (.cons (.lc false (.nm 2) (.seq (.var 1)) .nil (.bin .mod false (.var 2) (.int 1000033)) [2]) .nil)) (.bin .mul false (.int 6007) (.fn .len false (.cons (.var 1) .nil)))) (.cons (.int 0) .nil)))))
    .nil))
theorem ints_of : ∀ (xs : List Int), ints? (xs.map D.int) = some xs
  | [] => rfl
  | x :: xs => by
    have := ints_of xs
    simp [ints?, this]
theorem cut_map (xs : List Int) (lo hi : Option Int) : cutL (xs.map D.int) lo hi = (cutL xs lo hi).map D.int := by
  unfold cutL
  rw [List.length_map, List.map_take, List.map_drop]
theorem cut_len {α : Type} (xs : List α) (lo hi : Option Int) : (cutL xs lo hi).length ≤ xs.length := by
  unfold cutL
  rw [List.length_take, List.length_drop]
  omega
theorem deck_b {φ : Nat → List D → M D} {ns : List Int} (h63 : ns.length ≤ 63) {Q : D → Sto → Prop} (h : ∀ S, Dk S [] → Q (.ref 1) S) : W (bodyD 3 (evSs φ deckB) [.frz (ns.map D.int)]) [] Q := by
  rw [W_body]
  unfold deckB
  have e1 : ∀ S, sliceE false (.frz (ns.map D.int)) none (some 63) S = .ok (.lst ((cutL ns none (some 63)).map D.int)) S := fun S => by
    rw [← cut_map]; rfl
  generalize hc : cutL ns none (some 63) = cs at e1
  have hl : cs.length ≤ 63 := by rw [← hc]; exact Nat.le_trans (cut_len _ _ _) h63
  have e2 : ∀ S (R : D → Sto → Prop) xs, W (listD false [.lst xs]) S R = R (.lst xs) S := fun _ _ _ => rfl
  have e3 : ∀ S (R : D → Sto → Prop) xs, W (revE true (.lst xs)) S R = R (.ref S.length) (S ++ [.lst xs.reverse]) := fun _ _ _ => rfl
  simp [startD, W_of (e1 _)]
  rw [e2]
  simp
  rw [e3]
  refine W_lcS (I := fun i acc S' => S' = [O.lst (cs.map D.int).reverse] ∧ ∃ is : List Int, acc = is.map D.int) ?_ ⟨rfl, [], rfl⟩ ?_ ?_
  · show _ ≤ 16777216
    rw [List.length_map]; omega
  · rintro i d acc S' hi ⟨rfl, is, rfl⟩ _
    obtain ⟨c, hc', rfl⟩ := List.mem_map.mp (List.mem_of_getElem? hi)
    simp [wipeE]
    rw [W_modI (by decide)]
    exact ⟨rfl, is ++ [c % 1000033], by simp⟩
  · rintro ys S' ⟨rfl, is, rfl⟩ _
    have es : ∀ S, sumD [.lst (is.map D.int)] S = .ok (.int is.sum) S := fun S => by
      show (match (some (is.map D.int)).bind ints? with | some ns => R.ok (D.int ns.sum) S | none => .bad) = _
      rw [Option.bind_some, ints_of]
    rw [W_newF, W_of (es _), W_mulI (Or.inl (by decide)), W_addI]
    refine h _ ⟨cs.reverse, is.sum + 6007 * (cs.length : Int), 0, by simpa using hl, ?_⟩
    rw [← List.map_reverse]
    rfl
theorem Dk.app {S : Sto} {T : List O} (hd : Dk S T) (G : List O) : Dk (S ++ G) (T ++ G) := by
  obtain ⟨cs, m, t, hl, rfl⟩ := hd
  exact ⟨cs, m, t, hl, rfl⟩
theorem Dk.len {S : Sto} {T : List O} (hd : Dk S T) : List.length S = T.length + 2 := by
  obtain ⟨cs, m, t, hl, rfl⟩ := hd
  rfl
theorem Dk.at {S : Sto} {T : List O} (hd : Dk S T) (i : Nat) : S[i + 2]? = T[i]? := by
  obtain ⟨cs, m, t, hl, rfl⟩ := hd
  rfl
theorem Dk.set {S : Sto} {T : List O} (hd : Dk S T) (i : Nat) (o : O) : Dk (S.set (i + 2) o) (T.set i o) := by
  obtain ⟨cs, m, t, hl, rfl⟩ := hd
  exact ⟨cs, m, t, hl, rfl⟩
end PL

/-! K06b: exceptions made, by number. -/
namespace K06
open MP PySem L2 PL
theorem F_of {k : Nat} {f : FDef} (q : P[k]? = some f) (hc : f.cls = none) (n : Nat) (ds : List D) (h : ds.length = f.np + f.nfr) : runF P (n + 1) k ds = bodyD f.N.length (evSs (runF P n) f.body) ds := by
  show (match P[k]? with | some f => (match f.cls with | some ci => if 1 ≤ n then mkD k ci ds else M.fail | none => if ds.length = f.np + f.nfr then bodyD f.N.length (evSs (runF P n) f.body) ds else M.fail) | none => M.fail) = _
  rw [q]
  dsimp only
  rw [hc]
  exact if_pos h
theorem fn0 : IsFn (runF P) 0 3 1 deckB := fun n ds h => F_of (f := f0) rfl rfl n ds h
theorem fn1 : IsFn (runF P) 1 4 2 drawB := fun n ds h => F_of (f := f1) rfl rfl n ds h
theorem fn3 : IsFn (runF P) 3 6 1 (nameGenB 1) := fun n ds h => F_of (f := f3) rfl rfl n ds h
theorem fn4 : IsFn (runF P) 4 2 1 (farGenB 1 3) := fun n ds h => F_of (f := f4) rfl rfl n ds h
theorem fn5 : IsFn (runF P) 5 1 1 (calledGenB 1 4 3) := fun n ds h => F_of (f := f5) rfl rfl n ds h
theorem draw_W (n : Nat) (hn : 1 ≤ n) : DrawOk (runF P n) 1 := draw_F fn1 n hn
theorem name_W (n : Nat) (hn : 2 ≤ n) : NameOk (runF P n) 3 := name_F fn3 fn1 n hn
theorem far_W (n : Nat) (hn : 3 ≤ n) : FarOk (runF P n) 4 := far_F fn4 fn3 fn1 n hn
theorem called_W (n : Nat) (hn : 4 ≤ n) : ClOk (runF P n) 5 := by
  obtain ⟨n, rfl⟩ : ∃ m, n = m + 1 := ⟨n - 1, by omega⟩
  intro S T Q hd h
  rw [fn5 n _ rfl]
  exact called_b (draw_W n (by omega)) (far_W n (by omega)) (name_W n (by omega)) hd h
/-- the fields of the k-th, as they stand -/
def exF : Nat → D → D → List (Str × D)
  | 0, _, _ => []
  | 1, _, _ => []
  | 2, _, _ => []
  | 3, a, _ => [("name", a)]
  | 4, a, b => [("word", b), ("spot", a)]
  | 5, a, b => [("k", b), ("shape", a)]
  | 6, a, b => [("word", b), ("row", a)]
  | 7, a, b => [("row", b), ("name", a)]
  | 8, a, _ => [("names", a)]
  | 9, a, b => [("arguments", b), ("name", a)]
  | 10, a, _ => [("name", a)]
  | 11, a, b => [("row", b), ("name", a)]
  | 12, a, _ => [("name", a)]
  | 13, a, _ => [("name", a)]
  | 14, a, _ => [("many", a)]
  | 15, a, _ => [("most", a)]
  | 16, a, _ => [("size", a)]
  | 17, a, _ => [("name", a)]
  | 18, a, _ => [("spot", a)]
  | 19, a, _ => [("lib", a)]
  | 20, a, _ => [("hole", a)]
  | 21, a, _ => [("n", a)]
  | _, _, _ => []
/-- what is due of its fields -/
def due : Nat → D → D → List D
  | 0, _, _ => []
  | 1, _, _ => []
  | 2, _, _ => []
  | 3, a, _ => [a]
  | 4, a, b => [a, b]
  | 5, a, b => [a, b]
  | 6, a, b => [a, b]
  | 7, a, b => [a, b]
  | 8, a, _ => [a]
  | 9, a, b => [a, b]
  | 10, a, _ => [a]
  | 11, a, b => [a, b]
  | 12, a, _ => [a]
  | 13, a, _ => [a]
  | 14, a, _ => [a]
  | 15, a, _ => [a]
  | 16, a, _ => [a]
  | 17, a, _ => [a]
  | 18, a, _ => [a]
  | 19, a, _ => [a]
  | 20, a, _ => [a]
  | 21, a, _ => [a]
  | _, _, _ => []
section
variable (n : Nat) (S : Sto) (a b : D) (Q : D → Sto → Prop)
theorem mk0 : W (runF P (n + 2) 12 [a]) S Q = Q (.ref (List.length S)) (S ++ [.exc 12 []]) := rfl
theorem mk1 : W (runF P (n + 2) 13 [a]) S Q = Q (.ref (List.length S)) (S ++ [.exc 13 []]) := rfl
theorem mk2 : W (runF P (n + 2) 14 [a]) S Q = Q (.ref (List.length S)) (S ++ [.exc 14 []]) := rfl
theorem mk3 : W (runF P (n + 2) 15 [a]) S Q = Q (.ref (List.length S)) (S ++ [.exc 15 [("name", a)]]) := rfl
theorem mk4 : W (runF P (n + 2) 16 [a, b]) S Q = Q (.ref (List.length S)) (S ++ [.exc 16 [("word", b), ("spot", a)]]) := rfl
theorem mk5 : W (runF P (n + 2) 17 [a, b]) S Q = Q (.ref (List.length S)) (S ++ [.exc 17 [("k", b), ("shape", a)]]) := rfl
theorem mk6 : W (runF P (n + 2) 18 [a, b]) S Q = Q (.ref (List.length S)) (S ++ [.exc 18 [("word", b), ("row", a)]]) := rfl
theorem mk7 : W (runF P (n + 2) 19 [a, b]) S Q = Q (.ref (List.length S)) (S ++ [.exc 19 [("row", b), ("name", a)]]) := rfl
theorem mk8 : W (runF P (n + 2) 20 [a]) S Q = Q (.ref (List.length S)) (S ++ [.exc 20 [("names", a)]]) := rfl
theorem mk9 : W (runF P (n + 2) 21 [a, b]) S Q = Q (.ref (List.length S)) (S ++ [.exc 21 [("arguments", b), ("name", a)]]) := rfl
theorem mk10 : W (runF P (n + 2) 22 [a]) S Q = Q (.ref (List.length S)) (S ++ [.exc 22 [("name", a)]]) := rfl
theorem mk11 : W (runF P (n + 2) 23 [a, b]) S Q = Q (.ref (List.length S)) (S ++ [.exc 23 [("row", b), ("name", a)]]) := rfl
theorem mk12 : W (runF P (n + 2) 24 [a]) S Q = Q (.ref (List.length S)) (S ++ [.exc 24 [("name", a)]]) := rfl
theorem mk13 : W (runF P (n + 2) 25 [a]) S Q = Q (.ref (List.length S)) (S ++ [.exc 25 [("name", a)]]) := rfl
theorem mk14 : W (runF P (n + 2) 26 [a]) S Q = Q (.ref (List.length S)) (S ++ [.exc 26 [("many", a)]]) := rfl
theorem mk15 : W (runF P (n + 2) 27 [a]) S Q = Q (.ref (List.length S)) (S ++ [.exc 27 [("most", a)]]) := rfl
theorem mk16 : W (runF P (n + 2) 28 [a]) S Q = Q (.ref (List.length S)) (S ++ [.exc 28 [("size", a)]]) := rfl
theorem mk17 : W (runF P (n + 2) 29 [a]) S Q = Q (.ref (List.length S)) (S ++ [.exc 29 [("name", a)]]) := rfl
theorem mk18 : W (runF P (n + 2) 30 [a]) S Q = Q (.ref (List.length S)) (S ++ [.exc 30 [("spot", a)]]) := rfl
theorem mk19 : W (runF P (n + 2) 31 [a]) S Q = Q (.ref (List.length S)) (S ++ [.exc 31 [("lib", a)]]) := rfl
theorem mk20 : W (runF P (n + 2) 32 [a]) S Q = Q (.ref (List.length S)) (S ++ [.exc 32 [("hole", a)]]) := rfl
theorem mk21 : W (runF P (n + 2) 33 [a]) S Q = Q (.ref (List.length S)) (S ++ [.exc 33 [("n", a)]]) := rfl
end
theorem W_ix0 {x : D} {r : List D} {S : Sto} {Q : D → Sto → Prop} : W (ixD (.lst (x :: r)) (.int 0)) S Q = Q x S := W_of (by rw [ixD_lst, show ((0 : Int)) = ((0 : Nat) : Int) from rfl, MP.atI_nat]; rfl) Q
theorem W_ix1 {x y : D} {r : List D} {S : Sto} {Q : D → Sto → Prop} : W (ixD (.lst (x :: y :: r)) (.int 1)) S Q = Q y S := W_of (by rw [ixD_lst, show ((1 : Int)) = ((1 : Nat) : Int) from rfl, MP.atI_nat]; rfl) Q
theorem W_ix2 {x y z : D} {r : List D} {S : Sto} {Q : D → Sto → Prop} : W (ixD (.lst (x :: y :: z :: r)) (.int 2)) S Q = Q z S := W_of (by rw [ixD_lst, show ((2 : Int)) = ((2 : Nat) : Int) from rfl, MP.atI_nat]; rfl) Q
theorem W_ix3 {x y z t : D} {r : List D} {S : Sto} {Q : D → Sto → Prop} : W (ixD (.lst (x :: y :: z :: t :: r)) (.int 3)) S Q = Q t S := W_of (by rw [ixD_lst, show ((3 : Int)) = ((3 : Nat) : Int) from rfl, MP.atI_nat]; rfl) Q
/-- the k-th is made -/
theorem made_W (n : Nat) (k : Nat) (hk : k < 22) (a b : D) (S : Sto) {Q : D → Sto → Prop} (h : ∀ U r, (S ++ U)[r]? = some (.exc (12 + k) (exF k a b)) → S.length ≤ r → Q (.ref r) (S ++ U)) : W (runF P (n + 3) 7 [.int k, a, b]) S Q := by
  rw [F_of (f := f7) rfl rfl (n + 2) _ rfl, W_body]
  show W (evSs (runF P (n + 2)) b7 (startD 3 [.int k, a, b])) S _
  unfold b7
  rcases (by omega : k = 0 ∨ k = 1 ∨ k = 2 ∨ k = 3 ∨ k = 4 ∨ k = 5 ∨ k = 6 ∨ k = 7 ∨ k = 8 ∨ k = 9 ∨ k = 10 ∨ k = 11 ∨ k = 12 ∨ k = 13 ∨ k = 14 ∨ k = 15 ∨ k = 16 ∨ k = 17 ∨ k = 18 ∨ k = 19 ∨ k = 20 ∨ k = 21) with rfl | rfl | rfl | rfl | rfl | rfl | rfl | rfl | rfl | rfl | rfl | rfl | rfl | rfl | rfl | rfl | rfl | rfl | rfl | rfl | rfl | rfl <;>
  (simp [startD, mk0, mk1, mk2, mk3, mk4, mk5, mk6, mk7, mk8, mk9, mk10, mk11, mk12, mk13, mk14, mk15, mk16, mk17, mk18, mk19, mk20, mk21, W_ix0, W_ix1, W_ix2, W_ix3]
   refine h _ _ ?_ ?_
   · rw [List.getElem?_append_right (by omega)]
     simp [exF, Nat.add_assoc, Nat.add_sub_cancel_left]
   · omega)
end K06

/-! K06c: fields and marks, as told and as due. -/
namespace K06
open MP PySem L2 PL
theorem in_ints (x : Int) (ws : List Int) (S : Sto) : inD (.int x) (.tup (ws.map D.int)) S = .ok (.bl (decide (x ∈ ws))) S := by
  have h1 : (ws.map D.int).all flatD = true := by simp [flatD]
  have h2 : ((ws.map D.int).any fun y => eqF y (.int x)) = decide (x ∈ ws) := by
    induction ws with
    | nil => rfl
    | cons w ws ih =>
      have ih := ih (by simp [flatD])
      rw [List.map_cons, List.any_cons, ih]
      show (decide (w = x) || decide (x ∈ ws)) = decide (x ∈ w :: ws)
      by_cases e : w = x
      · subst e; simp
      · have : x ≠ w := Ne.symm e
        simp [e, this]
  unfold inD inE seqIn
  simp only [flatD, h1, h2, and_self, if_true]
theorem in2 (x a b : Int) (S : Sto) (Q : D → Sto → Prop) : W (inD (.int x) (.tup [.int a, .int b])) S Q = Q (.bl (decide (x ∈ [a, b]))) S := W_of (in_ints x [a, b] S) Q
theorem in4 (x a b c d : Int) (S : Sto) (Q : D → Sto → Prop) : W (inD (.int x) (.tup [.int a, .int b, .int c, .int d])) S Q = Q (.bl (decide (x ∈ [a, b, c, d]))) S := W_of (in_ints x [a, b, c, d] S) Q
theorem in5 (x a b c d e : Int) (S : Sto) (Q : D → Sto → Prop) : W (inD (.int x) (.tup [.int a, .int b, .int c, .int d, .int e])) S Q = Q (.bl (decide (x ∈ [a, b, c, d, e]))) S := W_of (in_ints x [a, b, c, d, e] S) Q
theorem in6 (x a b c d e f : Int) (S : Sto) (Q : D → Sto → Prop) : W (inD (.int x) (.tup [.int a, .int b, .int c, .int d, .int e, .int f])) S Q = Q (.bl (decide (x ∈ [a, b, c, d, e, f]))) S := W_of (in_ints x [a, b, c, d, e, f] S) Q
theorem addL_s {x y : List D} (h : x.length + y.length ≤ 1000) (S : Sto) (Q : D → Sto → Prop) : W (addD false (.lst x) (.lst y)) S Q = Q (.lst (x ++ y)) S := by
  rw [W_addL _ (by show _ ≤ 16777216; omega), W_newF]
/-- which classes it is of -/
def marksOf (g : List Nat → Bool) : D := .lst [.lst [.bl (g [12]), .bl (g [13]), .bl (g [14]), .bl (g [15]), .bl (g [16]), .bl (g [17]), .bl (g [18]), .bl (g [19]), .bl (g [20]), .bl (g [21]), .bl (g [22]), .bl (g [23]), .bl (g [24]), .bl (g [25]), .bl (g [26]), .bl (g [27]), .bl (g [28]), .bl (g [29]), .bl (g [30]), .bl (g [31]), .bl (g [32]), .bl (g [33])], .lst [.bl (g [27, 28]), .bl (g [12, 13, 14, 15, 16, 17, 18, 19, 20, 21, 22, 23, 24, 25, 26, 27, 28]), .bl (g [12, 13, 14, 15, 16, 17, 18, 19, 20, 21, 22, 23, 24, 25, 26, 27, 28]), .bl (g [29, 30, 31, 32, 33]), .bl (g [29, 30, 31, 32, 33])]]
theorem marks_W (n : Nat) (r : Nat) (g : List Nat → Bool) (S : Sto) (h : ∀ yes, isxD yes (.ref r) S = .ok (.bl (g yes)) S) {Q : D → Sto → Prop} (hq : Q (marksOf g) S) : W (runF P (n + 1) 6 [.ref r]) S Q := by
  rw [F_of (f := f6) rfl rfl n _ rfl, W_body]
  show W (evSs (runF P n) b6 (startD 3 [.ref r])) S _
  unfold b6
  simp [startD, W_of (h _), addL_s]
  exact hq
theorem due_marks (n k : Nat) (hk : k < 22) (S : Sto) : runF P (n + 1) 10 [.int k] S = .ok (marksOf fun yes => yes.contains (12 + k)) S := by
  rcases (by omega : k = 0 ∨ k = 1 ∨ k = 2 ∨ k = 3 ∨ k = 4 ∨ k = 5 ∨ k = 6 ∨ k = 7 ∨ k = 8 ∨ k = 9 ∨ k = 10 ∨ k = 11 ∨ k = 12 ∨ k = 13 ∨ k = 14 ∨ k = 15 ∨ k = 16 ∨ k = 17 ∨ k = 18 ∨ k = 19 ∨ k = 20 ∨ k = 21) with rfl | rfl | rfl | rfl | rfl | rfl | rfl | rfl | rfl | rfl | rfl | rfl | rfl | rfl | rfl | rfl | rfl | rfl | rfl | rfl | rfl | rfl <;> kernel_rfl
theorem fields_W (n k : Nat) (hk : k < 22) (a b : D) (S : Sto) (r : Nat) (h : S[r]? = some (.exc (12 + k) (exF k a b))) {Q : D → Sto → Prop} (hq : Q (.lst (due k a b)) S) : W (runF P (n + 1) 8 [.int k, .ref r]) S Q := by
  rw [F_of (f := f8) rfl rfl n _ rfl, W_body]
  show W (evSs (runF P n) b8 (startD 2 [.int k, .ref r])) S _
  unfold b8
  have fl : ∀ f v, (exF k a b).lookup f = some v → fldD f (.ref r) S = .ok v S := fun f v hv => fld_at h hv
  rcases (by omega : k = 0 ∨ k = 1 ∨ k = 2 ∨ k = 3 ∨ k = 4 ∨ k = 5 ∨ k = 6 ∨ k = 7 ∨ k = 8 ∨ k = 9 ∨ k = 10 ∨ k = 11 ∨ k = 12 ∨ k = 13 ∨ k = 14 ∨ k = 15 ∨ k = 16 ∨ k = 17 ∨ k = 18 ∨ k = 19 ∨ k = 20 ∨ k = 21) with rfl | rfl | rfl | rfl | rfl | rfl | rfl | rfl | rfl | rfl | rfl | rfl | rfl | rfl | rfl | rfl | rfl | rfl | rfl | rfl | rfl | rfl <;>
  (first
    | (simp [startD, in2, in5]; exact hq)
    | (have f1 := fl "name" a rfl; have f2 := fl "row" b rfl; simp [startD, in2, in5, W_of f1, W_of f2]; exact hq)
    | (have f1 := fl "name" a rfl; have f2 := fl "arguments" b rfl; simp [startD, in2, in5, W_of f1, W_of f2]; exact hq)
    | (have f1 := fl "spot" a rfl; have f2 := fl "word" b rfl; simp [startD, in2, in5, W_of f1, W_of f2]; exact hq)
    | (have f1 := fl "shape" a rfl; have f2 := fl "k" b rfl; simp [startD, in2, in5, W_of f1, W_of f2]; exact hq)
    | (have f1 := fl "row" a rfl; have f2 := fl "word" b rfl; simp [startD, in2, in5, W_of f1, W_of f2]; exact hq)
    | (have f1 := fl "name" a rfl; simp [startD, in2, in5, W_of f1]; exact hq)
    | (have f1 := fl "names" a rfl; simp [startD, in2, in5, W_of f1]; exact hq)
    | (have f1 := fl "many" a rfl; simp [startD, in2, in5, W_of f1]; exact hq)
    | (have f1 := fl "most" a rfl; simp [startD, in2, in5, W_of f1]; exact hq)
    | (have f1 := fl "size" a rfl; simp [startD, in2, in5, W_of f1]; exact hq)
    | (have f1 := fl "spot" a rfl; simp [startD, in2, in5, W_of f1]; exact hq)
    | (have f1 := fl "lib" a rfl; simp [startD, in2, in5, W_of f1]; exact hq)
    | (have f1 := fl "hole" a rfl; simp [startD, in2, in5, W_of f1]; exact hq)
    | (have f1 := fl "n" a rfl; simp [startD, in2, in5, W_of f1]; exact hq))
end K06

/-! K06d: what they are made with. -/
namespace K06
open MP PySem L2 PL
/-- small data, and smaller -/
structure Sm (d : D) : Prop where
  ok : okD BB d = true
  dep : depD d ≤ 10
  wt : wtD d ≤ 100000
structure Sl (d : D) : Prop where
  ok : okD BB d = true
  dep : depD d ≤ 3
  wt : wtD d ≤ 5000
theorem Sl.sm {d : D} (h : Sl d) : Sm d := ⟨h.ok, by have := h.dep; omega, by have := h.wt; omega⟩
theorem sl_int {i : Int} (h0 : 0 ≤ i) (h1 : i ≤ 10 ^ 39) : Sl (.int i) := by
  refine ⟨decide_eq_true ?_, by show 0 ≤ 3; omega, by show 60 ≤ 5000; omega⟩
  show i.natAbs < 10 ^ 40
  have : (10 : Nat) ^ 39 < 10 ^ 40 := by decide
  have h2 : (i.natAbs : Int) ≤ ((10 ^ 39 : Nat) : Int) := by
    rw [Int.natAbs_of_nonneg h0]
    exact h1
  exact Nat.lt_of_le_of_lt (Int.ofNat_le.mp h2) this
theorem sl_small {i : Int} (h0 : 0 ≤ i) (h1 : i ≤ 2000) : Sl (.int i) := sl_int h0 (Int.le_trans h1 (by decide))
theorem sl_non : Sl .non := ⟨rfl, by show 0 ≤ 3; omega, by show 60 ≤ 5000; omega⟩
theorem sl_str {x : Str} (h : ascS x = true) (hl : x.length ≤ 58) : Sl (.str x) := ⟨h, by show 0 ≤ 3; omega, by show 10 * x.length + 60 ≤ 5000; omega⟩
theorem sl_cl {x : Str} (h : Cl x) : Sl (.str x) := sl_str (cl_facts h).1 (cl_facts h).2.2
theorem sl_name {x : Str} (h : nameS x = true) : Sl (.str x) := sl_cl (.inl h)
theorem wtL_le {B : Nat} : ∀ {xs : List D}, (∀ x ∈ xs, wtD x ≤ B) → wtL xs ≤ (B + 2) * xs.length
  | [], _ => Nat.le_refl _
  | x :: xs, h => by
    have h1 := h x (List.mem_cons_self ..)
    have h2 := wtL_le (xs := xs) fun y hy => h y (List.mem_cons_of_mem _ hy)
    show wtD x + 2 + wtL xs ≤ (B + 2) * (xs.length + 1)
    rw [Nat.mul_add, Nat.mul_one]
    omega
theorem sm_tup {xs : List D} (h : ∀ x ∈ xs, Sl x) (hl : xs.length ≤ 10) : Sm (.tup xs) := by
  refine ⟨okL_all.mpr fun x hx => (h x hx).ok, ?_, ?_⟩
  · show depL xs + 1 ≤ 10
    have := depL_le.mpr fun x hx => (h x hx).dep
    omega
  · show wtL xs + 60 ≤ 100000
    have := wtL_le fun x hx => (h x hx).wt
    have h2 : (5000 + 2) * xs.length ≤ (5000 + 2) * 10 := Nat.mul_le_mul_left _ hl
    omega
theorem strs_ix {xs : List Str} (hx : ∀ x ∈ xs, ascS x = true ∧ x.length ≤ 58) {i : Int} {S : Sto} {Q : D → Sto → Prop} (h0 : 0 ≤ i) (h1 : i < xs.length) (h : ∀ d, Sl d → Q d S) : W (ixD (.lst (xs.map D.str)) (.int i)) S Q :=
  W_ixL_mem h0 h1 fun x hm => h _ (sl_str (hx x hm).1 (hx x hm).2)
/-- a tuple of some drawn -/
theorem comp_W (n : Nat) (hn : 5 ≤ n) {w : Int} (hw : 0 < w ∧ w < 1000) {m : Int} (hm : 0 ≤ m ∧ m ≤ 10) {S : Sto} {T : List O} {ρ : MP.Env} (hd : Dk S T) {Q : D → Sto → Prop} {ge : MP.Env → M D} {j : Nat}
    (hge : ∀ (d : D) (S : Sto) (Q : D → Sto → Prop), Dk S T → (∀ d S', Sl d → Dk S' T → Q d S') → W (ge (ρ.set j (some d))) S Q) (h : ∀ xs S', (∀ x ∈ xs, Sl x) → xs.length ≤ 10 → Dk S' T → Q (.lst xs) S') :
    W (lcS false (Tg.nm j).ev (evA (runF P n) .nil) ge ρ (.fix (rangeL 0 m.toNat))) S Q := by
  refine W_lcS (I := fun i acc S' => (∀ x ∈ acc, Sl x) ∧ acc.length = i ∧ Dk S' T) ?_ ⟨by simp, rfl, hd⟩ ?_ ?_
  · rw [range_len]; show _ ≤ 16777216; omega
  · intro i d acc S' hi hI _
    obtain ⟨h1, h2, h3⟩ := hI
    show W (ge (ρ.set j (some d))) S' _
    refine hge d S' _ h3 fun d S2 hs d2 => ⟨fun x hx => ?_, by simp [h2], d2⟩
    rcases List.mem_append.mp hx with hx | hx
    · exact h1 x hx
    · rw [List.mem_singleton.mp hx]; exact hs
  · intro ys S' hI _
    obtain ⟨h1, h2, h3⟩ := hI
    rw [range_len] at h2
    rw [W_newF]
    exact h ys S' h1 (by omega) h3
theorem things_W (n : Nat) (hn : 10 ≤ n) (k : Nat) (hk : k < 22) {S : Sto} {T : List O} (hd : Dk S T) {Q : D → Sto → Prop} (h : ∀ a b S', Sm a → Sm b → Dk S' T → Q (.tup [a, b]) S') : W (runF P n 9 [.ref 1, .int k]) S Q := by
  obtain ⟨n, rfl⟩ : ∃ m, n = m + 1 := ⟨n - 1, by omega⟩
  rw [F_of (f := f9) rfl rfl n _ rfl, W_body]
  show W (evSs (runF P n) b9 (startD 7 [.ref 1, .int k])) S _
  have p39 : ∀ S, powD (.int 10) (.int 39) S = .ok (.int (10 ^ 39)) S := fun S => rfl
  have tl : ∀ xs S, tupleD [.lst xs] S = .ok (.tup xs) S := fun xs S => rfl
  unfold b9
  simp [startD]
  refine called_W n (by omega) hd fun x S1 hx d1 => ?_
  refine draw_W n (by omega) d1 (by decide) (by decide) fun i2 S2 a2 b2 d2 => ?_
  rw [W_of (p39 _)]
  refine draw_W n (by omega) d2 (by decide) (by decide) fun i3 S3 a3 b3 d3 => ?_
  refine W_ixL_all a3 b3 fun num hnum => ?_
  have hnum : Sl num := by
    simp only [List.mem_cons, List.not_mem_nil, or_false] at hnum
    rcases hnum with rfl | rfl | rfl | rfl
    · exact sl_small (by omega) (by omega)
    · exact sl_small (by omega) (by omega)
    · exact sl_small a2 (by omega)
    · exact sl_int (by decide) (Int.le_refl _)
  have pp : ∀ d e S, unpackD 2 none (.tup [d, e]) S = .ok [d, e] S := fun _ _ _ => rfl
  simp [W_of (pp _ _ _), setsL]
  refine draw_W n (by omega) d3 (by decide) (by decide) fun i4 S4 a4 b4 d4 => ?_
  rw [W_rng (by omega)]
  refine comp_W n (by omega) (w := 5) ⟨by decide, by decide⟩ (m := i4) ⟨a4, by omega⟩ d4 (fun dd S' Q' d' h' => ?_) fun sp S5 hsp hspl d5 => ?_
  · simp [wipeE]
    exact draw_W n (by omega) d' (by decide) (by decide) fun v S8 a8 b8 d8 => h' _ _ (sl_small a8 (by omega)) d8
  rw [W_of (tl _ _)]
  refine draw_W n (by omega) d5 (by decide) (by decide) fun i6 S6 a6 b6 d6 => ?_
  refine strs_ix (xs := ["gone", "around", "kind", "to", "mark", "name", "many", "unlike", "wish", "high"]) (by decide +kernel) a6 b6 fun wd hwd => ?_
  rw [in2]
  simp
  split
  · exact h _ _ _ (sm_tup hsp hspl) hwd.sm d6
  split
  · refine draw_W n (by omega) d6 (by decide) (by decide) fun i7 S7 a7 b7 d7 => ?_
    refine draw_W n (by omega) d7 (by decide) (by decide) fun i8 S8 a8 b8 d8 => ?_
    refine strs_ix (xs := ["gone", "family", "shape", "many", "never", "unclear"]) (by decide +kernel) a8 b8 fun w2 hw2 => ?_
    exact h _ _ _ (sl_small a7 (by omega)).sm hw2.sm d8
  split
  · refine draw_W n (by omega) d6 (by decide) (by decide) fun i7 S7 a7 b7 d7 => ?_
    rw [W_addI, W_rng (by omega)]
    refine comp_W n (by omega) (w := 5) ⟨by decide, by decide⟩ (m := 1 + i7) ⟨by omega, by omega⟩ d7 (fun dd S' Q' d' h' => ?_) fun nms S8 hn1 hn2 d8 => ?_
    · simp [wipeE]
      exact name_W n (by omega) d' fun y S9 hy d9 => h' _ _ (sl_name hy) d9
    · rw [W_of (tl _ _)]
      exact h _ _ _ (sm_tup hn1 hn2) sl_non.sm d8
  split
  · refine draw_W n (by omega) d6 (by decide) (by decide) fun i7 S7 a7 b7 d7 => ?_
    refine h _ _ _ (sl_cl hx).sm ⟨?_, ?_, ?_⟩ d7
    · have hi := (sl_small a7 (by omega)).ok
      have e1 : okD BB (.tup [.str "shape", .str "nat", .str "zero", .tup []]) = true := by decide +kernel
      have e2 : okD BB (.str "world") = true := by decide +kernel
      show (okD BB (.tup [.str "shape", .str "nat", .str "zero", .tup []]) && ((okD BB (.str "world") && (okD BB (.int i7) && true)) && true)) = true
      rw [e1, e2, hi]
      rfl
    · show max (depD (.tup [.str "shape", .str "nat", .str "zero", .tup []])) (max (max 0 (max 0 0) + 1) 0) + 1 ≤ 10
      decide +kernel
    · show wtD (.tup [.str "shape", .str "nat", .str "zero", .tup []]) + 2 + ((wtD (.str "world") + 2 + (60 + 2 + 0) + 60) + 2 + 0) + 60 ≤ 100000
      decide +kernel
  rw [in4]
  simp
  split
  · exact h _ _ _ hnum.sm sl_non.sm d6
  · exact draw_W n (by omega) d6 (by decide) (by decide) fun i7 S7 a7 b7 d7 => h _ _ _ (sl_cl hx).sm (sl_small a7 (by omega)).sm d7
end K06

/-! K06e: the law. -/
namespace K06
open MP PySem L2 PL
/-- a for over a tracked list that stays -/
theorem W_forRef {ga : D → MP.Env → M MP.Env} {body : MP.Env → M Fl} {ρ : MP.Env} {n : Nat} {xs : List D} {S : Sto} {Q : Fl → Sto → Prop} (I : Nat → MP.Env → Sto → Prop) (h0 : I 0 ρ S) (hs : ∀ i ρ S, I i ρ S → S[n]? = some (.lst xs))
    (h : ∀ i d ρ S, xs[i]? = some d → I i ρ S → W (ga d ρ) S (fun ρ1 S1 => W (body ρ1) S1 (fun fl S2 => match fl with | .next ρ2 => I (i + 1) ρ2 S2 | .cont ρ2 => I (i + 1) ρ2 S2 | .brk ρ2 => Q (.next ρ2) S2 | .ret d => Q (.ret d) S2)))
    (hq : ∀ ρ' S', I xs.length ρ' S' → Q (.next ρ') S') : W (forF ga body ρ (.ref n)) S Q := by
  have hat : ∀ i S, S[n]? = some (.lst xs) → (Src.ref n).at S i = some xs[i]? := fun i S e => by
    show (match S[n]? with | some (.lst xs) => some xs[i]? | _ => none) = _
    rw [e]
  have key : ∀ (k i : Nat) (ρ : MP.Env) (S : Sto), i ≤ xs.length → xs.length < i + k → I i ρ S → W (loopF (.ref n) ga body k i ρ) S Q := by
    intro k
    induction k with
    | zero => intro i ρ S h1 h2 _; omega
    | succ k ih =>
      intro i ρ S h1 h2 hI
      have e0 := hat i S (hs i ρ S hI)
      by_cases hi : i < xs.length
      · have e : xs[i]? = some xs[i] := List.getElem?_eq_getElem hi
        have st := h i xs[i] ρ S e hI
        have : loopF (.ref n) ga body (k + 1) i ρ S = (ga xs[i] ρ >>= fun ρ1 => body ρ1 >>= fun fl => match fl with
            | .next ρ2 => loopF (.ref n) ga body k (i + 1) ρ2
            | .cont ρ2 => loopF (.ref n) ga body k (i + 1) ρ2
            | .brk ρ2 => pure (.next ρ2)
            | .ret d => pure (.ret d)) S := by
          show (match (Src.ref n).at S i with | none => _ | some none => _ | some (some d) => _) = _
          rw [e0, e]
          all_goals rfl
        rw [W_eq this, W_bind]
        refine st.mono fun ρ1 S1 z1 => ?_
        rw [W_bind]
        refine z1.mono fun fl S2 z2 => ?_
        cases fl with
        | next ρ2 => exact ih (i + 1) ρ2 S2 hi (by omega) z2
        | cont ρ2 => exact ih (i + 1) ρ2 S2 hi (by omega) z2
        | brk ρ2 => exact z2
        | ret d => exact z2
      · have hl : i = xs.length := by omega
        subst hl
        have : loopF (.ref n) ga body (k + 1) xs.length ρ S = .ok (.next ρ) S := by
          show (match (Src.ref n).at S xs.length with | none => _ | some none => _ | some (some d) => _) = _
          rw [e0, List.getElem?_eq_none (Nat.le_refl _)]
        rw [W_of this]
        exact hq ρ S hI
  have hlen : (Src.ref n).len S = xs.length := by
    show (match S[n]? with | some (.lst xs) => xs.length | _ => 0) = _
    rw [hs 0 ρ S h0]
  show W (loopF (.ref n) ga body ((Src.ref n).len S + 1) 0 ρ) S Q
  rw [hlen]
  exact key (xs.length + 1) 0 ρ S (Nat.zero_le _) (by omega) h0
/-- one made thing, as it lies among the exceptions G -/
def Good (G : List O) (x : D) : Prop := ∃ (k : Nat) (a b : D) (g : Nat), k < 22 ∧ Sm a ∧ Sm b ∧ x = .tup [.int k, a, b, .ref (g + 4)] ∧ G[g]? = some (.exc (12 + k) (exF k a b))
theorem Good.app {G : List O} {x : D} (h : Good G x) (U : List O) : Good (G ++ U) x := by
  obtain ⟨k, a, b, g, h1, h2, h3, h4, h5⟩ := h
  refine ⟨k, a, b, g, h1, h2, h3, h4, ?_⟩
  rw [List.getElem?_append_left (List.getElem?_eq_some_iff.mp h5).1]
  exact h5
def eDue : Ex := (.ix (.lst false (.cons (.lst false .nil) (.cons (.lst false (.cons (.var 7) .nil)) (.cons (.lst false (.cons (.var 7) (.cons (.var 8) .nil))) .nil)))) (.ife (.cmp .lt (.var 5) (.int 3)) (.int 0) (.bin .add false (.int 1) (.fn .int false (.cons (.cmp .inn (.var 5) (.tup (.cons (.int 4) (.cons (.int 5) (.cons (.int 6) (.cons (.int 7) (.cons (.int 9) (.cons (.int 11) .nil)))))))) .nil)))))
theorem eDue_W (φ : Nat → List D → M D) (k : Nat) (hk : k < 22) (a b : D) (x0 x1 x2 x3 x4 x6 x9 x10 : Option D) (S : Sto) {Q : D → Sto → Prop} (h : Q (.lst (due k a b)) S) : W (evE φ eDue [x0, x1, x2, x3, x4, some (.int k), x6, some a, some b, x9, x10]) S Q := by
  have iB : ∀ (t : Bool) (S : Sto), intD [.bl t] S = .ok (.int (if t = true then 1 else 0)) S := fun t S => by cases t <;> rfl
  unfold eDue
  rcases (by omega : k = 0 ∨ k = 1 ∨ k = 2 ∨ k = 3 ∨ k = 4 ∨ k = 5 ∨ k = 6 ∨ k = 7 ∨ k = 8 ∨ k = 9 ∨ k = 10 ∨ k = 11 ∨ k = 12 ∨ k = 13 ∨ k = 14 ∨ k = 15 ∨ k = 16 ∨ k = 17 ∨ k = 18 ∨ k = 19 ∨ k = 20 ∨ k = 21) with rfl | rfl | rfl | rfl | rfl | rfl | rfl | rfl | rfl | rfl | rfl | rfl | rfl | rfl | rfl | rfl | rfl | rfl | rfl | rfl | rfl | rfl <;>
  (simp [in6, W_of (iB _ _), W_ix0, W_ix1, W_ix2]
   exact h)
end K06

/-! K06f: the check of one. -/
namespace K06
open MP PySem L2 PL
def bCheck : Sxs := (.cons (.set 10 eDue)
    (.cons (.ite (.or (.cons (.cmp .ne (.fn .repr false (.cons (.call 8 (.cons (.var 5) (.cons (.var 9) .nil))) .nil)) (.fn .repr false (.cons (.var 10) .nil))) (.cons (.cmp .ne (.fn .repr false (.cons (.call 6 (.cons (.var 9) .nil)) .nil)) (.fn .repr false (.cons (.call 10 (.cons (.var 5) .nil)) .nil))) .nil))) (.cons (.ret (.bl false))
    .nil) .nil)
    .nil))
theorem due_in (k : Nat) (hk : k < 22) (a b : D) : (∀ d ∈ due k a b, d = a ∨ d = b) ∧ (due k a b).length ≤ 2 := by
  rcases (by omega : k = 0 ∨ k = 1 ∨ k = 2 ∨ k = 3 ∨ k = 4 ∨ k = 5 ∨ k = 6 ∨ k = 7 ∨ k = 8 ∨ k = 9 ∨ k = 10 ∨ k = 11 ∨ k = 12 ∨ k = 13 ∨ k = 14 ∨ k = 15 ∨ k = 16 ∨ k = 17 ∨ k = 18 ∨ k = 19 ∨ k = 20 ∨ k = 21) with rfl | rfl | rfl | rfl | rfl | rfl | rfl | rfl | rfl | rfl | rfl | rfl | rfl | rfl | rfl | rfl | rfl | rfl | rfl | rfl | rfl | rfl <;> simp [due]
theorem repr_due (k : Nat) (hk : k < 22) (a b : D) (ha : Sm a) (hb : Sm b) : ∃ x, ∀ S, reprD (.lst (due k a b)) S = .ok (.str x) S := by
  obtain ⟨h1, h2⟩ := due_in k hk a b
  have all : ∀ d ∈ due k a b, Sm d := fun d hd => by
    rcases h1 d hd with rfl | rfl
    · exact ha
    · exact hb
  refine reprD_ok (B := BB) (by decide) (okL_all.mpr fun d hd => (all d hd).ok) ?_ ?_
  · show depL (due k a b) + 1 ≤ 150
    have := depL_le.mpr fun d hd => (all d hd).dep
    omega
  · show wtL (due k a b) + 60 ≤ 16777216
    have := wtL_le fun d hd => (all d hd).wt
    have h3 : (100000 + 2) * (due k a b).length ≤ (100000 + 2) * 2 := Nat.mul_le_mul_left _ h2
    omega
theorem repr_marks (g : List Nat → Bool) : ∃ x, ∀ S, reprD (marksOf g) S = .ok (.str x) S := by
  refine reprD_ok (B := BB) (by decide) rfl ?_ ?_
  · exact Nat.le_of_ble_eq_true (by kernel_rfl)
  · exact Nat.le_of_ble_eq_true (by kernel_rfl)
theorem check_W (n : Nat) (hn : 1 ≤ n) (k : Nat) (hk : k < 22) (a b : D) (ha : Sm a) (hb : Sm b) (r : Nat) (S : Sto) (he : S[r]? = some (.exc (12 + k) (exF k a b))) (x0 x1 x2 x3 x4 x6 x10 : Option D) {Q : Fl → Sto → Prop}
    (hq : Q (.next [x0, x1, x2, x3, x4, some (.int k), x6, some a, some b, some (.ref r), some (.lst (due k a b))]) S) :
    W (evSs (runF P n) bCheck [x0, x1, x2, x3, x4, some (.int k), x6, some a, some b, some (.ref r), x10]) S Q := by
  obtain ⟨n, rfl⟩ : ∃ m, n = m + 1 := ⟨n - 1, by omega⟩
  obtain ⟨x, rx⟩ := repr_due k hk a b ha hb
  obtain ⟨y, ry⟩ := repr_marks fun yes => yes.contains (12 + k)
  have nx : ∀ (x : Str) S, neD (.str x) (.str x) S = .ok (.bl false) S := fun x S => by rw [ne_str]; simp
  unfold bCheck
  rw [WSs_cons, WS_set]
  refine eDue_W _ k hk a b x0 x1 x2 x3 x4 x6 _ _ S ?_
  simp
  refine fields_W n k hk a b S r he ?_
  rw [W_of (rx _), W_of (rx _), W_of (nx _ _)]
  simp
  refine marks_W n r (fun yes => yes.contains (12 + k)) S (fun yes => isx_at he yes) ?_
  rw [W_of (ry _), W_of (due_marks n k hk S), W_of (ry _), W_of (nx _ _)]
  simp
  exact hq
end K06

/-! K06g: the law's run. -/
namespace K06
open MP PySem L2 PL
def bInn : Sxs := (.cons (.asg (.tp [7, 8] none) (.call 9 (.cons (.var 1) (.cons (.var 5) .nil))))
    (.cons (.exp (.me .append false (.var 3) (.cons (.tup (.cons (.var 5) (.cons (.var 7) (.cons (.var 8) (.cons (.call 7 (.cons (.var 5) (.cons (.var 7) (.cons (.var 8) .nil)))) .nil))))) .nil)))
    .nil))
def bOut : Sxs := (.cons (.set 5 (.me .pop false (.var 2) (.cons (.call 1 (.cons (.var 1) (.cons (.fn .len false (.cons (.var 2) .nil)) .nil))) .nil)))
    (.cons (.forr (.nm 6) (.rng (.cons (.int 2) .nil)) bInn)
    .nil))
def bFin : Sxs := (.cons (.forr (.tp [5, 7, 8, 9] none) (.seq (.var 3)) bCheck) (.cons (.ret (.bl true)) .nil))
theorem b11_eq : b11 = .cons (.set 1 (.call 0 (.cons (.var 0) .nil))) (.cons (.set 2 (.lrng true (.int 22))) (.cons (.set 3 (.lst true .nil)) (.cons (.forr (.nm 4) (.rng (.cons (.int 22) .nil)) bOut) bFin))) := rfl
/-- the store: what is left, what is made, the exceptions -/
structure St (S : Sto) (left ones : List D) (G : List O) : Prop where
  dk : Dk S (.lst left :: .lst ones :: G)
  lf : ∀ x ∈ left, ∃ k : Nat, k < 22 ∧ x = .int k
  on : ∀ x ∈ ones, Good G x
section
variable {x0 x4 x5 x6 x7 x8 x9 x10 : Option D}
theorem inn_W (n : Nat) (hn : 20 ≤ n) (k : Nat) (hk : k < 22) {S : Sto} {left ones : List D} {G : List O} (st : St S left ones G) (hl : ones.length ≤ 1000) {Q : Fl → Sto → Prop}
    (hq : ∀ S' ones' G' y7 y8, St S' left ones' G' → ones'.length = ones.length + 1 → Q (.next [x0, some (.ref 1), some (.ref 2), some (.ref 3), x4, some (.int k), x6, y7, y8, x9, x10]) S') :
    W (evSs (runF P n) bInn [x0, some (.ref 1), some (.ref 2), some (.ref 3), x4, some (.int k), x6, x7, x8, x9, x10]) S Q := by
  obtain ⟨n, rfl⟩ : ∃ m, n = m + 3 := ⟨n - 3, by omega⟩
  unfold bInn
  simp
  refine things_W (n + 3) (by omega) k hk st.dk fun a b S1 ha hb d1 => ?_
  have eu : ∀ S, (Tg.tp [7, 8] none).ev (.tup [a, b]) [x0, some (.ref 1), some (.ref 2), some (.ref 3), x4, some (.int k), x6, x7, x8, x9, x10] S = .ok [x0, some (.ref 1), some (.ref 2), some (.ref 3), x4, some (.int k), x6, some a, some b, x9, x10] S := fun S => rfl
  have e3 : S1[3]? = some (.lst ones) := d1.at 1
  rw [W_of (eu _)]
  simp [W_of (rcL_ref e3)]
  refine made_W n k hk a b S1 fun U r hr hge => ?_
  have d2 := d1.app U
  have e3' : (S1 ++ U)[3]? = some (.lst ones) := d2.at 1
  have hz : ones.length < SL := by show _ < 16777216; omega
  rw [W_of (append_ref e3' hz)]
  have len1 : List.length S1 = G.length + 4 := d1.len
  obtain ⟨g, rfl⟩ : ∃ g, r = g + 4 := ⟨r - 4, by omega⟩
  have hg : (G ++ U)[g]? = some (.exc (12 + k) (exF k a b)) := by
    rw [← hr]
    exact (d2.at (g + 2)).symm
  refine hq _ (ones ++ [.tup [.int k, a, b, .ref (g + 4)]]) (G ++ U) _ _ ⟨d2.set 1 _, st.lf, fun x hx => ?_⟩ (by simp)
  rcases List.mem_append.mp hx with hx | hx
  · exact (st.on x hx).app U
  · rw [List.mem_singleton.mp hx]
    exact ⟨k, a, b, g, hk, ha, hb, rfl, hg⟩
theorem pop_ref {S : Sto} {xs : List D} {i : Int} {x : D} (h : S[2]? = some (.lst xs)) (h0 : 0 ≤ i) (h1 : i < xs.length) (hx : xs[i.toNat]? = some x) : popD (.ref 2) [.int i] S = .ok x (S.set 2 (.lst (xs.eraseIdx i.toNat))) := by
  have hi : ixN xs.length i = some i.toNat := by
    unfold ixN
    split
    · rfl
    · omega
  show (match S[2]? with
    | some (.lst xs) => match ixN xs.length i with
      | some j => match xs[j]? with
        | some e => R.ok e (S.set 2 (.lst (xs.eraseIdx j)))
        | none => .bad
      | none => .bad
    | _ => .bad) = _
  rw [h]
  dsimp only
  rw [hi]
  dsimp only
  rw [hx]
theorem out_W (n : Nat) (hn : 20 ≤ n) {S : Sto} {left ones : List D} {G : List O} (st : St S left ones G) (hl : ones.length ≤ 500) (h0 : 0 < left.length) (h1 : left.length ≤ 22) {Q : Fl → Sto → Prop}
    (hq : ∀ S' left' ones' G' y5 y6 y7 y8, St S' left' ones' G' → left'.length + 1 = left.length → ones'.length = ones.length + 2 → Q (.next [x0, some (.ref 1), some (.ref 2), some (.ref 3), x4, y5, y6, y7, y8, x9, x10]) S') :
    W (evSs (runF P n) bOut [x0, some (.ref 1), some (.ref 2), some (.ref 3), x4, x5, x6, x7, x8, x9, x10]) S Q := by
  have e2 : S[2]? = some (.lst left) := st.dk.at 0
  have rng : ∀ S, rngSrc [D.int 2] S = .ok (.fix (rangeL 0 2)) S := fun S => rfl
  unfold bOut
  simp [W_of (rcL_ref e2), W_of (len_ref e2)]
  refine draw_W n (by omega) st.dk (by omega) (by omega) fun i S1 a1 b1 d1 => ?_
  have e2' : S1[2]? = some (.lst left) := d1.at 0
  have hi : i.toNat < left.length := by omega
  have hx : left[i.toNat]? = some left[i.toNat] := List.getElem?_eq_getElem hi
  obtain ⟨k, hk, ek⟩ := st.lf _ (List.mem_of_getElem? hx)
  rw [W_of (pop_ref e2' a1 b1 hx), ek, W_of (rng _)]
  have st2 : St (S1.set 2 (.lst (left.eraseIdx i.toNat))) (left.eraseIdx i.toNat) ones G := ⟨d1.set 0 _, fun x hx => st.lf x (List.mem_of_mem_eraseIdx hx), st.on⟩
  with_reducible refine W_forF (I := fun j ρ S' => ∃ ones' G' z6 z7 z8, ρ = [x0, some (.ref 1), some (.ref 2), some (.ref 3), x4, some (.int k), z6, z7, z8, x9, x10] ∧ St S' (left.eraseIdx i.toNat) ones' G' ∧ ones'.length = ones.length + j) ?_ ?_ ?_
  · exact ⟨ones, G, _, _, _, rfl, st2, rfl⟩
  · intro j d ρ S3 hj hI
    obtain ⟨ones', G', z6, z7, z8, hρ, st3, hl3⟩ := hI
    subst hρ
    have hj2 := (range_at hj).1
    rw [W_nm]
    refine inn_W n hn k hk st3 (by omega) fun S4 ones4 G4 y7 y8 st4 hl4 => ?_
    exact ⟨ones4, G4, _, _, _, rfl, st4, by omega⟩
  · intro ρ S3 hI
    obtain ⟨ones', G', z6, z7, z8, hρ, st3, hl3⟩ := hI
    subst hρ
    rw [range_len] at hl3
    refine hq S3 _ ones' G' _ _ _ _ st3 ?_ hl3
    rw [List.length_eraseIdx]
    split <;> omega
theorem fin_W (n : Nat) (hn : 20 ≤ n) {bF : Sxs} (hF : bF = bFin) {S : Sto} {left ones : List D} {G : List O} (st : St S left ones G) {Q : D → Sto → Prop} (hq : ∀ S', Q (.bl true) S') :
    W (evSs (runF P n) bF [x0, some (.ref 1), some (.ref 2), some (.ref 3), x4, x5, x6, x7, x8, x9, x10]) S (bodyQ Q) := by
  subst hF
  have e3 : S[3]? = some (.lst ones) := st.dk.at 1
  unfold bFin
  simp [W_of (src_ref e3)]
  with_reducible refine W_forRef (xs := ones) (I := fun j ρ S' => S' = S ∧ ∃ z5 z7 z8 z9 z10, ρ = [x0, some (.ref 1), some (.ref 2), some (.ref 3), x4, z5, x6, z7, z8, z9, z10]) ?_ ?_ ?_ ?_
  · exact ⟨rfl, _, _, _, _, _, rfl⟩
  · intro i ρ S' hI
    rw [hI.1]
    exact e3
  · intro i d ρ S' hi hI
    obtain ⟨hS, z5, z7, z8, z9, z10, hρ⟩ := hI
    subst hS hρ
    obtain ⟨k, a, b, g, hk, ha, hb, ed, hg⟩ := st.on d (List.mem_of_getElem? hi)
    subst ed
    have eu : ∀ S, (Tg.tp [5, 7, 8, 9] none).ev (.tup [.int k, a, b, .ref (g + 4)]) [x0, some (.ref 1), some (.ref 2), some (.ref 3), x4, z5, x6, z7, z8, z9, z10] S = .ok [x0, some (.ref 1), some (.ref 2), some (.ref 3), x4, some (.int k), x6, some a, some b, some (.ref (g + 4)), z10] S := fun S => rfl
    have he : S'[g + 4]? = some (.exc (12 + k) (exF k a b)) := by
      rw [← hg]
      exact st.dk.at (g + 2)
    rw [W_of (eu _)]
    refine check_W n (by omega) k hk a b ha hb (g + 4) S' he _ _ _ _ _ _ _ ?_
    exact ⟨rfl, _, _, _, _, _, rfl⟩
  · intro ρ S' hI
    obtain ⟨hS, z5, z7, z8, z9, z10, hρ⟩ := hI
    subst hS hρ
    simp
    exact hq _
end
theorem left0 : ∀ x ∈ (List.range 22).map (fun (i : Nat) => D.int (i : Int)), ∃ k : Nat, k < 22 ∧ x = .int k := fun x hx => by
  obtain ⟨k, hk, rfl⟩ := List.mem_map.mp hx
  exact ⟨k, List.mem_range.mp hk, rfl⟩
theorem law_W (m n : Nat) (hm : n = m + 1) (hn : 100 ≤ n) (ns : List Int) (h : ns.length ≤ 63) : W (runF P (n + 1) 11 [.frz (ns.map D.int)]) [] (fun d _ => d = .bl true) := by
  rw [F_of (f := f11) rfl rfl n _ rfl, W_body]
  show W (evSs (runF P n) b11 (startD 11 [.frz (ns.map D.int)])) [] _
  rw [b11_eq]
  generalize hF : bFin = bF
  generalize hO : bOut = bO
  have lr : ∀ S, lrngD true (.int 22) S = .ok (.ref (List.length S)) (S ++ [.lst ((List.range 22).map fun (i : Nat) => D.int (i : Int))]) := fun S => rfl
  have rng : ∀ S, rngSrc [D.int 22] S = .ok (.fix (rangeL 0 22)) S := fun S => rfl
  simp [startD]
  rw [hm, fn0 m _ rfl, ← hm]
  refine deck_b h fun S1 d1 => ?_
  have l1 : List.length S1 = 2 := d1.len
  rw [W_of (lr _)]
  simp [l1, W_of (rng _)]
  have st0 : St (S1 ++ [.lst ((List.range 22).map fun (i : Nat) => D.int (i : Int)), .lst []]) ((List.range 22).map fun (i : Nat) => D.int (i : Int)) [] [] := ⟨d1.app _, left0, by simp⟩
  generalize S1 ++ [.lst ((List.range 22).map fun (i : Nat) => D.int (i : Int)), .lst []] = S2 at st0
  with_reducible refine W_forF (I := fun i ρ S' => ∃ left ones G z4 z5 z6 z7 z8, ρ = [some (.frz (ns.map D.int)), some (.ref 1), some (.ref 2), some (.ref 3), z4, z5, z6, z7, z8, none, none] ∧ St S' left ones G ∧ left.length + i = 22 ∧ ones.length = 2 * i) ?_ ?_ ?_
  · exact ⟨_, _, _, _, _, _, _, _, rfl, st0, by simp, rfl⟩
  · intro i d ρ S3 hi hI
    obtain ⟨left, ones, G, z4, z5, z6, z7, z8, hρ, st, h1, h2⟩ := hI
    subst hρ
    have hi2 := (range_at hi).1
    rw [W_nm]
    subst hO
    refine out_W n (by omega) st (by omega) (by omega) (by omega) fun S4 left' ones' G' y5 y6 y7 y8 st4 g1 g2 => ?_
    exact ⟨left', ones', G', _, _, _, _, _, rfl, st4, by omega, by omega⟩
  · intro ρ S3 hI
    obtain ⟨left, ones, G, z4, z5, z6, z7, z8, hρ, st, h1, h2⟩ := hI
    subst hρ
    rw [W_thenN]
    exact fin_W n (by omega) hF.symm st fun _ => rfl
theorem law_run (ns : List Int) (h : ns.length ≤ 63) : ∃ S', runF P 120 11 [.frz (ns.map D.int)] [] = .ok (.bl true) S' := by
  have hW := law_W 118 119 rfl (by decide) ns h
  rw [W_iff] at hW
  obtain ⟨a, S', e, rfl⟩ := hW
  exact ⟨S', e⟩
theorem hrun (ns : List Int) (hl : ns.length ≤ 63) : ∃ S', MP.runF K06.top.P 120 11 [.frz (ns.map MP.D.int)] [] = .ok (.bl true) S' := law_run ns hl
end K06

open PySem PySem.W PySem.Calls PyProof.Rows
theorem PySem.Challenge.cw_kindsbyworth_k06_refusals_made_holds : PySem.Challenge.rw_kindsbyworth_k06_refusals_made.Holds := by
  w_on; o_law
  refine HandSHeadRun.head_any (r := K06.R) (q := view K06.R.prog [38]) (H := MP.hookM 5 K06.top) (ob := MP.obM 5 K06.top) (M := 9000) (loose := K06.loose) (d := HandSHeadRun.topDef K06.R.prog 38) (kwd := []) (MP.obM_eq 5 K06.top)
    (by kernel_rfl) (fun s => by kernel_rfl) K06.run (by kernel_rfl) (by kernel_rfl) (by kernel_rfl) (by rfl) (by first | assumption | decide +kernel) (by decide +kernel) ⟨rfl, rfl, rfl, rfl, rfl, by decide +kernel⟩ ?hw ?hc
  case hw => w_witness2
  case hc =>
    exact MP.law_end (l := PySem.Challenge.rw_kindsbyworth_k06_refusals_made) (t := K06.top) (n := 63) (N0 := 120) (kl := 11) (x := "_law_script") K06.binds rfl rfl rfl rfl (by kernel_rfl) rfl rfl (by decide) (by kernel_rfl) ⟨rfl, by decide, by decide⟩ K06.hrun

