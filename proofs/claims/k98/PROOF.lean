import PyProof.Rows.All
import PyProof.Rows.FactsExc_KeyError
import HandS.Exc
import HandS.ExcInit
import HandS.Star
import HandS.ExcField
import HandS.MakeKwOnly
import HandS.HeadWalk
import HandS.CallRecv
import HandS.Words
import HandS.ExcIs
import HandS.ForMost
import HandS.TupAny
import PyProof.ReprRoads
import HandS.Deep
import HandS.Flow
import HandS.IsInst
import HandS.Zip
import HandS.DictComp
import HandS.Style
import HandS.ClsMeth
import PyProof.NeKinds
import HandS.RaiseMore
import HandS.SortOrd
import KE.GoesMore
import HandS.Strs
import HandS.Set
import PyProof.SumAny
import PyProof.ListOps
import HandS.ExcValue
import KE.LtSeq
import KE.KDictZip
import KE.KDictItemsList
import HandS.Ends
import HandS.HeadHook2
import HandS.Head0
import HandS.Head1
import HandS.Head2
import HandS.HeadEnd
import HandS.HeadHook4
import PySem.Challenge.RW_clobberwalk_k98_errors_and_limits
set_option Elab.async false
set_option linter.all false
set_option maxRecDepth 100000
section
/-! Xf: facts of LookupError and of KeyError's __init__ (own work). -/
namespace Ev.Xc
open PySem PySem.F
theorem call_LE : ExcCallFacts "LookupError" "LookupError.__new__" "LookupError.__init__" where
  ends := by decide +kernel
  owner := by decide +kernel
  entry := entryFor_alias (id' := "BaseException.__new__") (by rw [fastTable_eq_tree]; kernel_rfl) (by first | rfl | decide +kernel) (by decide +kernel) (by rw [fastTable_eq_tree]; kernel_rfl)
  sub := by rw [isSubtype_type]; kernel_rfl
  notAttr := by rw [isSubtype_type]; kernel_rfl
  notName := by rw [isSubtype_type]; kernel_rfl
  made := by kernel_rfl
  notType := by decide +kernel
  canMake := by kernel_rfl
  noVector := fun as => by kernel_rfl
  mro := ⟨[.type "LookupError", .type "Exception", .type "BaseException", .type "object"], by rw [mroOf_type]; kernel_rfl, rfl⟩
  madeBy := by kernel_rfl
  quiet := by decide +kernel
  newOk := fun us => by kernel_rfl
  init := .of (owner := "LookupError") (n := "__init__") (by rw [typeLookup_type, builtinLookup_eq_fast]; kernel_rfl) (by decide +kernel) (by decide +kernel) (by decide +kernel) (by first | exact .inl (by decide +kernel) | exact .inr (by decide +kernel)) (by rw [isSubtype_type]; kernel_rfl)
  initEntry := entryFor_alias (id' := "BaseException.__init__") (by rw [fastTable_eq_tree]; kernel_rfl) (by first | rfl | decide +kernel) (by decide +kernel) (by rw [fastTable_eq_tree]; kernel_rfl)
  initSplit := by kernel_rfl
  initKind := by kernel_rfl
  initRow := by kernel_rfl
  noStar := by decide +kernel
theorem base_LE : ExcBaseFacts "LookupError" "LookupError.__new__" "LookupError.__init__" [.type "LookupError", .type "Exception", .type "BaseException", .type "object"] where
  toExcCallFacts := call_LE
  newSplit := by kernel_rfl
  newKind := by kernel_rfl
  newRow := by kernel_rfl
  mroIs := by rw [mroOf_type]; kernel_rfl
  hasB := by decide +kernel
  hasBase := by decide +kernel
  noAttr := by decide +kernel
  noName := by decide +kernel
  canon := by decide +kernel
/-- what is asked of the base's __init__ -/
structure Ini (B initId : String) : Prop where
  slot : Slot B "__init__" initId
  entry : entryFor table initId = some Builtin.«BaseException.__init__»
  split : splitId initId = some (B, "__init__")
  kind : builtinKind initId = some .slot
  row : Manifest.signature? initId = some ⟨.positional, "*", B, .self, [⟨"args", .varPos, false⟩]⟩
  star : (B != "*") = true
theorem ini_KE : Ini "KeyError" "KeyError.__init__" where
  slot := .of (owner := "KeyError") (n := "__init__") (by rw [typeLookup_type, builtinLookup_eq_fast]; kernel_rfl) (by decide +kernel) (by decide +kernel) (by decide +kernel) (by first | exact .inl (by decide +kernel) | exact .inr (by decide +kernel)) (by rw [isSubtype_type]; kernel_rfl)
  entry := entryFor_alias (id' := "BaseException.__init__") (by rw [fastTable_eq_tree]; kernel_rfl) (by first | rfl | decide +kernel) (by decide +kernel) (by rw [fastTable_eq_tree]; kernel_rfl)
  split := by kernel_rfl
  kind := by kernel_rfl
  row := by kernel_rfl
  star := by decide +kernel
theorem Ini.of {B n i : String} {bm : List Value} (F : ExcBaseFacts B n i bm) : Ini B i := ⟨F.init, F.initEntry, F.initSplit, F.initKind, F.initRow, F.noStar⟩
theorem ini_VE : Ini "ValueError" "ValueError.__init__" := .of excBase_ValueError
theorem ini_RE : Ini "RuntimeError" "RuntimeError.__init__" := .of excBase_RuntimeError
theorem ini_LE : Ini "LookupError" "LookupError.__init__" := .of base_LE
end Ev.Xc
end
section
set_option maxHeartbeats 3200000
/-! Xg: a class of the program over any built-in error: its call, with its own __init__ (own work, after the ready rules for ValueError). -/
namespace Ev.Xc
open PySem PySem.W PySem.Calls PyProof.Rows PySem.HandSPX PySem.F
open Builtin Builtin.ObjectAttr
/-- what the error's order of classes has -/
structure Mr (bm : List Value) (Bn B : String) : Prop where
  new : bm.contains (.type Bn) = true
  ini : bm.contains (.type B) = true
  attr : bm.contains (.type "AttributeError") = false
  name : bm.contains (.type "NameError") = false
theorem Mr.up {bm : List Value} {Bn B T : String} {C : Addr} {k : Bool} (h : bm.contains (.type T) = k) : (Value.ref C :: bm).contains (.type T) = k := by
  rw [List.contains_cons, h]
  rfl
section
variable {M : Model} {A : Around} {E : Value → Shared → Prop} {h : Heap} {g : Array GenState} {d : Drawn} {t : Nat} {os : OsState}
variable {nm q : Str} {C N : Addr} {bs bm bmN : List Value} {hdct : Bool} {sn : List Str} {sub : List Value} {ab : Bool} {col : Option Bool} {dd : Option Addr} {k0 k1 k2 k3 k5 : Option Value} {Bn B newId iN initId : String}
theorem chk_new (F : ExcBaseFacts Bn newId iN bmN) (m : Mr bm Bn B) {us : List Value} {kw : List (Str × Value)} {Q : Unit → Shared → Prop} (hC : h.get? C = some (excClassObj nm q C N bs bm hdct sn sub ab col dd k0 k1 k2 k3 k5 newId)) (hQ : Q () ⟨h, g, d, t, os⟩) :
    wpAny M A (checkBuiltinCall newId ⟨.ref C :: us, kw⟩) Q E ⟨h, g, d, t, os⟩ := by
  have has := Mr.up (Bn := Bn) (B := B) (C := C) m.new
  have st := F.noStar
  simp only [checkBuiltinCall, F.newKind, F.newSplit, F.newRow]
  repeat (first | refine wpAny_loadPart_at hC ?_ | (refine wpAny_isSubtype_exc hC ?_; rw [has]) | refine wpAny_staticBase_exc hC ?_ | refine wpAny_madeBy_exc hC ?_ | simp only [bne_self_eq_false, Bool.false_eq_true, if_false] | wp_step)
  exact hQ
theorem chk_ini (F : Ini B initId) (m : Mr bm Bn B) {e : Addr} {oe : Obj} {us : List Value} {Q : Unit → Shared → Prop} (hC : h.get? C = some (excClassObj nm q C N bs bm hdct sn sub ab col dd k0 k1 k2 k3 k5 newId)) (he : h.get? e = some oe) (hc : oe.cls = .ref C) (hQ : Q () ⟨h, g, d, t, os⟩) :
    wpAny M A (checkBuiltinCall initId ⟨.ref e :: us, []⟩) Q E ⟨h, g, d, t, os⟩ := by
  have has := Mr.up (Bn := Bn) (B := B) (C := C) m.ini
  have st := F.star
  simp only [checkBuiltinCall, F.kind, F.split, F.row]
  repeat (first | (with_reducible refine wpAny_loadPart_at he ?_; rw [hc]) | with_reducible refine wpAny_loadPart_at hC ?_ | (with_reducible refine wpAny_isSubtype_exc hC ?_; rw [has]) | wp_step)
  refine wpAny_onRaise ?_
  have none : ∀ (a b : String) (n : Nat), Bind.check ⟨.positional, "*", B, .self, [⟨"args", .varPos, false⟩]⟩ a b n (List.map (fun x => x.fst) ({ pos := Value.ref e :: us } : Args).kw) = pure () := fun a b n => check_star_args _ _ _ _ _ _
  rw [none]
  exact wpAny_pure hQ
end
section
variable {prog : Program} {w : World} {A : Around} {E : Value → Shared → Prop} {R : Result → Shared → Prop} {h : Heap} {g : Array GenState} {d : Drawn} {t : Nat} {os : OsState}
variable {nm q : Str} {C N : Addr} {bs bm bmN : List Value} {hdct : Bool} {sn : List Str} {sub : List Value} {ab : Bool} {col : Option Bool} {dd : Option Addr} {k0 k1 k2 k3 k5 : Option Value} {Bn B newId iN initId : String}
theorem new_x (F : ExcBaseFacts Bn newId iN bmN) (m : Mr bm Bn B) {us : List Value} {kw : List (Str × Value)} (hC : h.get? C = some (excClassObj nm q C N bs bm hdct sn sub ab col dd k0 k1 k2 k3 k5 newId)) (hl : us.length ≤ sizeLine)
    (hR : R (.ok (.ret (.ref (h.objs.size + 1)))) ⟨(h.push (kdv_tup us)).push (excO C h.objs.size), g, d, t, os⟩) : codeAny (model prog w) A (.builtin newId ⟨.ref C :: us, kw⟩) R ⟨h, g, d, t, os⟩ := by
  have en := F.ends
  have h1 := Mr.up (Bn := Bn) (B := B) (C := C) m.new
  have h2 := Mr.up (Bn := Bn) (B := B) (C := C) m.attr
  have h3 := Mr.up (Bn := Bn) (B := B) (C := C) m.name
  refine codeAny_builtinAt F.entry ?_
  unfold Builtin.«BaseException.__new__»
  refine PySem.wpAt_bind ?_
  show PySem.wpAt _ _ _ (stack >>= _) _ _ _
  refine PySem.wpAt_bind (PySem.wpAt_stack fun _ _ => PySem.wpAt_of_wpAny ?_)
  wp_walk
  refine PySem.wpAt_of_wpAny ?_
  rw [F.owner]
  repeat (first | with_reducible refine wpAny_madeHere_exc F.canon hC ?_ | with_reducible refine wpAny_loadPart_at hC ?_ | (with_reducible refine wpAny_isSubtype_exc hC ?_; first | rw [h1] | rw [h2] | rw [h3]) | wp_step)
  show R _ _
  rw [Heap.size_push]
  exact hR
theorem tcall_x (F : ExcBaseFacts Bn newId iN bmN) (m : Mr bm Bn B) {us : List Value} {kw : List (Str × Value)} {fI : Addr} {Q : Fin → Shared → Prop} (hC : h.get? C = some (excClassObj nm q C N bs bm hdct sn sub ab col dd k0 k1 k2 k3 k5 newId))
    (hi : Looks (model prog w) h (typeLookup (.ref C) "__init__") (some (.ref fI))) (hb : ∀ self, Looks (model prog w) h (bindSpecial (.ref fI) self) (.ref fI, [self])) (hl : us.length ≤ sizeLine)
    (hR : codeAny (model prog w) A (.call (.ref fI) ⟨.ref (h.objs.size + 1) :: us, kw⟩) (fun r s' => match r with | .ok (.ret v) => v = .none ∧ Q (.done (.ret (.ref (h.objs.size + 1)))) s' | .ok _ => False | .error e => E e s') ⟨(h.push (kdv_tup us)).push (excO C h.objs.size), g, d, t, os⟩) :
    wpAny (model prog w) A (Builtin.«type.__call__» ⟨.ref C :: us, kw⟩) Q E ⟨h, g, d, t, os⟩ := by
  repeat (first | with_reducible refine wpAny_loadPart_at hC ?_ | with_reducible refine wpAny_madeBy_exc hC ?_ | wp_step)
  refine codeAny_call_builtin_code (Code.quiet_builtin _ F.quiet) (chk_new F m hC (new_x F m hC hl (?_ : wpAny _ _ _ _ _ _)))
  have old : ∀ b o, h.get? b = some o → ((h.push (kdv_tup us)).push (excO C h.objs.size)).get? b = some o := fun b o e => Heap.get?_push_of_some _ (Heap.get?_push_of_some _ e)
  have hC2 := old _ _ hC
  have new : ((h.push (kdv_tup us)).push (excO C h.objs.size)).get? (h.objs.size + 1) = some (excO C h.objs.size) := by heap_get
  have self : (Value.ref C :: bm).contains (.ref C) = true := by simp
  have i2 := hi.keeps old
  have b2 := (hb (.ref (h.objs.size + 1))).keeps old
  unfold isInstance
  repeat (first | with_reducible refine wpAny_loadPart_at new ?_ | (with_reducible refine wpAny_isSubtype_exc hC2 ?_; rw [self]) | wp_step)
  refine (?_ : wpAny _ _ (typeLookup (.ref C) _) _ _ _)
  refine i2.at (wpAny_holding (wpAny_bind (b2.at (wpAny_bind (wpAny_call (codeAny_mono hR fun r s' z => ?_))))))
  rcases r with e | (v | _ | _ | _) <;> first | exact z | exact z.elim | skip
  obtain ⟨rfl, z⟩ := z
  first
    | exact wpAny_pure (wpAny_pure z)
    | (wp_walk; exact z)
theorem call_x (F : ExcBaseFacts Bn newId iN bmN) (m : Mr bm Bn B) {us : List Value} {kw : List (Str × Value)} {fI : Addr} (hC : h.get? C = some (excClassObj nm q C N bs bm hdct sn sub ab col dd k0 k1 k2 k3 k5 newId))
    (hi : Looks (model prog w) h (typeLookup (.ref C) "__init__") (some (.ref fI))) (hb : ∀ self, Looks (model prog w) h (bindSpecial (.ref fI) self) (.ref fI, [self])) (hl : us.length ≤ sizeLine)
    (hR : codeAny (model prog w) (A.under (.builtin "type.__call__" ⟨.ref C :: us, kw⟩)) (.call (.ref fI) ⟨.ref (h.objs.size + 1) :: us, kw⟩) (InitBack (h.objs.size + 1) R) ⟨(h.push (kdv_tup us)).push (excO C h.objs.size), g, d, t, os⟩) :
    codeAny (model prog w) A (.call (.ref C) ⟨us, kw⟩) R ⟨h, g, d, t, os⟩ := by
  have p1 := tc_lookup
  have p2 := tc_bind (.ref C)
  have ty : (⟨h, g, d, t, os⟩ : Shared).TypeIs (.ref C) "type" := ⟨_, hC, rfl⟩
  refine codeAny_of_tree (?_ : wpAny _ _ (callAny (.ref C) _) _ _ _)
  repeat (any_goals (first | assumption | with_reducible refine wpAny_loadPart_at hC ?_ | wp_step))
  refine ⟨rfl, codeAny_call_builtin_at (Code.quiet_builtin _ (by decide +kernel)) entry_typeCall (wpAny_check_type_call_sub hC (tcall_x F m hC hi hb hl (codeAny_mono hR fun r s' z => ?_)))⟩
  rcases r with e | (v | _ | _ | _) <;> exact z
/-- B.__init__(e, ..) -/
theorem init_x (F : Ini B initId) (m : Mr bm Bn B) {e t0 : Addr} {us : List Value} (hC : h.get? C = some (excClassObj nm q C N bs bm hdct sn sub ab col dd k0 k1 k2 k3 k5 newId)) (he : h.get? e = some (excO C t0)) (hl : us.length ≤ sizeLine)
    (hR : ∀ h' t1, (∀ b o, b ≠ e → h.get? b = some o → h'.get? b = some o) → h'.get? e = some (excO C t1) → R (.ok (.ret .none)) ⟨h', g, d, t, os⟩) : codeAny (model prog w) A (.call (.builtin initId) ⟨.ref e :: us, []⟩) R ⟨h, g, d, t, os⟩ := by
  refine codeAny_call_builtin F.slot.plain F.entry (chk_ini F m hC he rfl ?_)
  wp_walk
  refine hR _ h.objs.size (fun b o hb ho => ?_) ?_
  · exact (Heap.get?_update_other _ _ (Ne.symm hb)).trans (Heap.get?_push_of_some _ ho)
  · rw [Heap.get?_update_self _ (Heap.get?_push_of_some _ he) rfl]
    rfl
end
end Ev.Xc
end
section
set_option maxHeartbeats 3200000
/-! Xs: fields of such errors. -/
namespace Ev.Xc
open PySem PySem.W PySem.Calls PyProof.Rows PySem.HandSPX PySem.F
open Builtin Builtin.ObjectAttr
/-- what stores ask of the order of classes -/
structure St (mro : List Value) : Prop where
  pass : ∀ self : Value, refuseLoop self "__setattr__" mro = pure ()
  obj : mro.contains (.type "object") = true
  ne : mro.isEmpty = false
theorem St.own {l : List Value} {C : Addr} (h : St l) : St (.ref C :: l) := ⟨fun self => by rw [refuseLoop_ref]; exact h.pass self, by rw [List.contains_cons, h.obj]; rfl, rfl⟩
abbrev mKE : List Value := [.type "KeyError", .type "LookupError", .type "Exception", .type "BaseException", .type "object"]
abbrev mLE : List Value := [.type "LookupError", .type "Exception", .type "BaseException", .type "object"]
abbrev mRE : List Value := [.type "RuntimeError", .type "Exception", .type "BaseException", .type "object"]
abbrev mVE : List Value := [.type "ValueError", .type "Exception", .type "BaseException", .type "object"]
theorem st_VE : St mVE := ⟨fun self => store_ValueError.passes self, by decide +kernel, rfl⟩
theorem st_KE : St mKE := ⟨fun self => by kernel_rfl, by decide +kernel, rfl⟩
theorem st_LE : St mLE := ⟨fun self => by kernel_rfl, by decide +kernel, rfl⟩
theorem st_RE : St mRE := ⟨fun self => by kernel_rfl, by decide +kernel, rfl⟩
section
variable {prog : Program} {w : World} {A : Around} {E : Value → Shared → Prop} {R : Result → Shared → Prop} {hp : Heap} {g : Array GenState} {d : Drawn} {t : Nat} {os : OsState}
/-- the first field: the dict is laid -/
theorem store_first {K : Frag} {f : Str} {tk : Tok} {v : Value} {x C : Addr} {fv : Array Value} {cd : ClassData} (X : K.In hp) (hx : hp.get? x = some { cls := .ref C, data := .fields fv }) (hcd : clsIn K C = some cd) (S : St cd.mro) (hd : cd.hasDict = true) (no : findIn K (.ref C) f = some none)
    (hR : ∀ h' tk' dx, (∀ b o, b ≠ x → hp.get? b = some o → h'.get? b = some o) → hp.objs.size ≤ dx → dx ≠ x → h'.get? x = some { cls := .ref C, dict := some dx, data := .fields fv } → h'.Ns1 dx (fun y => if y = f then some v else none) → R (.ok (.ret .none)) ⟨h', g, d, tk', os⟩) :
    codeAny (model prog w) A (.call (.builtin "object.__setattr__") ⟨[.ref x, .str f tk, v], []⟩) R ⟨hp, g, d, t, os⟩ := by
  have I : InstAt hp x { cls := .ref C, data := .fields fv } C none := ⟨hx, rfl, rfl, trivial⟩
  have sf := store_object
  have nx : x ≠ hp.objs.size := Nat.ne_of_lt (Heap.lt_size hx)
  have isO : Looks (model prog w) hp (isInstance (.ref x) (.type "object")) true := I.type.andThen (looks_mroIn X (by unfold mroIn; rw [hcd, Option.bind_some, if_neg (by rw [S.ne]; decide), S.obj]))
  refine codeAny_call_builtin sf.slot.plain sf.entry (@check_slot (model prog w) _ _ ⟨hp, g, d, t, os⟩ "object.__setattr__" "object" "__setattr__" (.ref x) [.str f tk, v] [] _ sf.kind sf.split isO (sf.args (.ref x) (.str f tk) v) ?_)
  have l1 : Looks (model prog w) hp (mroOf (.ref C)) cd.mro := (looks_clsIn X hcd).andThen .now
  have l2 : Looks (model prog w) hp (storeTaker? none) none := .now
  have l3 : Looks (model prog w) hp (classData C) cd := looks_clsIn X hcd
  rw [osa_eq, refuse_eq]
  refine wpAny_bind (wpAny_bind (I.type.at (wpAny_bind (l1.at ?_))))
  rw [S.pass]
  refine wpAny_pure (wpAny_bind (I.type.at (wpAny_bind ((looks_findIn X no).at (wpAny_bind (l2.at (?_ : wpAny _ _ (storeInOwnDict (.ref x) (.ref C) (.str f tk) f v false) _ _ _)))))))
  obtain ⟨a1, a2, a3, a4, a5, hd', a7, a8, a9, a10, a11⟩ := cd
  dsimp only at hd
  subst hd
  unfold storeInOwnDict ownDictForStores
  repeat (first | with_reducible refine store_in_new ?_ ?_ | with_reducible refine wpAny_loadPart_at hx ?_ | with_reducible refine l3.at ?_ | wp_step)
  · exact ⟨_, #[], _, (Heap.get?_update_ne _ _ _ _ nx.symm).trans (Heap.get?_push_at rfl rfl), rfl, fun e he => absurd he (by simp), fun _ => rfl⟩
  · intro h' tk' n1 sb
    have x1 : (hp.push { cls := .type "dict", data := .dict #[] }).get? x = some { cls := .ref C, data := .fields fv } := Heap.get?_push_of_some _ hx
    refine hR h' tk' hp.objs.size (fun b o hb ho => ?_) (Nat.le_refl _) nx.symm ((sb.2 x nx).trans (Heap.get?_update_self _ x1 rfl)) n1
    exact (sb.2 b (Nat.ne_of_lt (Heap.lt_size ho))).trans ((Heap.get?_update_ne _ _ _ _ hb).trans (Heap.get?_push_of_some _ ho))
/-- a further one -/
theorem store_more {K : Frag} {f : Str} {tk : Tok} {v : Value} {x C dx : Addr} {fv : Array Value} {cd : ClassData} {m0 : Str → Option Value} {nl : List Str} (X : K.In hp) (hx : hp.get? x = some { cls := .ref C, dict := some dx, data := .fields fv }) (hm : hp.Ns1 dx m0) (hw : Within m0 nl) (hz : nl.length ≤ 1000)
    (hcd : clsIn K C = some cd) (S : St cd.mro) (hd : cd.hasDict = true) (no : findIn K (.ref C) f = some none)
    (hR : ∀ h' tk', (∀ b o, b ≠ dx → hp.get? b = some o → h'.get? b = some o) → h'.Ns1 dx (fun y => if y = f then some v else m0 y) → R (.ok (.ret .none)) ⟨h', g, d, tk', os⟩) :
    codeAny (model prog w) A (.call (.builtin "object.__setattr__") ⟨[.ref x, .str f tk, v], []⟩) R ⟨hp, g, d, t, os⟩ := by
  obtain ⟨od, _, _, hod, _, _⟩ := hm.count hw
  have I : InstAt hp x { cls := .ref C, dict := some dx, data := .fields fv } C (some od) := ⟨hx, rfl, rfl, hod⟩
  have sf := store_object
  have isO : Looks (model prog w) hp (isInstance (.ref x) (.type "object")) true := I.type.andThen (looks_mroIn X (by unfold mroIn; rw [hcd, Option.bind_some, if_neg (by rw [S.ne]; decide), S.obj]))
  refine codeAny_call_builtin sf.slot.plain sf.entry (@check_slot (model prog w) _ _ ⟨hp, g, d, t, os⟩ "object.__setattr__" "object" "__setattr__" (.ref x) [.str f tk, v] [] _ sf.kind sf.split isO (sf.args (.ref x) (.str f tk) v) ?_)
  have l1 : Looks (model prog w) hp (mroOf (.ref C)) cd.mro := (looks_clsIn X hcd).andThen .now
  have l2 : Looks (model prog w) hp (storeTaker? none) none := .now
  have l3 : Looks (model prog w) hp (classData C) cd := looks_clsIn X hcd
  rw [osa_eq, refuse_eq]
  refine wpAny_bind (wpAny_bind (I.type.at (wpAny_bind (l1.at ?_))))
  rw [S.pass]
  refine wpAny_pure (wpAny_bind (I.type.at (wpAny_bind ((looks_findIn X no).at (wpAny_bind (l2.at (?_ : wpAny _ _ (storeInOwnDict (.ref x) (.ref C) (.str f tk) f v false) _ _ _)))))))
  obtain ⟨a1, a2, a3, a4, a5, hd', a7, a8, a9, a10, a11⟩ := cd
  dsimp only at hd
  subst hd
  unfold storeInOwnDict ownDictForStores
  repeat (first | with_reducible refine PySem.OEX.store_in_old hm hw hz ?_ | with_reducible refine wpAny_loadPart_at hx ?_ | with_reducible refine l3.at ?_ | wp_step)
  intro h' tk' n1 sb
  exact hR h' tk' (fun b o hb ho => (sb.2 b hb).trans ho) n1
end
end Ev.Xc
end
section
set_option maxHeartbeats 3200000
/-! Xi: errors of the program, over any built-in one, being made: in the layer's frame. -/
namespace Ev.Xc
open PySem PySem.Spec PyProof.Rows L2
/-- what the written part says of such a class -/
structure Oc (K : PySem.W.Frag) (C : Addr) (Bn B newId : String) : Prop where
  cls : ∃ nm q N bs bm sn sub ab col dd k0 k1 k2 k3 k5, K.lookup C = some (excClassObj nm q C N bs bm true sn sub ab col dd k0 k1 k2 k3 k5 newId) ∧ Mr bm Bn B ∧ St bm
  sa : PySem.W.findIn K (.ref C) "__setattr__" = some (some (.builtin "object.__setattr__"))
  exC : PySem.W.subIn K (.ref C) (.type "BaseException") = some true
  tyC : PySem.W.typeIn K (.ref C) = some (.type "type")
  kC : PySem.W.keepIn K (.ref C) = true
theorem clsIn_of {K : PySem.W.Frag} {C N : Addr} {nm q : Str} {bs bm : List Value} {sn : List Str} {sub : List Value} {ab : Bool} {col : Option Bool} {dd : Option Addr} {k0 k1 k2 k3 k5 : Option Value} {newId : String} (h : K.lookup C = some (excClassObj nm q C N bs bm true sn sub ab col dd k0 k1 k2 k3 k5 newId)) :
    PySem.W.clsIn K C = some { name := nm, bases := bs, mro := .ref C :: bm, ns := N, qualname := q, hasDict := true, slotNames := sn, subclasses := sub, abstract := ab, collection := col, hasDel := false } := by
  unfold PySem.W.clsIn
  rw [h] <;> rfl
section
variable {X : Cx} {pins : List (Addr × Obj)} {σ : L2.St} {H : Hp} {s : Shared} {a C dx : Addr} {f : Str} {y : V} {u : Value} {fs : List (Str × V)} {Q : Unit → Shared → Prop} {E : Value → Shared → Prop} {A : Around} {Bn B newId initId : String}
/-- self.f = y, the first one -/
theorem set_first (T : Oc X.K C Bn B newId) (I : Inv X pins σ H s) (e : H a = some (exo a C none)) (no : PySem.W.findIn X.K (.ref C) f = some none) (ry : RelV y u)
    (hQ : ∀ dx s', H dx = none → dx ≠ a → Inv X pins σ (upd (upd H dx (exd dx [(f, y)])) a (exo a C (some dx))) s' → Q () s') : wpAny (model X.prog X.w) A (setAttr (.ref a) f u) Q E s := by
  obtain ⟨nm, q, N, bs, bm, sn, sub, ab, col, dd, k0, k1, k2, k3, k5, hC, _, hS⟩ := T.cls
  obtain ⟨t1, ho⟩ := exo_at I.hok e
  obtain ⟨hp, g, d, t, os⟩ := s
  refine PySem.W.set_plain I.kIn (ox := { cls := .ref C, dict := none, data := .fields #[.ref t1, .none, .none, .none, .bool false, .none] }) (od := none) ⟨ho, rfl, rfl, trivial⟩ T.sa (store_first I.kIn ho (clsIn_of hC) hS.own rfl no fun h' tk' dx old dn dne hx hn => ?_)
  have fresh : H dx = none := I.hok.fresh dn
  have nd : ∀ {b : Addr} {o : Obj}, hp.get? b = some o → b ≠ dx := fun {b o} z => Nat.ne_of_lt (Nat.lt_of_lt_of_le (Heap.lt_size z) dn)
  have na : ∀ {b : Addr}, H b = none → b ≠ a := fun {b} n z => by
    rw [z, e] at n
    cases n
  refine hQ dx _ fresh dne (I.un (t' := tk') { keep := fun b o z n _ _ => old b o (na n) z, slot := fun b o z n _ _ => ⟨o.slots, old b o (na n) z⟩, free := fun b o z n _ => by rw [upd_ne (na n), upd_ne (nd z)]; exact n, there := fun b o z _ => ?_, tups := fun b xs z => ?_, frzs := fun b o v z => ?_, tbls := fun b ps z => ⟨#[], ?_⟩ } fun b o z => ?_)
  · by_cases hb : b = a
    · exact ⟨_, by rw [hb]; exact hx⟩
    · exact ⟨o, old b o hb z⟩
  · rw [upd_ne (at_ne e z exo_tup), upd_ne (ne_of_none z fresh)]
    exact z
  · rw [upd_ne (at_ne e z exo_frz), upd_ne (ne_of_none z fresh)]
    exact z
  · rw [upd_ne (at_ne e z exo_tbl), upd_ne (ne_of_none z fresh), z]
    simp
  · by_cases hb : b = a
    · subst hb
      rw [upd_same] at z
      cases z
      exact exo_ok hx
    · rw [upd_ne hb] at z
      by_cases hd : b = dx
      · subst hd
        rw [upd_same] at z
        cases z
        exact exd_ok hn (relO_put (fs := []) ry fun g => True.intro)
      · rw [upd_ne hd] at z
        refine (I.hok b o z).stay (fun c v hc z2 => old c v ?_ z2) (fun c hc => ?_) (fun c xs hc => ?_)
        · rcases hc with hc | hc
          · rw [hc]
            exact hb
          · exact at_ne e hc exo_own
        · rw [upd_ne (at_ne e hc exo_own), upd_ne (ne_of_none hc fresh)]
          exact hc
        · rw [upd_ne (at_ne e hc exo_tup), upd_ne (ne_of_none hc fresh)]
          exact hc
/-- self.f = y, a further one -/
theorem set_more (T : Oc X.K C Bn B newId) (I : Inv X pins σ H s) (e : H a = some (exo a C (some dx))) (ed : H dx = some (exd dx fs)) (hl : fs.length ≤ 900) (no : PySem.W.findIn X.K (.ref C) f = some none) (ry : RelV y u)
    (hQ : ∀ s', Inv X pins σ (upd H dx (exd dx ((f, y) :: fs))) s' → Q () s') : wpAny (model X.prog X.w) A (setAttr (.ref a) f u) Q E s := by
  obtain ⟨nm, q, N, bs, bm, sn, sub, ab, col, dd, k0, k1, k2, k3, k5, hC, _, hS⟩ := T.cls
  obtain ⟨t1, ho⟩ := exo_at I.hok e
  obtain ⟨mA, hns, rel⟩ := exd_at I.hok ed
  have hw := within_of rel
  obtain ⟨hp, g, d, t, os⟩ := s
  obtain ⟨oD, _, _, hoD, _, _⟩ := hns.count hw
  refine PySem.W.set_plain I.kIn (ox := { cls := .ref C, dict := some dx, data := .fields #[.ref t1, .none, .none, .none, .bool false, .none] }) (od := some oD) ⟨ho, rfl, rfl, hoD⟩ T.sa (store_more I.kIn ho hns hw (by rw [List.length_map]; omega) (clsIn_of hC) hS.own rfl no fun h' tk' old hn => ?_)
  have there : ∃ o, h'.get? dx = some o := by
    obtain ⟨o, _, _, e2, _⟩ := hn
    exact ⟨o, e2⟩
  exact hQ _ (I.write (t' := tk') (x := dx) (e := dx) (o := exd dx ((f, y) :: fs)) (by rw [ed]; exact True.intro) (.inl rfl) old there (exd_ok hn (relO_put ry rel)))
/-- B.__init__(self, ..): nothing of it is told -/
theorem ini_ok {us : List Value} {Q : Value → Shared → Prop} (T : Oc X.K C Bn B newId) (F : Ini B initId) (I : Inv X pins σ H s) (e : H a = some (exo a C none)) (hl : us.length ≤ sizeLine) (hQ : ∀ s', Inv X pins σ H s' → Q .none s') :
    wpAny (model X.prog X.w) A (call (.builtin initId) (.ref a :: us)) Q E s := by
  obtain ⟨nm, q, N, bs, bm, sn, sub, ab, col, dd, k0, k1, k2, k3, k5, hC, hM, _⟩ := T.cls
  obtain ⟨t1, ho⟩ := exo_at I.hok e
  obtain ⟨hp, g, d, t, os⟩ := s
  refine wpAny_call (init_x F hM (I.kIn _ _ hC) ho hl fun h' t2 old hx => ?_)
  have J := I.write (t' := t) (x := a) (e := a) (o := exo a C none) (by rw [e]; exact True.intro) (.inl rfl) old ⟨_, hx⟩ (exo_ok hx)
  have same : upd H a (exo a C none) = H := by
    funext b
    by_cases hb : b = a
    · rw [hb, upd_same, e]
    · rw [upd_ne hb]
  rw [same] at J
  exact hQ _ J
end
end Ev.Xc
end
section
set_option maxHeartbeats 3200000
/-! Xp: the bodies of the program's errors: B.__init__(self, text), then self.f = f for each parameter f. -/
namespace Ev.Xc
open PySem PySem.Spec PyProof.Rows L2
/-- a built-in error's name -/
structure Bt (Bs : Str) (B initId : String) : Prop where
  ini : Ini B initId
  ty : typeOf (.type B) = pure (.type "type")
  stub : Manifest.isStub B = false
  hand : PySem.W.handedIn (.builtin initId) = true
  blt : bootBuiltins Bs = some (.type B)
  nn : Bs ≠ "__name__"
  nd : (Bs == ("__debug__" : Str)) = false
theorem bt_VE : Bt "ValueError" "ValueError" "ValueError.__init__" := ⟨ini_VE, by kernel_rfl, by decide +kernel, by decide +kernel, PyProof.Rows.Boot.«ValueError», by decide, by decide⟩
theorem bt_KE : Bt "KeyError" "KeyError" "KeyError.__init__" := ⟨ini_KE, by kernel_rfl, by decide +kernel, by decide +kernel, PyProof.Rows.Boot.«KeyError», by decide, by decide⟩
theorem bt_LE : Bt "LookupError" "LookupError" "LookupError.__init__" := ⟨ini_LE, by kernel_rfl, by decide +kernel, by decide +kernel, PyProof.Rows.Boot.«LookupError», by decide, by decide⟩
theorem bt_RE : Bt "RuntimeError" "RuntimeError" "RuntimeError.__init__" := ⟨ini_RE, by kernel_rfl, by decide +kernel, by decide +kernel, PyProof.Rows.Boot.«RuntimeError», by decide, by decide⟩
section
variable {X : Cx} {Bn B newId initId : String} {Bs : Str} {o e : Expr} {es : List Expr} {to te : TE} {ta : TA} {f : Str} {p p' p1 p2 pos : Pos}
def tXi (K : PySem.W.Frag) (Bn B newId : String) (ta : TA) : TE := fun σ H Q => ta σ H fun vs H1 => ∃ (a C : Addr) (ws : List V), vs = .ref a :: ws ∧ ws.length ≤ 1000 ∧ Oc K C Bn B newId ∧ H1 a = some (exo a C none) ∧ Q .non H1
def tSx (K : PySem.W.Frag) (Bn B newId : String) (f : Str) (to te : TE) : TS := fun D σ H => te σ H fun y H1 => to σ H1 fun x H2 => ∃ a C : Addr, x = .ref a ∧ Oc K C Bn B newId ∧ PySem.W.findIn K (.ref C) f = some none ∧
  ((H2 a = some (exo a C none) ∧ ∀ dx, H2 dx = none → dx ≠ a → D.nx σ (upd (upd H2 dx (exd dx [(f, y)])) a (exo a C (some dx)))) ∨
    ∃ (dx : Addr) (fs : List (Str × V)), H2 a = some (exo a C (some dx)) ∧ H2 dx = some (exd dx fs) ∧ fs.length ≤ 900 ∧ D.nx σ (upd H2 dx (exd dx ((f, y) :: fs))))
theorem pe_xini (T : Bt Bs B initId) (hg : Gl X Bs) (hm : X.mg Bs = none) (vV : PySem.W.findCls X.K (.type B) (.type "type") "__init__" = some (.val (.builtin initId))) (ha : PA X (e :: es) ta)
    (he : starEach (e :: es) X.env = (false, eval e X.env) :: starEach es X.env) (hpl : (backTo pos (starEach es X.env)).any (·.1) = false)
    (hf : methodCallForm ((e :: es).length + ([] : List Keyword).length) (backTo pos (starEach (e :: es) X.env)) (backToKw pos (keywordEach [] X.env)) = true) (hl : (p2.endLine == pos.line) = true) :
    PE X (.Call (.Attribute (.Name Bs p1) "__init__" p2) (e :: es) [] pos) (tXi X.K Bn B newId ta) := by
  refine ⟨fun pins s σ H Q I h => ?_⟩
  refine PySem.W.methodCall_KW (ld_blt I hg hm T.blt ?_ T.nn T.nd) (mcall_of (by rfl) fun ov => mcall_line hf hl)
  obtain ⟨m, fr⟩ := I.fr
  refine PySem.W.method_type fr I.ok.mod.kin T.ty T.stub vV T.hand ?_
  show wpAny _ _ (callWith pos (Value.builtin initId) [] (backTo pos (starEach (e :: es) X.env)) []) _ _ _
  refine PyProof.Rows.callWith_method1 (thn (ha.run pos pins _ σ H _ (I.tok _) h) fun us s1 ⟨vs, H1, I1, r1, a, C, ws, ev, hl, T2, ea, q⟩ => ?_) he hpl
  subst ev
  cases r1 with
  | @cons _ u0 _ ur ra rw' =>
    obtain rfl : u0 = Value.ref a := ra
    have hlen : ur.length ≤ sizeLine := by
      rw [← Paired.length rw', sizeLine_eq]
      omega
    exact ini_ok T2 T.ini I1 ea hlen fun s' J => ⟨.non, H1, J, rfl, q⟩
theorem ps_sx (ho : PE X o to) (he : PE X e te) (hs : swapsWith e (some (.Attribute o f p')) pos.line X.env = pure false) : PS X (.Assign [.Attribute o f p'] e pos) (tSx X.K Bn B newId f to te) := by
  refine ⟨fun pins s σ H D I h => ?_⟩
  refine plainObj_wpAny_Assign_Attribute (thn (he.run pins s σ H _ I h) fun v s1 ⟨y, H1, I1, r1, q1⟩ => thn (ho.run pins s1 σ H1 _ I1 q1) fun u s2 ⟨x, H2, I2, r2, a, C, ex, T, hno, q⟩ => ?_) hs
  subst ex
  obtain rfl : u = Value.ref a := r2
  rcases q with ⟨ea, q⟩ | ⟨dx, fs, ea, ed, hl, q⟩
  · exact set_first T I2 ea hno r1 fun dx s' n ne J => ⟨σ, _, J, q dx n ne⟩
  · exact set_more T I2 ea ed hl hno r1 fun s' J => ⟨σ, _, J, q⟩
end
/-! ### the bodies -/
def fldB : List Str → List Stmt → Bool
  | [], [] => true
  | f :: fs, .Assign [.Attribute (.Name s _) g _] (.Name h _) _ :: r => s == ("self" : Str) && (g == f && (h == f && fldB fs r))
  | _, _ => false
def bdyB (Bs : Str) (fs : List Str) : List Stmt → Bool
  | .Expr (.Call (.Attribute (.Name b _) i p2) [.Name s _, .Constant (.str _) _ _] [] pos) _ :: r => b == Bs && (i == ("__init__" : Str) && (s == ("self" : Str) && (p2.endLine == pos.line && fldB fs r)))
  | _ => false
/-- what such a body leaves: ws its fields, the newest ahead -/
def Made (H : Hp) (a C : Addr) : List (Str × V) → Hp → Prop
  | [], H' => H' = H
  | w :: ws, H' => ∃ dx, H dx = none ∧ dx ≠ a ∧ H' = upd (upd H dx (exd dx (w :: ws))) a (exo a C (some dx))
section
variable {X : Cx} {Bn B newId initId : String} {Bs : Str} {C : Addr}
theorem made_at {H H1 : Hp} {a : Addr} {ws : List (Str × V)} (e : H a = some (exo a C none)) (m : Made H a C ws H1) : (ws = [] ∧ H1 a = some (exo a C none)) ∨ ∃ dx, H dx = none ∧ dx ≠ a ∧ H1 = upd (upd H dx (exd dx ws)) a (exo a C (some dx)) ∧ H1 a = some (exo a C (some dx)) ∧ H1 dx = some (exd dx ws) := by
  cases ws with
  | nil =>
    have m : H1 = H := m
    subst m
    exact .inl ⟨rfl, e⟩
  | cons w ws =>
    obtain ⟨dx, n, ne, rfl⟩ := m
    exact .inr ⟨dx, n, ne, rfl, upd_same, by rw [upd_ne ne, upd_same]⟩
theorem flds_ok (T : Oc X.K C Bn B newId) {H0 : Hp} {a : Addr} (ea : H0 a = some (exo a C none)) {σ : L2.St} (hself : X.N[0]? = some ("self" : Str)) (hs0 : σ[0]? = some (some (.ref a))) (hvs : ∀ x ∈ X.N, Vis X.env.scope x ∧ (x == ("__debug__" : Str)) = false ∧ (x == ("__classdict__" : Str)) = false) (hN0 : ∀ x ∈ X.N, PySem.W.findIn X.K (.ref C) x = some none) :
    ∀ (fs : List Str) (ys : List V) (i : Nat) (body : List Stmt) (ws : List (Str × V)), fldB fs body = true → fs.length = ys.length → ws.length + fs.length ≤ 800 → (∀ j f, fs[j]? = some f → X.N[i + j]? = some f) → (∀ j y, ys[j]? = some y → σ[i + j]? = some (some y)) →
      ∃ t, PSs X body t ∧ ∀ (D : Ends) (H1 : Hp), Made H0 a C ws H1 → (∀ H', Made H0 a C ((fs.zip ys).reverse ++ ws) H' → D.nx σ H') → t D σ H1
  | [], ys, i, body, ws, hb, hl, hz, hf, hy => by
    cases body with
    | cons _ _ => cases hb
    | nil =>
      refine ⟨_, pss_nil, fun D H1 m q => ?_⟩
      have e : ys = [] := by cases ys with
        | nil => rfl
        | cons _ _ => simp at hl
      subst e
      exact q H1 m
  | f :: fs, [], i, body, ws, hb, hl, hz, hf, hy => by simp at hl
  | f :: fs, y :: ys, i, body, ws, hb, hl, hz, hf, hy => by
    unfold fldB at hb
    split at hb
    · rename_i e1
      cases e1
    · rename_i f' fs' s ps g pg h ph pos r e1
      cases e1
      simp only [Bool.and_eq_true, beq_iff_eq] at hb
      obtain ⟨rfl, rfl, rfl, hb⟩ := hb
      have n0 := hf 0 h rfl
      rw [Nat.add_zero] at n0
      have mem := List.mem_of_getElem? n0
      have mems := List.mem_of_getElem? hself
      have y0 := hy 0 y rfl
      rw [Nat.add_zero] at y0
      obtain ⟨t, pt, ht⟩ := flds_ok T ea hself hs0 hvs hN0 fs ys (i + 1) r ((h, y) :: ws) hb (by simpa using hl) (by simp only [List.length_cons] at hz ⊢; omega) (fun j f e => by
        have z := hf (j + 1) f (by simpa using e)
        rw [show i + 1 + j = i + (j + 1) by omega]
        exact z) (fun j y e => by
        have z := hy (j + 1) y (by simpa using e)
        rw [show i + 1 + j = i + (j + 1) by omega]
        exact z)
      refine ⟨_, pss_cons (ps_sx (Bn := Bn) (B := B) (newId := newId) (pe_var hself (hvs _ mems).1 (hvs _ mems).2.1 (hvs _ mems).2.2) (pe_var n0 (hvs _ mem).1 (hvs _ mem).2.1 (hvs _ mem).2.2) (by rfl)) pt, fun D H1 m q => ?_⟩
      refine ⟨y, y0, .ref a, hs0, a, C, rfl, T, hN0 _ mem, ?_⟩
      have q2 : ∀ H', Made H0 a C ((fs.zip ys).reverse ++ (h, y) :: ws) H' → D.nx σ H' := fun H' m' => q H' (by
        rw [List.zip_cons_cons, List.reverse_cons, List.append_assoc]
        exact m')
      rcases made_at ea m with ⟨ew, e1⟩ | ⟨dx, hn, ne, eH, e1, e2⟩
      · subst ew
        have m : H1 = H0 := m
        subst m
        exact .inl ⟨e1, fun dx hn ne => ht D _ ⟨dx, hn, ne, rfl⟩ q2⟩
      · refine .inr ⟨dx, ws, e1, e2, by omega, ht D _ ⟨dx, hn, ne, ?_⟩ q2⟩
        subst eH
        funext b
        by_cases hb1 : b = dx
        · subst hb1
          rw [upd_same, upd_ne ne, upd_same]
        · rw [upd_ne hb1]
          by_cases hb2 : b = a
          · subst hb2
            rw [upd_same, upd_same]
          · rw [upd_ne hb2, upd_ne hb2, upd_ne hb1, upd_ne hb1]
    · cases hb
/-- the whole body -/
theorem bdy_ok (T : Oc X.K C Bn B newId) (Tb : Bt Bs B initId) (vV : PySem.W.findCls X.K (.type B) (.type "type") "__init__" = some (.val (.builtin initId))) (hg : Gl X Bs) (hm : X.mg Bs = none) {fs : List Str} {xs : List V} (hN : X.N = ("self" : Str) :: fs) (hl : fs.length = xs.length) (hz : fs.length ≤ 800)
    (hvs : ∀ x ∈ X.N, Vis X.env.scope x ∧ (x == ("__debug__" : Str)) = false ∧ (x == ("__classdict__" : Str)) = false) (hN0 : ∀ x ∈ X.N, PySem.W.findIn X.K (.ref C) x = some none) {body : List Stmt} (hb : bdyB Bs fs body = true)
    {H0 : Hp} {a : Addr} (ea : H0 a = some (exo a C none)) {Q : VK} (hq : ∀ H', Made H0 a C (fs.zip xs).reverse H' → Q .non H') :
    ∃ t, PSs X body t ∧ t { nx := fun _ H' => Q .non H', rt := Q } (L2.start X.N (V.ref a :: xs)) H0 := by
  have hself : X.N[0]? = some ("self" : Str) := by rw [hN]; rfl
  have es : L2.start X.N (V.ref a :: xs) = (V.ref a :: xs).map some := by
    unfold L2.start
    rw [hN, List.length_cons, List.length_cons, hl, Nat.sub_self]
    exact List.append_nil _
  have mems := List.mem_of_getElem? hself
  unfold bdyB at hb
  split at hb
  · rename_i b p1 i p2 s p3 tx j p4 pos p5 r
    simp only [Bool.and_eq_true] at hb
    obtain ⟨h1, h2, h3, h4, hb⟩ := hb
    obtain rfl := beq_iff_eq.mp h1
    obtain rfl := beq_iff_eq.mp h2
    obtain rfl := beq_iff_eq.mp h3
    obtain ⟨t, pt, ht⟩ := flds_ok T ea (σ := L2.start X.N (V.ref a :: xs)) hself (by rw [es]; rfl) hvs hN0 fs xs 1 r [] hb hl (by simpa using hz) (fun j f e => by rw [hN, Nat.add_comm]; exact e) (fun j y e => by rw [es, Nat.add_comm, List.getElem?_map, List.getElem?_cons_succ, e]; rfl)
    refine ⟨_, pss_cons (ps_expr (pe_xini (Bn := Bn) (newId := newId) Tb hg hm vV (pa_cons (pe_var hself (hvs _ mems).1 (hvs _ mems).2.1 (hvs _ mems).2.2) (pa_cons pe_str pa_nil)) (by rfl) (by rfl) (by rfl) h4)) pt, ?_⟩
    refine ⟨V.ref a, by rw [es]; rfl, ?_⟩
    refine ⟨a, C, [.str tx], rfl, by simp, T, ea, ?_⟩
    exact ht _ H0 rfl fun H' m => hq H' (by rw [List.append_nil] at m; exact m)
  · cases hb
end
end Ev.Xc
end
section
set_option autoImplicit false
set_option maxHeartbeats 3200000
/-! Xq: C(e, ..) and C(f = e, ..) as a value: the program's errors. -/
namespace Ev.Xc
open PySem PySem.Spec PyProof.Rows L2 StX
/-- what is known of an error's class C, its fields fs -/
structure Ei (K : PySem.W.Frag) (mg : Str → Option Value) (C : Addr) (fs : List Str) (Bn B newId iN initId : String) (bmN : List Value) (Bs : Str) (fI : Addr) (fd : FuncData) (nm qual : Str) (params : Arguments) (body : List Stmt) (sc : Scope) : Prop where
  oc : Oc K C Bn B newId
  eb : ExcBaseFacts Bn newId iN bmN
  bt : Bt Bs B initId
  vV : PySem.W.findCls K (.type B) (.type "type") "__init__" = some (.val (.builtin initId))
  mB : mg Bs = none
  ini : PySem.W.findIn K (.ref C) "__init__" = some (some (.ref fI))
  tI : PySem.W.typeIn K (.ref fI) = some (.type "function")
  fn : FunD K nm qual params body sc [] [] fI fd
  fsc : FnScope (("self" : Str) :: fs) (("self" : Str) :: fs) sc
  gl : sc.names.lookup Bs = some .globalImplicit
  bdy : bdyB Bs fs body = true
  few : fs.length ≤ 800
  vis : ∀ x ∈ ("self" : Str) :: fs, Vis sc x ∧ (x == ("__debug__" : Str)) = false ∧ (x == ("__classdict__" : Str)) = false
  own : ∀ x ∈ ("self" : Str) :: fs, PySem.W.findIn K (.ref C) x = some none
/-- keywords' values, in the fields' order -/
def kwV {α : Type} (pm : List Nat) (ws : List α) : List α := pm.filterMap (ws[·]?)
theorem kwV_vals {zs : List V} {ws : List Value} (r : Vals zs ws) : ∀ pm : List Nat, Vals (kwV pm zs) (kwV pm ws)
  | [] => .nil
  | i :: pm => by
    have ih := kwV_vals r pm
    unfold kwV at ih ⊢
    rw [List.filterMap_cons, List.filterMap_cons]
    cases h : zs[i]? with
    | none =>
      have h2 : ws[i]? = none := by
        rw [List.getElem?_eq_none_iff] at h ⊢
        rw [← r.length]
        exact h
      rw [h2]
      exact ih
    | some z =>
      have hi := (List.getElem?_eq_some_iff.mp h).1
      obtain ⟨u, e1, e2⟩ := r.get h
      rw [e1]
      exact .cons e2 ih
/-- how such a call binds -/
def KwB (fs : List Str) (nm qual : Str) (params : Arguments) (body : List Stmt) (sc : Scope) (n : Nat) (ks : List Str) (pm : List Nat) : Prop :=
  ∀ (kV doc pm2 : Value) (an : Option Addr) (cdv ct : Value) (self : Value) (us ws : List Value), us.length = n → ws.length = ks.length →
    bindArgs (PySem.W.fnOf nm qual params body sc .none kV doc pm2 an cdv ct) ⟨self :: us, ks.zip ws⟩ = pure ((("self" : Str) :: fs).zip (self :: (us ++ kwV pm ws)))
section
variable {K : PySem.W.Frag} {mg : Str → Option Value} {C : Addr} {fs : List Str} {Bn B newId iN initId : String} {bmN : List Value} {Bs : Str} {fI : Addr} {fd : FuncData} {nm qual : Str} {params : Arguments} {body : List Stmt} {sc : Scope}
theorem run_ini (T : Ei K mg C fs Bn B newId iN initId bmN Bs fI fd nm qual params body sc) {P : Program} {w : World} {base : Heap} {A : Around} {outer : List Env} {s : Shared} {H : Hp} {a : Addr} {us ws : List Value} {vs zs : List V} {ks : List Str} {pm : List Nat} {Q : VK} (hr : Room 1 A)
    (e0 : Env0 P w K mg base A outer s H) (r : Vals vs us) (rz : Vals zs ws) (hb : KwB fs nm qual params body sc vs.length ks pm) (hks : zs.length = ks.length) (hl : (vs ++ kwV pm zs).length = fs.length) (ea : H a = some (exo a C none))
    (hq : ∀ H', Made H a C (fs.zip (vs ++ kwV pm zs)).reverse H' → Q .non H') :
    codeAny (model P w) A (.call (.ref fI) ⟨.ref a :: us, ks.zip ws⟩) (CR CX0 outer P w H s Q E0) s := by
  obtain ⟨oc, od, dV, kV, doc, pm2, an, cdv, ct, osl, rfl, lk, hcd, hD, hKw⟩ := T.fn.ex
  have eD : dV = .none := by
    rcases hD with ⟨_, e⟩ | ⟨z, _⟩
    · exact e
    · exact absurd rfl z
  subst eD
  refine run_bnd (k := 0) (G := fun xs H2 => xs = V.ref a :: (vs ++ kwV pm zs) ∧ H2 = H) lk hcd T.fsc hr e0 (fun A' Ex Q' h => ?_) fun s2 H2 xs ⟨e1, e2⟩ hr2 => ?_
  · refine wpAny_of_eq (hb kV doc pm2 an cdv ct (.ref a) us ws r.length.symm (rz.length.symm.trans hks)) ?_
    exact h s H (V.ref a :: (vs ++ kwV pm zs)) (.ref a :: (us ++ kwV pm ws)) e0 Un.refl rfl (fun _ _ z => z) (.cons rfl (r.append (kwV_vals rz pm))) (by rw [List.length_cons, List.length_cons, hl]) ⟨rfl, rfl⟩
  · subst e1 e2
    exact bdy_ok (X := cxOf CX0 P w K mg base (("self" : Str) :: fs) qual sc fI cdv A outer s2 H2 E0) T.oc T.bt T.vV T.gl T.mB rfl hl.symm T.few T.vis T.own T.bdy ea hq
end
section
variable {X : Cx} {C : Addr} {fs : List Str} {Bn B newId iN initId : String} {bmN : List Value} {Bs : Str} {fI : Addr} {fd : FuncData} {nm qual : Str} {params : Arguments} {body : List Stmt} {sc : Scope}
theorem run_mkx (T : Ei X.K X.mg C fs Bn B newId iN initId bmN Bs fI fd nm qual params body sc) (hr : Room 2 X.A) {pins : List (Addr × Obj)} {σ : L2.St} {H : Hp} {s : Shared} {us ws : List Value} {vs zs : List V} {ks : List Str} {pm : List Nat} {Q : VK} (I : Inv X pins σ H s)
    (r : Vals vs us) (rz : Vals zs ws) (hb : KwB fs nm qual params body sc vs.length ks pm) (hks : zs.length = ks.length) (hl : (vs ++ kwV pm zs).length = fs.length) (h : ∀ a H', H a = none → Made (upd H a (exo a C none)) a C (fs.zip (vs ++ kwV pm zs)).reverse H' → Q (.ref a) H') :
    wpAny (model X.prog X.w) X.A (call (.ref C) us (ks.zip ws)) (EP X pins σ Q) X.xe s := by
  obtain ⟨cnm, q, N, bs, bm, sn, sub, ab, col, dd, k0, k1, k2, k3, k5, hC, hM, _⟩ := T.oc.cls
  obtain ⟨hp, g, dr, tk, os⟩ := s
  have hsz : hp.objs.size ≤ hp.objs.size + 1 := Nat.le_succ _
  have hn : H (hp.objs.size + 1) = none := I.hok.fresh hsz
  have kk : ∀ b o, hp.get? b = some o → ((hp.push (PySem.W.kdv_tup us)).push (PySem.HandSPX.excO C hp.objs.size)).get? b = some o := fun b o e => Heap.get?_push_of_some _ (Heap.get?_push_of_some _ e)
  have hget : ((hp.push (PySem.W.kdv_tup us)).push (PySem.HandSPX.excO C hp.objs.size)).get? (hp.objs.size + 1) = some (PySem.HandSPX.excO C hp.objs.size) := by heap_get
  have I2 : Inv X pins σ (upd H (hp.objs.size + 1) (exo (hp.objs.size + 1) C none)) ⟨(hp.push (PySem.W.kdv_tup us)).push (PySem.HandSPX.excO C hp.objs.size), g, dr, tk, os⟩ :=
    I.laid (t' := tk) (a := hp.objs.size + 1) (o := exo (hp.objs.size + 1) C none) (h' := (hp.push (PySem.W.kdv_tup us)).push (PySem.HandSPX.excO C hp.objs.size)) kk hsz (exo_ok hget)
  have hus : us.length ≤ sizeLine := by
    have := T.few
    rw [List.length_append] at hl
    rw [← r.length, sizeLine_eq]
    omega
  refine wpAny_call (call_x T.eb hM (I.kIn _ _ hC) (PySem.W.looks_findIn I.kIn T.ini) (fun self => PySem.W.bind_fn I.kIn self T.tI) hus
    (codeAny_mono (run_ini T (hr.make C us (ks.zip ws)) (I2.env0.make C us (ks.zip ws)) r rz hb hks hl upd_same (Q := fun v H' => v = .non ∧ Q (.ref (hp.objs.size + 1)) H') fun H' m => ⟨rfl, h _ H' hn m⟩) fun r s' hq' => ?_))
  cases r with
  | error er => exact False.elim hq'
  | ok fl =>
    cases fl with
    | ret u =>
      obtain ⟨v, H', I3, rv, ev, q3⟩ := I2.after hq'
      subst ev
      exact ⟨rv, ⟨V.ref (hp.objs.size + 1), H', I3, rfl, q3⟩⟩
    | next => exact False.elim hq'
    | brk => exact False.elim hq'
    | cont => exact False.elim hq'
/-- the reading: C(e, .., k = v, ..) -/
def tMkE (ca : Nat → Option Addr) (c : Nat) (fs : List Str) (n m : Nat) (pm : List Nat) (ta tk : TA) : TE := fun σ H Q => ta σ H fun vs H1 => tk σ H1 fun zs H2 => ∃ C, ca c = some C ∧ vs.length = n ∧ zs.length = m ∧ (vs ++ kwV pm zs).length = fs.length ∧
  ∀ a H', H2 a = none → Made (upd H2 a (exo a C none)) a C (fs.zip (vs ++ kwV pm zs)).reverse H' → Q (.ref a) H'
variable {ca : Nat → Option Addr} {c : Nat}
variable {x : Str} {e : Expr} {es : List Expr} {kws : List Keyword} {p pos : Pos} {ta tk : TA} {n : Nat} {ks : List Str} {pm : List Nat}
theorem pe_mkx0 (hC : ca c = some C) (T : Ei X.K X.mg C fs Bn B newId iN initId bmN Bs fI fd nm qual params body sc) (hr : Room 2 X.A) (hg : Gl X x) (hm : X.mg x = some (.ref C)) (hdb : (x == ("__debug__" : Str)) = false) (hb : KwB fs nm qual params body sc 0 [] []) :
    PE X (.Call (.Name x p) [] [] pos) (tMkE ca c fs 0 0 [] tNil tNil) := by
  refine ⟨fun pins s σ H Q I h => ?_⟩
  obtain ⟨C', e, _, _, hl, q⟩ := h
  rw [hC] at e
  cases e
  refine wpAny_Call_Name_kw (ld_glob I hg hm ?_ hdb)
  exact PySem.W.callWith_K0 I.kIn T.oc.kC (run_mkx T hr (us := []) (ws := []) (vs := []) (zs := []) (ks := []) (pm := []) I .nil .nil hb rfl hl q)
theorem pe_mkx (hC : ca c = some C) (T : Ei X.K X.mg C fs Bn B newId iN initId bmN Bs fI fd nm qual params body sc) (hr : Room 2 X.A) (hg : Gl X x) (hm : X.mg x = some (.ref C)) (hdb : (x == ("__debug__" : Str)) = false) (hb : KwB fs nm qual params body sc n [] []) (ha : PA X (e :: es) ta)
    (he : starEach (e :: es) X.env = (false, eval e X.env) :: starEach es X.env) (hpl : (backTo pos (starEach es X.env)).any (·.1) = false) :
    PE X (.Call (.Name x p) (e :: es) [] pos) (tMkE ca c fs n 0 [] ta tNil) := by
  refine ⟨fun pins s σ H Q I h => ?_⟩
  refine wpAny_Call_Name_kw (ld_glob I hg hm ?_ hdb)
  refine PySem.W.callWith_K (h₀ := X.base) I.ok.mod.kin T.oc.kC (thn (ha.run pos pins s σ H _ I h) fun us s1 ⟨vs, H1, I1, r, C', e, hn, hz, hl, q⟩ => ⟨I1.kIn, ?_⟩) he hpl
  rw [hC] at e
  cases e
  exact run_mkx T hr (ws := []) (zs := []) (ks := []) (pm := []) I1 r .nil (by rw [hn]; exact hb) rfl hl q
theorem pe_mkxK (hC : ca c = some C) (T : Ei X.K X.mg C fs Bn B newId iN initId bmN Bs fI fd nm qual params body sc) (hr : Room 2 X.A) (hg : Gl X x) (hm : X.mg x = some (.ref C)) (hdb : (x == ("__debug__" : Str)) = false) (hb : KwB fs nm qual params body sc 0 ks pm) (hkw : PK X kws tk)
    (hall : (backToKw pos (keywordEach kws X.env)).all (·.1.isSome) = true) (hks : (backToKw pos (keywordEach kws X.env)).filterMap (·.1) = ks)
    (hpl : ((backTo pos (starEach [] X.env)).any (·.1) || (backToKw pos (keywordEach kws X.env)).any (·.1.isNone)) = false) :
    PE X (.Call (.Name x p) [] kws pos) (tMkE ca c fs 0 ks.length pm tNil tk) := by
  refine ⟨fun pins s σ H Q I h => ?_⟩
  refine wpAny_Call_Name_kw (ld_glob I hg hm ?_ hdb)
  refine PySem.W.callWith_KW0 (h₀ := X.base) I.ok.mod.kin T.oc.kC hall ?_ hpl
  refine thn (hkw.run pos pins s σ H _ I h) fun ws s2 ⟨zs, H2, I2, rz, C', e, l1, l2, hl, q2⟩ => ⟨I2.kIn, ?_⟩
  rw [hC] at e
  cases e
  rw [hks]
  exact run_mkx T hr (us := []) (vs := []) I2 .nil rz hb l2 hl q2
end
end Ev.Xc
end
section
set_option maxHeartbeats 4000000
/-! Xr: fields of the program's errors read; isinstance of them (the isinstance lines after the ready ones, for errors with a dict). -/
namespace Ev.Xc
section
open PySem PySem.W PySem.Spec PySem.Calls PyProof.Rows
variable {prog : Program} {w : World} {A : Around} {E : Value → Shared → Prop} {s : Shared} {K : Frag} {x D : Addr} {ox : Obj}
theorem findObj_x {C : Addr} {od : Option Obj} {name : Str} {a g : Value} (hc : (clsIn K C).isSome = true) (ha : findIn K (.ref C) name = some (some a)) (hg : specialIn K a "__get__" = some (some g)) (ht : takesIn K a = some true) : findObj K C od name = some (.bind g a) := by
  obtain ⟨cd, hc⟩ := Option.isSome_iff_exists.mp hc
  unfold findObj
  rw [hc, Option.bind_some, ha, Option.bind_some]
  simp [hg, ht]
theorem kin_x {od : Option Obj} {Q : Option Value → Shared → Prop} (hga : findIn K (.ref D) "__getattribute__" = some (some (.builtin "BaseException.__getattribute__"))) (hgt : findIn K (.ref D) "__getattr__" = some none) (hsub : subIn K (.ref D) (.type "BaseException") = some true)
    (hdct : hasDictIn K D = true) (ha : findIn K (.ref D) "__class__" = some (some (.builtin "object.__class__")))
    (hn : specialIn K (.builtin "object.__class__") "__get__" = some (some (.builtin "getset_descriptor.__get__"))) (htk : takesIn K (.builtin "object.__class__") = some true) (hm : mroIn K D (.type "object") = some true)
    (X : K.In s.heap) (I : InstAt s.heap x ox D od) (h : Q (some (.ref D)) { s with toks := s.toks + 1 }) : wpAny (model prog w) A (getAttr? (.ref x) "__class__") Q E s := by
  have hf : findObj K D od "__class__" = some (.bind (.builtin "getset_descriptor.__get__") (.builtin "object.__class__")) := findObj_x (by obtain ⟨cd, hc, _⟩ := any_some hdct; rw [hc]; rfl) ha hn htk
  obtain ⟨hp, g, d, t, os⟩ := s
  have L0 := I.type (M := model prog w)
  have L1 := looks_findIn (M := model prog w) X hga
  have L2 := looks_findIn (M := model prog w) X hgt
  have L3 := looks_find (M := model prog w) X I hf
  have sub : Looks (model prog w) hp (isInstance (.ref x) (.type "BaseException")) true := L0.andThen (looks_subIn X hsub)
  have hx0 : (false && onTheHeap (Value.builtin "BaseException.__getattribute__")) = false := rfl
  have hx2 : (Value.builtin "BaseException.__getattribute__" == Value.builtin "object.__getattribute__") = false := by decide +kernel
  have hx1 : (onTheHeap (Value.ref D) && Value.builtin "BaseException.__getattribute__" == Value.builtin "object.__getattribute__") = false := by rw [hx2]; rfl
  unfold getAttr? getAttrBy? getAttrBy
  refine wpAny_bind (wpAny_mkText (wpAny_bind (wpAny_attempt (wpAny_holding (wpAny_bind (L0.at (wpAny_bind (L1.at ?_))))))))
  show wpAny _ _ (if (onTheHeap (Value.ref D) && Value.builtin "BaseException.__getattribute__" == Value.builtin "object.__getattribute__") = true then _ else _) _ _ _
  rw [hx1, if_neg Bool.false_ne_true]
  unfold getAttrByItsOwn hookBefore
  refine wpAny_bind ?_
  rw [if_pos (show onTheHeap (Value.ref D) = true from rfl)]
  refine L2.at ?_
  refine wpAny_bind (wpAny_attempt (wpAny_holding ?_))
  unfold callGetattribute
  rw [hx0, if_neg Bool.false_ne_true]
  unfold boundAndCalled
  rw [PySem.F.excAttr_ValueError.ga.bind (.ref x)]
  refine wpAny_bind (wpAny_pure ?_)
  show wpAny _ _ (call (.builtin "BaseException.__getattribute__") [.ref x, .str "__class__" t]) _ _ _
  refine wpAny_call (codeAny_call_builtin PySem.F.excAttr_ValueError.ga.plain PySem.F.entry_bexc_ga ?_)
  refine @check_slot (model prog w) _ _ ⟨hp, g, d, t + 1, os⟩ "BaseException.__getattribute__" "BaseException" "__getattribute__" (.ref x) [.str "__class__" t] [] _ (by decide +kernel) (by decide +kernel) sub (PySem.F.args_bexc_ga (.ref x) (.str "__class__" t)) ?_
  unfold Builtin.«object.__getattribute__»
  refine wpAny_bind (wpAny_of_eq (a := ((Value.ref x : Value), [Value.str "__class__" t])) (by first | rfl | (simp only [slotArgs]; rfl)) ?_)
  refine wpAny_bind (wpAny_pure (wpAny_bind (L0.at (wpAny_bind (L3.at ?_)))))
  show wpAny _ _ (holding [Value.builtin "object.__class__"] (call (.builtin "getset_descriptor.__get__") [.builtin "object.__class__", .ref x, .ref D]) >>= ret) _ _ _
  refine wpAny_bind (wpAny_holding (wpAny_call (class_get (s := ⟨hp, g, d, t + 1, os⟩) (ox := ox) (od := od) X I hm ?_)))
  refine wpAny_pure ?_
  show wpAny _ _ (handedOut (.ref D)) _ _ _
  rw [handedOut_of (v := .ref D) rfl]
  first
    | exact wpAny_pure (wpAny_pure h)
    | exact wpAny_pure h
    | exact wpAny_pure (wpAny_bind (wpAny_pure (wpAny_pure h)))
theorem kitx_x {od : Option Obj} (hga : findIn K (.ref D) "__getattribute__" = some (some (.builtin "BaseException.__getattribute__"))) (hgt : findIn K (.ref D) "__getattr__" = some none) (hsub : subIn K (.ref D) (.type "BaseException") = some true) (hdct : hasDictIn K D = true) (ha : findIn K (.ref D) "__class__" = some (some (.builtin "object.__class__")))
    (hn : specialIn K (.builtin "object.__class__") "__get__" = some (some (.builtin "getset_descriptor.__get__"))) (htk : takesIn K (.builtin "object.__class__") = some true) (hm : mroIn K D (.type "object") = some true) :
    KitX K (.ref x) (.ref D) (fun h => InstAt h x ox D od) where
  ty := fun _ _ _ I => I.type
  it := fun _ _ X _ => by
    obtain ⟨cdD, hcD, _⟩ := any_some hdct
    unfold clsIn at hcD
    split at hcD
    · rename_i c' d' cd' sl' ho
      intro A' Q' E' s' k q
      unfold isType loadHead
      exact wpAny_bind (wpAny_loadPart (k _ _ (X _ _ ho)) (wpAny_pure q))
    · cases hcD
  ne := fun h tp dd its n sl X htp => by
    obtain ⟨cdD, hcD, _⟩ := any_some hdct
    refine Bool.eq_false_iff.mpr fun q => ?_
    have e : D = tp := Value.ref.inj (beq_iff_eq.mp q)
    subst e
    unfold clsIn at hcD
    split at hcD
    · rename_i c' d' cd' sl' ho
      have z := (X _ _ ho).symm.trans htp
      cases z
    · cases hcD
  ca := fun X I k => kin_x hga hgt hsub hdct ha hn htk hm X I k
end
open PySem PySem.Spec PyProof.Rows L2
section
variable {X : Cx}
/-- isinstance(e, c), e an error of the program -/
def rIsX (K : PySem.W.Frag) : List V → Hp → VK → Prop := fun xs H Q => ∃ (a C : Addr) (d : Option Addr) (c : V) (cv : Value) (b : Bool), xs = [.ref a, c] ∧ ExcC K C ∧ H a = some (exo a C d) ∧ (∀ dd, d = some dd → ∃ fs, H dd = some (exd dd fs)) ∧ (∀ u, RelV c u → u = cv) ∧ PySem.W.kitOne K (.ref C) cv = some b ∧ Q (.bl b) H
/-- such an error, where it lies -/
theorem inst_x {pins : List (Addr × Obj)} {σ : L2.St} {H : Hp} {s : Shared} (I : Inv X pins σ H s) {a C : Addr} {d : Option Addr} (ea : H a = some (exo a C d)) (ed : ∀ dd, d = some dd → ∃ fs, H dd = some (exd dd fs)) :
    ∃ ox od, PySem.W.InstAt s.heap a ox C od ∧ ∀ dd fs, d = some dd → H dd = some (exd dd fs) → ∃ mA, s.heap.Ns1 dd mA ∧ (∀ f, RelO (fs.lookup f) (mA f)) ∧ ∀ f, ∃ o1, od = some o1 ∧ PySem.W.lookIn f o1 = some (mA f) := by
  obtain ⟨t1, ho⟩ := exo_at I.hok ea
  cases d with
  | none => exact ⟨_, none, ⟨ho, rfl, rfl, trivial⟩, fun dd fs e => nomatch e⟩
  | some dd =>
    obtain ⟨fs, ed⟩ := ed dd rfl
    obtain ⟨mA, hns, rel⟩ := exd_at I.hok ed
    obtain ⟨od, hod, hl⟩ := lookIn_ns hns
    refine ⟨_, some od, ⟨ho, rfl, rfl, hod⟩, fun dd' fs' e ed' => ?_⟩
    cases e
    obtain ⟨mA', hns', rel'⟩ := exd_at I.hok ed'
    obtain ⟨od', hod', hl'⟩ := lookIn_ns hns'
    rw [hod] at hod'
    cases hod'
    exact ⟨mA', hns', rel', fun f => ⟨od, rfl, hl' f⟩⟩
theorem call_isX : CallR X (.builtin "isinstance") (rIsX X.K) := by
  intro pins s σ H xs us Q I r h
  obtain ⟨a, C, d, c, cv, b, rfl, T, ea, ed, hcv, e, q⟩ := h
  cases r with
  | cons rx rr =>
    cases rr with
    | cons rt rr =>
      cases rr
      cases rx
      have ec := hcv _ rt
      subst ec
      obtain ⟨ox, od, J, _⟩ := inst_x I ea ed
      exact PySem.W.kia_one (kitx_x T.hg T.hk T.hs T.hd T.ha T.hn T.ht T.hm) I.kIn J e (fun z => nomatch z) fun tk => ⟨.bl b, H, I.kept (t' := tk) fun _ _ z => z, rfl, q⟩
/-- e.f -/
def tXg (K : PySem.W.Frag) (f : Str) (te : TE) : TE := fun σ H Q => te σ H fun x H1 => ∃ (a C dd : Addr) (fs : List (Str × V)) (v : V), x = .ref a ∧ XfC K C ∧ PySem.W.findIn K (.ref C) f = some none ∧ H1 a = some (exo a C (some dd)) ∧ H1 dd = some (exd dd fs) ∧ fs.lookup f = some v ∧ Q v H1
theorem pe_xg {e : Expr} {te : TE} {pos : Pos} {n : Str} (he : PE X e te) (hb : attributeBase e n X.env (eval e X.env) = eval e X.env) : PE X (.Attribute e n pos) (tXg X.K n te) := by
  refine ⟨fun pins s σ H Q I h => ?_⟩
  refine attr_of hb (thn (he.run pins s σ H _ I h) fun u s1 hh => ?_)
  obtain ⟨x, H1, I1, rx, a, C, dd, fs, v, ex, T, hno, ea, ed, l, q⟩ := hh
  subst ex
  obtain rfl : u = Value.ref a := rx
  obtain ⟨ox, od, J, hd⟩ := inst_x I1 ea (fun d' e => by cases e; exact ⟨fs, ed⟩)
  obtain ⟨mA, hns, hr, hl⟩ := hd dd fs rfl ed
  obtain ⟨u, hu, ru⟩ := RelO.some_of (v := v) (o := mA n) (by rw [← l]; exact hr n)
  obtain ⟨o1, e1, hl1⟩ := hl n
  subst e1
  exact HandSPX.exc_get I1.kIn J T.ga T.gg T.exC (PySem.W.findObj_own T.hdC hno rfl (by rw [hl1, hu])) (handed_of ru) ⟨v, H1, I1.tok _, ru, q⟩
end
end Ev.Xc
end
/-! Ev: a small language of terms and its evaluator over data trees (own work for these claims). -/
namespace Ev
open PySem L2

/-! ### data -/
inductive D where
  | non | bl (b : Bool) | int (i : Int) | str (s : Str)
  | lst (xs : List D) | tup (xs : List D) | dct (kvs : List (Key × D)) | fn (i : Nat) | scr (ns : List Int) | er (c : Nat) (fs : List (Str × D))
  deriving Inhabited

mutual
def py : D → PyData
  | .non => .none
  | .bl b => .bool b
  | .int i => .int i
  | .str s => .str s
  | .lst xs => .list (pys xs)
  | .tup xs => .tuple (pys xs)
  | .dct _ => .dict [(.none, .none)]
  | .fn _ => .dict [(.none, .none)]
  | .scr _ => .dict [(.none, .none)]
  | .er _ _ => .dict [(.none, .none)]
def pys : List D → List PyData
  | [] => []
  | x :: xs => py x :: pys xs
end

def truD : D → Option Bool
  | .non => some false
  | .bl b => some b
  | .int i => some (i != 0)
  | .str s => if s.length ≤ sizeLine then some ((s.length : Int) != 0) else none
  | .lst xs => some (!xs.isEmpty)
  | .tup xs => some (!xs.isEmpty)
  | _ => none

def flatD : D → Bool
  | .non => true
  | .bl _ => true
  | .int _ => true
  | .str _ => true
  | _ => false
def eqF : D → D → Bool
  | .non, .non => true
  | .bl a, .bl b => a == b
  | .bl a, .int b => (if a then 1 else 0) == b
  | .int a, .bl b => a == (if b then 1 else 0)
  | .int a, .int b => a == b
  | .str a, .str b => a == b
  | _, _ => false

def valD (kvs : List (Key × D)) (k : Key) : Option D := (kvs.find? fun kv => decide (kv.1 = k)).map (·.2)
def putD (kvs : List (Key × D)) (k : Key) (v : D) : List (Key × D) :=
  if kvs.any (fun kv => decide (kv.1 = k)) then kvs.map fun kv => if kv.1 = k then (kv.1, v) else kv else kvs ++ [(k, v)]
def keyD : D → Option Key
  | .int i => some (.inl i)
  | .str s => some (.inr s)
  | _ => none
def kD : Key → D
  | .inl i => .int i
  | .inr s => .str s
def cutL {α : Type} (xs : List α) (lo hi : Option Int) : List α := (xs.drop (HT.sIx xs.length 0 lo)).take (HT.sIx xs.length xs.length hi - HT.sIx xs.length 0 lo)
/-- every second item, from the first on -/
def evens {α : Type} : List α → List α
  | [] => []
  | [x] => [x]
  | x :: _ :: r => x :: evens r
def blsD : List D → Option (List Bool)
  | [] => some []
  | .bl b :: r => (blsD r).map (b :: ·)
  | _ :: _ => none
def strsD : List D → Option (List Str)
  | [] => some []
  | .str b :: r => (strsD r).map (b :: ·)
  | _ :: _ => none

/-! ### operators -/
inductive BOp where | add | sub | mul | fdiv | mod | pow
  deriving DecidableEq
inductive COp where | lt | le | gt | ge | eq | ne | isin | notin
  deriving DecidableEq
inductive Bi where | len | all | any | list | tuple | sorted | int | abs | repr | dict | isInt | isBool | isStr | isTuple | isList | sum | set
  deriving DecidableEq
inductive Mu where | append | extend | pop | popAt | clear
  deriving DecidableEq

abbrev Rv := Bool × D
abbrev fz (d : D) : Rv := (false, d)
abbrev ow (d : D) : Rv := (true, d)

def mulOk (i j : Int) : Bool := (decide (-(2 ^ 64) < i) && decide (i < 2 ^ 64)) || (decide (-(2 ^ 64) < j) && decide (j < 2 ^ 64))
def powOk (i j : Int) : Bool := decide (0 ≤ j) && decide (j ≤ 1000000) && decide (i.natAbs < 2 ^ 64)

def binD : BOp → D → D → Option Rv
  | .add, .int i, .int j => some (fz (.int (i + j)))
  | .add, .str a, .str b => if a.length + b.length ≤ sizeLine then some (fz (.str (a ++ b))) else none
  | .add, .lst a, .lst b => if a.length + b.length ≤ sizeLine then some (ow (.lst (a ++ b))) else none
  | .add, .tup a, .tup b => if a.length + b.length ≤ sizeLine then some (fz (.tup (a ++ b))) else none
  | .sub, .int i, .int j => some (fz (.int (i - j)))
  | .mul, .int i, .int j => if mulOk i j then some (fz (.int (i * j))) else none
  | .mul, .lst a, .int k => if -(2 ^ 63) ≤ k ∧ k < 2 ^ 63 ∧ a.length * k.toNat ≤ sizeLine then some (ow (.lst (List.replicate k.toNat a).flatten)) else none
  | .fdiv, .int i, .int j => if 0 < j ∧ j < 1073741824 then some (fz (.int (i / j))) else none
  | .mod, .int i, .int j => if 0 < j then some (fz (.int (i % j))) else none
  | .pow, .int i, .int j => if powOk i j then some (fz (.int (i ^ j.toNat))) else none
  | _, _, _ => none

def scalD : D → D → Option Bool
  | .non, .non => some true
  | .non, .int _ => some false
  | .int _, .non => some false
  | .non, .bl _ => some false
  | .bl _, .non => some false
  | .non, .str _ => some false
  | .str _, .non => some false
  | .int i, .int j => some (decide (i = j))
  | .bl i, .bl j => some (decide (i = j))
  | .str i, .str j => some (decide (i = j))
  | .int _, .str _ => some false
  | .str _, .int _ => some false
  | .bl _, .str _ => some false
  | .str _, .bl _ => some false
  | .lst xs, .lst [] => some xs.isEmpty
  | .lst [], .lst ys => some ys.isEmpty
  | .tup xs, .tup [] => some xs.isEmpty
  | .tup [], .tup ys => some ys.isEmpty
  | _, _ => none
def eqD (d e : D) : Option Bool := match scalD d e with
  | some b => some b
  | none => if SeqAt.shaped (py d) = true ∧ SeqAt.shaped (py e) = true then some (PyData.eqv (py d) (py e)) else none
def inD (x y : D) : Option Bool :=
  match y with
  | .lst ys => if flatD x && ys.all flatD then some (ys.any fun z => eqF z x)
    else if SeqAt.shaped (py x) = true ∧ SeqAt.shaped (py (.lst ys)) = true then some ((pys ys).any fun z => PyData.eqv z (py x)) else none
  | .tup ys => if flatD x && ys.all flatD then some (ys.any fun z => eqF z x) else none
  | .dct kvs => (keyD x).map fun k => (valD kvs k).isSome
  | .str b => match x with
    | .str a => some (!(Builtin.Str.occurrences b a 0 b.length 1).isEmpty)
    | _ => none
  | _ => none
def cmpD : COp → D → D → Option Bool
  | .lt, .int i, .int j => some (decide (i < j))
  | .le, .int i, .int j => some (decide (i ≤ j))
  | .gt, .int i, .int j => some (decide (j < i))
  | .ge, .int i, .int j => some (decide (j ≤ i))
  | .le, .str a, .str b => some (!decide (b.cps.toList < a.cps.toList))
  | .eq, d, e => eqD d e
  | .ne, d, e => (eqD d e).map (! ·)
  | .isin, x, y => inD x y
  | .notin, x, y => (inD x y).map (! ·)
  | _, _, _ => none
def idxD : D → D → Option D
  | .lst xs, .int i => atI xs i
  | .tup xs, .int i => atI xs i
  | .str s, .int i => if s.length ≤ sizeLine then (atI s.cps.toList i).map fun c => .str ⟨#[c]⟩ else none
  | .dct kvs, k => (keyD k).bind (valD kvs)
  | _, _ => none
def slcD (lo hi : Option Int) : D → Option Rv
  | .lst xs => some (ow (.lst (cutL xs lo hi)))
  | .tup xs => some (fz (.tup (cutL xs lo hi)))
  | .str s => if s.length ≤ sizeLine then some (fz (.str (cutS s lo hi))) else none
  | .scr ns => some (ow (.lst ((cutL ns lo hi).map D.int)))
  | _ => none
def lenD : D → Option Int
  | .lst xs => some xs.length
  | .tup xs => some xs.length
  | .str s => if s.length ≤ sizeLine then some s.length else none
  | .dct kvs => some kvs.length
  | .scr ns => some ns.length
  | _ => none
/-- the sorted list where it is told by the first items, texts (rows that begin with different texts) -/
def leadD : D → Option Str
  | .tup (.str s :: _) => some s
  | _ => none
def leadsD : List D → Option (List Str)
  | [] => some []
  | d :: r => match leadD d, leadsD r with
    | some s, some ss => some (s :: ss)
    | _, _ => none
def ltS (a b : Str) : Bool := decide (a.cps.toList < b.cps.toList)
def insR {α : Type} (k : α → Str) (x : α) : List α → List α
  | [] => [x]
  | y :: r => if ltS (k y) (k x) then y :: insR k x r else x :: y :: r
/-- sorted by the order of texts k -/
def sortR {α : Type} (k : α → Str) : List α → List α
  | [] => []
  | x :: r => insR k x (sortR k r)
def leadK (d : D) : Str := (leadD d).getD Str.empty
def rkP : PyData → Nat
  | .int _ => 0
  | .str _ => 1
  | .tuple _ => 2
  | _ => 3
mutual
def trP : PyData → Bool
  | .int _ => true
  | .str _ => true
  | .tuple xs => trPs xs
  | _ => false
def trPs : List PyData → Bool
  | [] => true
  | x :: xs => trP x && trPs xs
end
mutual
def ltP : PyData → PyData → Bool
  | .int a, y => match y with
    | .int b => decide (a < b)
    | _ => decide (0 < rkP y)
  | .str a, y => match y with
    | .str b => ltS a b
    | _ => decide (1 < rkP y)
  | .tuple xs, y => match y with
    | .tuple ys => ltPs xs ys
    | _ => decide (2 < rkP y)
  | _, _ => false
def ltPs : List PyData → List PyData → Bool
  | [], ys => !ys.isEmpty
  | x :: xs, ys => match ys with
    | [] => false
    | y :: ys => if PyData.eqv x y then ltPs xs ys else ltP x y
end
mutual
/-- the two can be compared: the first items that differ are of one kind -/
def cpP : PyData → PyData → Bool
  | .int _, y => match y with
    | .int _ => true
    | _ => false
  | .str _, y => match y with
    | .str _ => true
    | _ => false
  | .tuple xs, y => match y with
    | .tuple ys => cpPs xs ys
    | _ => false
  | _, _ => false
def cpPs : List PyData → List PyData → Bool
  | [], _ => true
  | x :: xs, ys => match ys with
    | [] => true
    | y :: ys => if PyData.eqv x y then cpPs xs ys else cpP x y
end
def insT (x : D) : List D → List D
  | [] => [x]
  | y :: r => if ltP (py y) (py x) then y :: insT x r else x :: y :: r
/-- sorted by the order of nested tuples -/
def srtT : List D → List D
  | [] => []
  | x :: r => insT x (srtT r)
def rowP : PyData → Bool
  | .tuple (.str _ :: _) => true
  | _ => false
def rowOk (d : D) : Bool := rowP (py d) && trP (py d) && (py d).canLay0 && decide ((py d).depth ≤ 60)
def sortT (xs : List D) : Option (List D) := if xs.length ≤ 1000 ∧ xs.all rowOk = true ∧ (xs.all fun x => xs.all fun y => cpP (py x) (py y)) = true then some (srtT xs) else none
def sortG (xs : List D) : Option (List D) := match strsD xs with
  | some ss => if ss.length < 64 then some ((sortR id ss).map D.str) else none
  | none => match leadsD xs with
    | some ks => if ks.Nodup ∧ xs.length ≤ 1000 then some (sortR leadK xs) else sortT xs
    | none => none
def sortD (xs : List D) : Option (List D) :=
  match xs with
  | [] => some []
  | [x] => some [x]
  | [x, y] => match leadD x, leadD y with
    | some a, some b => if a = b then sortT [x, y] else if decide (b.cps.toList < a.cps.toList) then some [y, x] else some [x, y]
    | _, _ => sortG [x, y]
  | xs => sortG xs
def pairD : D → Option (Key × D)
  | .tup [k, v] => (keyD k).map fun x => (x, v)
  | _ => none
def pairsD : List D → Option (List (Key × D))
  | [] => some []
  | d :: r => match pairD d, pairsD r with
    | some p, some ps => some (p :: ps)
    | _, _ => none
def lstsD : List D → Option (List (List D))
  | [] => some []
  | .lst xs :: r => (lstsD r).map (xs :: ·)
  | _ :: _ => none
/-- how many different ones are among the first i -/
def cntT (xs : List Str) : Nat → Nat
  | 0 => 0
  | i + 1 => if (xs.take i).contains (xs.getD i Str.empty) then cntT xs i else cntT xs i + 1
def setN (xs : List D) : Option Rv := (strsD xs).bind fun ss => if ss.length ≤ 1000 then some (fz (.int (cntT ss ss.length))) else none
def pk : Key → PyData
  | .inl i => .int i
  | .inr s => .str s
mutual
/-- data with dicts, to be shown -/
def pz : D → PyData
  | .non => .none
  | .bl b => .bool b
  | .int i => .int i
  | .str s => .str s
  | .lst xs => .list (pzs xs)
  | .tup xs => .tuple (pzs xs)
  | .dct kvs => .dict (pzk kvs)
  | .fn _ => .none
  | .scr _ => .none
  | .er _ _ => .none
def pzs : List D → List PyData
  | [] => []
  | x :: xs => pz x :: pzs xs
def pzk : List (Key × D) → List (PyData × PyData)
  | [] => []
  | (k, d) :: r => (pk k, pz d) :: pzk r
end
mutual
def plnD : D → Bool
  | .non => true
  | .bl _ => true
  | .int _ => true
  | .str _ => true
  | .lst xs => plnDs xs
  | .tup xs => plnDs xs
  | .dct kvs => plnDk kvs
  | .fn _ => false
  | .scr _ => false
  | .er _ _ => false
def plnDs : List D → Bool
  | [] => true
  | x :: xs => plnD x && plnDs xs
def plnDk : List (Key × D) → Bool
  | [] => true
  | (_, d) :: r => plnD d && plnDk r
end
/-- lists, tuples and dicts with dicts within -/
def dspZ : D → Bool
  | .lst _ => true
  | .tup _ => true
  | .dct _ => true
  | _ => false
def reprZ (d : D) : Option Rv := if dspZ d = true ∧ plnD d = true ∧ (pz d).showable = true ∧ (pz d).shown.length ≤ sizeLine ∧ (pz d).depth ≤ 64 then some (fz (.str (pz d).shown)) else none
def dispD : D → Bool
  | .lst _ => true
  | .tup _ => true
  | _ => false
def reprD : D → Option Rv
  | .str s => if (reprText s).length ≤ sizeLine then some (fz (.str (reprText s))) else none
  | .int i => if i.natAbs.log2 < 1920 then some (fz (.str (Str.ofString (toString i)))) else none
  | .bl b => some (fz (.str (Str.ofString (if b then "True" else "False"))))
  | .non => some (fz (.str (Str.ofString "None")))
  | d => if dispD d = true ∧ (py d).showable = true ∧ (py d).hasDict = false ∧ (py d).shown.length ≤ sizeLine ∧ (py d).depth ≤ 64 then some (fz (.str (py d).shown)) else reprZ d
def biD : Bi → D → Option Rv
  | .len, d => (lenD d).map fun n => fz (.int n)
  | .all, .lst xs => (blsD xs).map fun bs => fz (.bl (bs.all id))
  | .any, .lst xs => (blsD xs).map fun bs => fz (.bl (bs.any id))
  | .list, .lst xs => some (ow (.lst xs))
  | .list, .tup xs => some (ow (.lst xs))
  | .list, .dct kvs => some (ow (.lst (kvs.map fun kv => kD kv.1)))
  | .tuple, .lst xs => some (fz (.tup xs))
  | .tuple, .tup xs => some (fz (.tup xs))
  | .sorted, .lst xs => (sortD xs).map fun ys => ow (.lst ys)
  | .sorted, .tup xs => (sortT xs).map fun ys => ow (.lst ys)
  | .int, .int i => some (fz (.int i))
  | .int, .bl b => some (fz (.int (if b then 1 else 0)))
  | .abs, .int i => some (fz (.int (if i < 0 then -i else i)))
  | .repr, d => reprD d
  | .dict, .dct kvs => some (ow (.dct kvs))
  | .dict, .lst xs => (pairsD xs).map fun kvs => ow (.dct (kvs.foldl (fun acc kv => putD acc kv.1 kv.2) []))
  | .set, .tup xs => setN xs
  | .sum, .lst xs => (lstsD xs).bind fun ls => if ls.flatten.length ≤ sizeLine then some (ow (.lst ls.flatten)) else none
  | .isInt, .int _ => some (fz (.bl true))
  | .isInt, .bl _ => some (fz (.bl true))
  | .isInt, .fn _ => none
  | .isInt, .scr _ => none
  | .isInt, .er _ _ => none
  | .isInt, _ => some (fz (.bl false))
  | .isBool, .bl _ => some (fz (.bl true))
  | .isBool, .fn _ => none
  | .isBool, .scr _ => none
  | .isBool, .er _ _ => none
  | .isBool, _ => some (fz (.bl false))
  | .isStr, .str _ => some (fz (.bl true))
  | .isStr, .fn _ => none
  | .isStr, .scr _ => none
  | .isStr, .er _ _ => none
  | .isStr, _ => some (fz (.bl false))
  | .isTuple, .tup _ => some (fz (.bl true))
  | .isTuple, .fn _ => none
  | .isTuple, .scr _ => none
  | .isTuple, .er _ _ => none
  | .isTuple, _ => some (fz (.bl false))
  | .isList, .lst _ => some (fz (.bl true))
  | .isList, .fn _ => none
  | .isList, .scr _ => none
  | .isList, .er _ _ => none
  | .isList, _ => some (fz (.bl false))
  | _, _ => none

/-! ### terms -/
mutual
inductive Tm where
  | var (i : Nat) | cst (d : D) | gl (i : Nat) | fnv (i : Nat)
  | bin (o : BOp) (a b : Tm) | neg (a : Tm) | notv (a : Tm)
  | cmp (o : COp) (a b : Tm) | isN (a : Tm) | isNN (a : Tm) | chain (o p : COp) (a b c : Tm)
  | andv (a b : Tm) | orv (a b : Tm) | ife (c : Ct) (a b : Tm)
  | idx (a b : Tm) | slc (a : Tm) (lo hi : To) | evn (a : Tm) (lo : To) | rev (a : Tm)
  | bi (f : Bi) (a : Tm) | join (s a : Tm) | dget (d k x : Tm) | zipl (a b : Tm)
  | gin (g : Nat) (a : Tm) | gidx (g : Nat) (a : Tm) | gdict (g : Nat)
  | tupd (es : Tms) | lstd (es : Tms) | dctd (ps : Tps)
  | call (f : Nat) (as : Tms) | callv (i : Nat) (as : Tms) | ncall (f : Nat) (as : Tms)
  | comp (e : Tm) (tg : List Nat) (one : Bool) (it : It) (c : To') (own : List Nat)
  | look (e : Tm) (tg : List Nat) (one : Bool) (i : Nat) (c : To') (own : List Nat)
  | dcomp (k v : Tm) (tg : List Nat) (one : Bool) (it : It) (own : List Nat)
  | mu (m : Mu) (i : Nat) (as : Tms) | min2 (a b : Tm) | dupd (i : Nat) (a : Tm)
  | mkx (c n m : Nat) (as : Tms) (ks : Tms) (pm : List Nat) | fld (a : Tm) (f : Str) | isx (a : Tm) (c : Nat)
inductive To where | no | yes (a : Tm)
inductive To' where | no | yes (c : Ct)
inductive Tms where | nil | cons (a : Tm) (r : Tms) | star (a : Tm) (r : Tms)
inductive Tps where | nil | cons (k v : Tm) (r : Tps)
inductive It where | seq (a : Tm) | rng1 (a : Tm) | rng2 (a b : Tm) | enum (a : Tm) | zip (a b : Tm)
inductive Ct where | val (a : Tm) | cmp (a : Tm) | and (a b : Ct) | or (a b : Ct) | not (a : Ct)
end
mutual
inductive Sm where
  | asg (i : Nat) (a : Tm) | unp (is : List Nat) (a : Tm) | par (is : List Nat) (es : Tms)
  | setk (i : Nat) (k v : Tm) | aug (i : Nat) (a : Tm)
  | ifs (c : Ct) (a b : Sms) | fors (tg : List Nat) (one : Bool) (it : It) (b : Sms) | whiles (c : Ct) (b : Sms)
  | ret (a : Tm) | retn | expr (a : Tm) | pass | brk | cont | rais (c : Nat) (as : Tms)
inductive Sms where | nil | cons (s : Sm) (r : Sms)
end
structure Fd where
  np : Nat
  nn : Nat
  keep : Nat
  star : Bool
  body : Sms

/-! ### the evaluator -/
abbrev Slot := Option Rv
abbrev Ev := List Slot
structure Exc where
  cls : Nat
  as : List D
inductive Out (α : Type) where
  | ok (a : α) (e : Ev) | exc (x : Exc) (e : Ev) | stuck
inductive COut where
  | ok (r : Rv) (outs : List Slot) | exc (x : Exc) (outs : List Slot) | stuck
inductive Flow' where
  | nx | brk | cont | ret (r : Rv)
inductive Opd where
  | v (r : Rv) | s (i : Nat)

def Out.bind {α β : Type} (o : Out α) (f : α → Ev → Out β) : Out β :=
  match o with
  | .ok a e => f a e
  | .exc x e => .exc x e
  | .stuck => .stuck
def lift {α : Type} (o : Option α) (e : Ev) : Out α :=
  match o with
  | some a => .ok a e
  | none => .stuck

def getS (env : Ev) (i : Nat) : Slot := (env[i]?).getD none
/-- the value of a name that goes somewhere: it is frozen -/
def readV (i : Nat) (env : Ev) : Out Rv :=
  match getS env i with
  | some (true, d) => .ok (fz d) (env.set i (some (fz d)))
  | some (false, d) => .ok (fz d) env
  | none => .stuck
/-- an operand: a name that owns is only looked at -/
def opd (t : Tm) (m : Ev → Out Rv) (env : Ev) : Out Opd :=
  match t with
  | .var i => match getS env i with
    | some (true, _) => .ok (.s i) env
    | some (false, d) => .ok (.v (fz d)) env
    | none => .stuck
  | _ => (m env).bind fun r e => .ok (.v r) e
def rdO (env : Ev) : Opd → Option D
  | .v r => some r.2
  | .s i => (getS env i).map (·.2)
def op1 (a : Tm) (ma : Ev → Out Rv) (f : D → Option Rv) (env : Ev) : Out Rv :=
  (opd a ma env).bind fun x e1 => match rdO e1 x with
    | some d => lift (f d) e1
    | none => .stuck
def op2 (a : Tm) (ma : Ev → Out Rv) (b : Tm) (mb : Ev → Out Rv) (f : D → D → Option Rv) (env : Ev) : Out Rv :=
  (opd a ma env).bind fun x e1 => (opd b mb e1).bind fun y e2 => match rdO e2 x, rdO e2 y with
    | some d, some d' => lift (f d d') e2
    | _, _ => .stuck
/-- the arguments as they are handed: own names are lent to the first keep parameters, frozen for the others -/
def lendAll (keep : Nat) : Nat → List Opd → Ev → Option (List Rv × Ev)
  | _, [], env => some ([], env)
  | j, .v r :: os, env => match lendAll keep (j + 1) os env with
    | some (rs, e) => some (r :: rs, e)
    | none => none
  | j, .s i :: os, env => match getS env i with
    | none => none
    | some (o, d) =>
      let r : Rv := (o && decide (j < keep), d)
      match lendAll keep (j + 1) os (env.set i (some r)) with
      | some (rs, e) => some (r :: rs, e)
      | none => none
def slotsOf : List Opd → List Nat
  | [] => []
  | .v _ :: r => slotsOf r
  | .s i :: r => i :: slotsOf r
def backOne (o : Opd) (r : Rv) (s : Slot) (env : Ev) : Ev :=
  match o, r.1 with
  | .s i, true => env.set i s
  | _, _ => env
def giveBack : List Opd → List Rv → List Slot → Ev → Ev
  | o :: os, r :: rs, s :: ss, env => giveBack os rs ss (backOne o r s env)
  | _, _, _, env => env
def wipeE (env : Ev) : List Nat → Ev
  | [] => env
  | i :: r => (wipeE env r).set i none
def restE (env old : Ev) : List Nat → Ev
  | [] => env
  | i :: r => (restE env old r).set i (getS old i)
def putE (keep i : Nat) (r : Rv) (env : Ev) : Option Ev := if keep ≤ i ∧ i < env.length then some (env.set i (some r)) else none
def putAll (keep : Nat) : List Nat → List D → Ev → Option Ev
  | [], [], env => some env
  | i :: is, d :: ds, env => match putE keep i (fz d) env with
    | some e => putAll keep is ds e
    | none => none
  | _, _, _ => none
/-- a loop's target: one name, or a row of names -/
def target (keep : Nat) (tg : List Nat) (one : Bool) (d : D) (env : Ev) : Option Ev :=
  match one, tg with
  | true, [i] => putE keep i (fz d) env
  | false, is => match d with
    | .tup ds => putAll keep is ds env
    | _ => none
  | _, _ => none
def compLoop (f : D → Ev → Out (Option D)) : List D → Ev → Out (List D)
  | [], env => .ok [] env
  | d :: ds, env => (f d env).bind fun o e1 => (compLoop f ds e1).bind fun r e2 => .ok (match o with | some y => y :: r | none => r) e2
def dcompLoop (f : D → Ev → Out (Key × D)) : List D → List (Key × D) → Ev → Out (List (Key × D))
  | [], acc, env => .ok acc env
  | d :: ds, acc, env => (f d env).bind fun o e1 => dcompLoop f ds (putD acc o.1 o.2) e1
def forLoop (f : D → Ev → Out Flow') : List D → Ev → Out Flow'
  | [], env => .ok .nx env
  | d :: ds, env => match f d env with
    | .ok .nx e => forLoop f ds e
    | .ok .cont e => forLoop f ds e
    | .ok .brk e => .ok .nx e
    | .ok (.ret r) e => .ok (.ret r) e
    | .exc x e => .exc x e
    | .stuck => .stuck
def whileLoop (c : Ev → Out Bool) (b : Ev → Out Flow') : Nat → Ev → Out Flow'
  | 0, _ => .stuck
  | n + 1, env => (c env).bind fun t e1 => if t then
      (match b e1 with
        | .ok .nx e => whileLoop c b n e
        | .ok .cont e => whileLoop c b n e
        | .ok .brk e => .ok .nx e
        | .ok (.ret r) e => .ok (.ret r) e
        | .exc x e => .exc x e
        | .stuck => .stuck)
    else .ok .nx e1
def itemsD : D → Option (List D)
  | .lst xs => some xs
  | .tup xs => some xs
  | .dct kvs => some (kvs.map fun kv => kD kv.1)
  | .str s => some (s.cps.toList.map fun c => .str ⟨#[c]⟩)
  | .scr ns => some (ns.map D.int)
  | _ => none
def enumD (i : Nat) : List D → List D
  | [] => []
  | d :: ds => .tup [.int i, d] :: enumD (i + 1) ds
def zipD : List D → List D → List D
  | x :: xs, y :: ys => .tup [x, y] :: zipD xs ys
  | _, _ => []
def seqD : D → Option (List D)
  | .lst xs => some xs
  | .tup xs => some xs
  | _ => none
def rngD (lo : Int) (n : Nat) : List D := (List.range n).map fun (i : Nat) => .int (lo + (i : Int))
def rngOk (i : Int) : Bool := decide (-(2 ^ 62) ≤ i) && decide (i < 2 ^ 62)

mutual
/-- data without lists and dicts -/
def pureD : D → Bool
  | .non => true
  | .bl _ => true
  | .int _ => true
  | .str _ => true
  | .tup ds => pureDs ds
  | _ => false
def pureDs : List D → Bool
  | [] => true
  | d :: r => pureD d && pureDs r
end
/-- arguments that are frozen, and have no lists -/
def frzs : List Opd → Option (List Rv)
  | [] => some []
  | .v (false, d) :: r => if pureD d then (frzs r).map (fz d :: ·) else none
  | _ :: _ => none

/-- keywords' values, in the fields' order -/
def kwD (pm : List Nat) (ws : List D) : List D := pm.filterMap (ws[·]?)
def isxD (isa : Nat → Nat → Option Bool) (c : Nat) : D → Option Rv
  | .er k _ => (isa k c).map fun b => fz (.bl b)
  | _ => none
def fldD (f : Str) : D → Option Rv
  | .er _ fs => (fs.lookup f).map fz
  | _ => none
structure Pg where
  gc : List D
  gd : List (List (Key × D))
  keeps : Nat → Nat
  /-- the errors' fields; of which classes they are -/
  ec : Nat → Option (List Str) := fun _ => none
  isa : Nat → Nat → Option Bool := fun _ _ => none

def muD (m : Mu) (xs as : List D) : Option (D × List D) :=
  match m, as with
  | .append, [d] => if xs.length < sizeLine then some (.non, xs ++ [d]) else none
  | .extend, [.lst ys] => if xs.length + ys.length ≤ sizeLine then some (.non, xs ++ ys) else none
  | .extend, [.tup ys] => if xs.length + ys.length ≤ sizeLine then some (.non, xs ++ ys) else none
  | .pop, [] => match xs[xs.length - 1]? with
    | some y => some (y, xs.dropLast)
    | none => none
  | .popAt, [.int i] => if xs.length ≤ sizeLine then
      match ixN xs.length i with
      | some k => match xs[k]? with
        | some y => some (y, xs.eraseIdx k)
        | none => none
      | none => none
    else none
  | .clear, [] => some (.non, [])
  | _, _ => none

section
variable (pg : Pg) (cf : Nat → List Rv → COut) (keep : Nat)

def doCall (f : Nat) (os : List Opd) (env : Ev) : Out Rv :=
  if (slotsOf os).Nodup then
    match lendAll (pg.keeps f) 0 os env with
    | none => .stuck
    | some (rs, e) => match cf f rs with
      | .ok r outs => .ok r (giveBack os rs outs e)
      | .exc x outs => .exc x (giveBack os rs outs e)
      | .stuck => .stuck
  else .stuck

mutual
def evE : Tm → Ev → Out Rv
  | .var i, env => readV i env
  | .cst d, env => .ok (fz d) env
  | .gl i, env => lift ((pg.gc[i]?).map fz) env
  | .fnv i, env => .ok (fz (.fn i)) env
  | .bin o a b, env => op2 a (evE a) b (evE b) (binD o) env
  | .neg a, env => op1 a (evE a) (fun d => match d with | .int i => some (fz (.int (-i))) | _ => none) env
  | .notv a, env => op1 a (evE a) (fun d => (truD d).map fun k => fz (.bl (!k))) env
  | .cmp o a b, env => op2 a (evE a) b (evE b) (fun x y => (cmpD o x y).map fun k => fz (.bl k)) env
  | .isN a, env => op1 a (evE a) (fun d => some (fz (.bl (match d with | .non => true | _ => false)))) env
  | .isNN a, env => op1 a (evE a) (fun d => some (fz (.bl (match d with | .non => false | _ => true)))) env
  | .chain o p a b c, env => (opd a (evE a) env).bind fun x e1 => (opd b (evE b) e1).bind fun y e2 => match rdO e2 x, rdO e2 y with
    | some d, some d' => match cmpD o d d' with
      | some true => (opd c (evE c) e2).bind fun z e3 => match rdO e3 y, rdO e3 z with
        | some u, some u' => lift ((cmpD p u u').map fun k => fz (.bl k)) e3
        | _, _ => .stuck
      | some false => .ok (fz (.bl false)) e2
      | none => .stuck
    | _, _ => .stuck
  | .andv a b, env => (evE a env).bind fun r e1 => match truD r.2 with
    | some true => evE b e1
    | some false => .ok r e1
    | none => .stuck
  | .orv a b, env => (evE a env).bind fun r e1 => match truD r.2 with
    | some true => .ok r e1
    | some false => evE b e1
    | none => .stuck
  | .ife c a b, env => (evC c env).bind fun t e1 => if t then evE a e1 else evE b e1
  | .idx a b, env => op2 a (evE a) b (evE b) (fun x y => (idxD x y).map fz) env
  | .slc a lo hi, env => (opd a (evE a) env).bind fun x e1 => (evTo lo e1).bind fun l e2 => (evTo hi e2).bind fun h e3 => match rdO e3 x with
    | some d => lift (slcD l h d) e3
    | none => .stuck
  | .evn a lo, env => (opd a (evE a) env).bind fun x e1 => (evTo lo e1).bind fun l e2 => match rdO e2 x with
    | some (.lst xs) => lift (match l with
      | none => some (ow (.lst (evens xs)))
      | some 1 => some (ow (.lst (evens (xs.drop 1))))
      | _ => none) e2
    | _ => .stuck
  | .rev a, env => op1 a (evE a) (fun d => match d with | .lst xs => some (ow (.lst xs.reverse)) | _ => none) env
  | .bi f a, env => op1 a (evE a) (biD f) env
  | .join s a, env => (evE s env).bind fun x e1 => match x.2 with
    | .str z => op1 a (evE a) (fun y => match y with
      | .lst ys => (strsD ys).bind fun ss => if (ss.map (·.length)).sum + ss.length * z.length ≤ 16777216 then some (fz (.str (Txt.join z ss))) else none
      | _ => none) e1
    | _ => .stuck
  | .dget d k x, env => (opd d (evE d) env).bind fun x1 e1 => match rdO e1 x1 with
    | some (.dct _) => (opd k (evE k) e1).bind fun y e2 => (evE x e2).bind fun z e3 => match rdO e3 x1, rdO e3 y with
      | some (.dct kvs), some u => match keyD u with
        | some key => .ok (fz ((valD kvs key).getD z.2)) e3
        | none => .stuck
      | _, _ => .stuck
    | _ => .stuck
  | .zipl a b, env => op2 a (evE a) b (evE b) (fun x y => match x, y with
    | .lst xs, .lst ys => some (ow (.lst (zipD xs ys)))
    | .tup xs, .tup ys => some (ow (.lst (zipD xs ys)))
    | _, _ => none) env
  | .gin g a, env => op1 a (evE a) (fun d => match d, pg.gd[g]? with
    | .str s, some kvs => some (fz (.bl (valD kvs (.inr s)).isSome))
    | _, _ => none) env
  | .gidx g a, env => op1 a (evE a) (fun d => match d, pg.gd[g]? with
    | .str s, some kvs => (valD kvs (.inr s)).map fz
    | _, _ => none) env
  | .gdict g, env => lift ((pg.gd[g]?).map fun kvs => ow (.dct kvs)) env
  | .tupd es, env => (evF es env).bind fun ds e1 => if ds.length ≤ sizeLine then .ok (fz (.tup ds)) e1 else .stuck
  | .lstd es, env => (evF es env).bind fun ds e1 => if ds.length ≤ sizeLine then .ok (ow (.lst ds)) e1 else .stuck
  | .dctd ps, env => (evP ps env).bind fun kvs e1 => if kvs.length ≤ 15 then .ok (ow (.dct (kvs.foldl (fun acc kv => putD acc kv.1 kv.2) []))) e1 else .stuck
  | .call f as, env => (evA as env).bind fun os e1 => doCall pg cf f os e1
  | .callv i as, env => match getS env i with
    | some (false, .fn f) => (evA as env).bind fun os e1 => doCall pg cf f os e1
    | _ => .stuck
  | .ncall f as, env => (evA as env).bind fun os e1 => match frzs os with
    | some rs => match cf f rs with
      | .ok (false, .lst ds) _ => if pureDs ds then .ok (ow (.lst ds)) e1 else .stuck
      | _ => .stuck
    | none => .stuck
  | .comp e tg one it c own, env => (evI it env).bind fun items e1 =>
      if items.length ≤ sizeLine ∧ tg.all own.contains = true then
        (compLoop (fun d en => match target keep tg one d en with
          | none => .stuck
          | some en1 => (evTc c en1).bind fun t en2 => if t then (evE e en2).bind fun r en3 => .ok (some r.2) (wipeE en3 own) else .ok none (wipeE en2 own)) items (wipeE e1 own)).bind fun r e2 =>
        .ok (ow (.lst r)) (restE e2 e1 own)
      else .stuck
  | .look e tg one i c own, env => match getS env i with
    | some (true, .lst items) =>
      if items.length ≤ sizeLine ∧ tg.all own.contains = true ∧ own.contains i = false then
        (compLoop (fun d en => match target keep tg one d en with
          | none => .stuck
          | some en1 => (evTc c en1).bind fun t en2 => if t then (evE e en2).bind fun r en3 => .ok (some r.2) (wipeE en3 own) else .ok none (wipeE en2 own)) items (wipeE (env.set i none) own)).bind fun r e2 =>
        .ok (ow (.lst r)) ((restE e2 (env.set i none) own).set i (some (true, .lst items)))
      else .stuck
    | _ => .stuck
  | .dcomp k v tg one it own, env => (evI it env).bind fun items e1 =>
      if items.length ≤ sizeLine ∧ tg.all own.contains = true then
        (dcompLoop (fun d en => match target keep tg one d en with
          | none => .stuck
          | some en1 => (evE k en1).bind fun r en2 => (evE v en2).bind fun r' en3 => match keyD r.2 with
            | some key => .ok (key, r'.2) (wipeE en3 own)
            | none => .stuck) items [] (wipeE e1 own)).bind fun r e2 =>
        .ok (ow (.dct r)) (restE e2 e1 own)
      else .stuck
  | .mu m i as, env => match getS env i with
    | some (true, .lst _) => (evF as env).bind fun ds e1 => match getS e1 i with
      | some (true, .lst xs) => match muD m xs ds with
        | some (d, ys) => .ok (fz d) (e1.set i (some (ow (.lst ys))))
        | none => .stuck
      | _ => .stuck
    | _ => .stuck
  | .min2 a b, env => op2 a (evE a) b (evE b) (fun x y => match x, y with
    | .int i, .int j => some (fz (.int (if j < i then j else i)))
    | _, _ => none) env
  | .dupd i a, env => match getS env i with
    | some (true, .dct _) => (evE a env).bind fun r e1 => match getS e1 i, r.2 with
      | some (true, .dct kvs), .dct more => if kvs.length + more.length ≤ sizeLine then .ok (fz .non) (e1.set i (some (ow (.dct (more.foldl (fun acc kv => putD acc kv.1 kv.2) kvs))))) else .stuck
      | _, _ => .stuck
    | _ => .stuck
  | .mkx c n m es ks pm, env => (evF es env).bind fun ds e1 => (evF ks e1).bind fun zs e2 => match pg.ec c with
    | some fs => if ds.length = n ∧ zs.length = m ∧ (ds ++ kwD pm zs).length = fs.length then .ok (fz (.er c (fs.zip (ds ++ kwD pm zs)).reverse)) e2 else .stuck
    | none => .stuck
  | .fld a f, env => op1 a (evE a) (fldD f) env
  | .isx a c, env => op1 a (evE a) (isxD pg.isa c) env
/-- items of a display: frozen -/
def evF : Tms → Ev → Out (List D)
  | .nil, env => .ok [] env
  | .cons a r, env => (evE a env).bind fun x e1 => (evF r e1).bind fun xs e2 => .ok (x.2 :: xs) e2
  | .star a r, env => (evE a env).bind fun x e1 => match seqD x.2 with
    | some ys => (evF r e1).bind fun xs e2 => .ok (ys ++ xs) e2
    | none => .stuck
/-- arguments -/
def evA : Tms → Ev → Out (List Opd)
  | .nil, env => .ok [] env
  | .cons a r, env => (opd a (evE a) env).bind fun x e1 => (evA r e1).bind fun xs e2 => .ok (x :: xs) e2
  | .star _ _, _ => .stuck
def evP : Tps → Ev → Out (List (Key × D))
  | .nil, env => .ok [] env
  | .cons k v r, env => (evE k env).bind fun x e1 => (evE v e1).bind fun y e2 => match keyD x.2 with
    | some key => (evP r e2).bind fun xs e3 => .ok ((key, y.2) :: xs) e3
    | none => .stuck
def evTo : To → Ev → Out (Option Int)
  | .no, env => .ok none env
  | .yes a, env => (evE a env).bind fun r e1 => match r.2 with
    | .int i => .ok (some i) e1
    | _ => .stuck
def evTc : To' → Ev → Out Bool
  | .no, env => .ok true env
  | .yes c, env => evC c env
def evI : It → Ev → Out (List D)
  | .seq a, env => (evE a env).bind fun r e1 => lift (itemsD r.2) e1
  | .rng1 a, env => (evE a env).bind fun r e1 => match r.2 with
    | .int n => if rngOk n then .ok (rngD 0 n.toNat) e1 else .stuck
    | _ => .stuck
  | .rng2 a b, env => (evE a env).bind fun r e1 => (evE b e1).bind fun r' e2 => match r.2, r'.2 with
    | .int i, .int j => if rngOk i && rngOk j then .ok (rngD i (j - i).toNat) e2 else .stuck
    | _, _ => .stuck
  | .enum a, env => (evE a env).bind fun r e1 => match seqD r.2 with
    | some xs => .ok (enumD 0 xs) e1
    | none => .stuck
  | .zip a b, env => (evE a env).bind fun r e1 => (evE b e1).bind fun r' e2 => match r.2, r'.2 with
    | .lst xs, .lst ys => .ok (zipD xs ys) e2
    | .tup xs, .tup ys => .ok (zipD xs ys) e2
    | _, _ => .stuck
def evC : Ct → Ev → Out Bool
  | .val a, env => (opd a (evE a) env).bind fun x e1 => match (rdO e1 x).bind truD with
    | some k => .ok k e1
    | none => .stuck
  | .cmp a, env => (evE a env).bind fun r e1 => match r.2 with
    | .bl k => .ok k e1
    | _ => .stuck
  | .and a b, env => (evC a env).bind fun t e1 => if t then evC b e1 else .ok false e1
  | .or a b, env => (evC a env).bind fun t e1 => if t then .ok true e1 else evC b e1
  | .not a, env => (evC a env).bind fun t e1 => .ok (!t) e1
end
/-- the right sides of a, b = e, e': each keeps what it owns -/
def evR : Tms → Ev → Out (List Rv)
  | .nil, env => .ok [] env
  | .cons a r, env => (evE pg cf keep a env).bind fun x e1 => (evR r e1).bind fun xs e2 => .ok (x :: xs) e2
  | .star _ _, _ => .stuck
def putRs : List Nat → List Rv → Ev → Option Ev
  | [], [], env => some env
  | i :: is, r :: rs, env => match putE keep i r env with
    | some e => putRs is rs e
    | none => none
  | _, _, _ => none
mutual
def exS (wf : Nat) : Sm → Ev → Out Flow'
  | .asg i a, env => (evE pg cf keep a env).bind fun r e1 => (lift (putE keep i r e1) e1).bind fun e2 _ => .ok .nx e2
  | .unp is a, env => (evE pg cf keep a env).bind fun r e1 => (lift (target keep is false r.2 e1) e1).bind fun e2 _ => .ok .nx e2
  | .par is es, env => (evR pg cf keep es env).bind fun rs e1 => (lift (putRs keep is rs e1) e1).bind fun e2 _ => .ok .nx e2
  | .setk i k v, env => (evE pg cf keep v env).bind fun x e1 => match getS e1 i with
    | some (true, .dct _) => (opd k (evE pg cf keep k) e1).bind fun y e2 => match getS e2 i, (rdO e2 y).bind keyD with
      | some (true, .dct kvs), some key => if kvs.length < sizeLine then .ok .nx (e2.set i (some (ow (.dct (putD kvs key x.2))))) else .stuck
      | _, _ => .stuck
    | _ => .stuck
  | .aug i a, env => match getS env i with
    | some (false, .int m) => (evE pg cf keep a env).bind fun x e1 => match x.2 with
      | .int n => (lift (putE keep i (fz (.int (m + n))) e1) e1).bind fun e2 _ => .ok .nx e2
      | _ => .stuck
    | _ => .stuck
  | .ifs c a b, env => (evC pg cf keep c env).bind fun t e1 => if t then exSs wf a e1 else exSs wf b e1
  | .fors tg one it b, env => (evI pg cf keep it env).bind fun items e1 =>
      forLoop (fun d en => match target keep tg one d en with
        | none => .stuck
        | some en1 => exSs wf b en1) items e1
  | .whiles c b, env => whileLoop (evC pg cf keep c) (exSs wf b) wf env
  | .ret a, env => match a with
    | .var i => match getS env i with
      | some (true, d) => if keep ≤ i then .ok (.ret (ow d)) env else .ok (.ret (fz d)) (env.set i (some (fz d)))
      | some (false, d) => .ok (.ret (fz d)) env
      | none => .stuck
    | _ => (evE pg cf keep a env).bind fun r e1 => .ok (.ret r) e1
  | .retn, env => .ok (.ret (fz .non)) env
  | .expr a, env => (evE pg cf keep a env).bind fun _ e1 => .ok .nx e1
  | .pass, env => .ok .nx env
  | .brk, env => .ok .brk env
  | .cont, env => .ok .cont env
  | .rais c as, env => (evF pg cf keep as env).bind fun ds e1 => .exc ⟨c, ds⟩ e1
def exSs (wf : Nat) : Sms → Ev → Out Flow'
  | .nil, env => .ok .nx env
  | .cons s r, env => match exS wf s env with
    | .ok .nx e => exSs wf r e
    | .ok f e => .ok f e
    | .exc x e => .exc x e
    | .stuck => .stuck
end
end

/-- the arguments of a def with *rest: the further ones in a tuple -/
def packR (star : Bool) (np : Nat) (rs : List Rv) : List Rv := if star then rs.take (np - 1) ++ [fz (.tup ((rs.drop (np - 1)).map (·.2)))] else rs
/-- further arguments are frozen -/
def starOk (d : Fd) (rs : List Rv) : Bool := !d.star || ((rs.drop (d.np - 1)).all (fun r => !r.1) && decide (d.keep ≤ d.np - 1))
/-- a call of the f-th def, at most k calls deep -/
def callF (pg : Pg) (ft : Nat → Option Fd) (wf : Nat) : Nat → Nat → List Rv → COut
  | 0, _, _ => .stuck
  | k + 1, f, rs => match ft f with
    | none => .stuck
    | some d =>
      if (packR d.star d.np rs).length = d.np ∧ rs.length ≤ sizeLine ∧ starOk d rs = true then
        match exSs pg (callF pg ft wf k) d.keep wf d.body ((packR d.star d.np rs).map some ++ List.replicate (d.nn - d.np) none) with
        | .ok (.ret r) e => .ok r (e.take d.np)
        | .ok .nx e => .ok (fz .non) (e.take d.np)
        | .ok _ _ => .stuck
        | .exc x e => .exc x (e.take d.np)
        | .stuck => .stuck
      else .stuck
end Ev
/-! So: sorting by texts, plain. -/
namespace Ev
open PySem L2
theorem cps_eq {a b : Str} (h : a.cps.toList = b.cps.toList) : a = b := by
  cases a; cases b
  congr
  exact Array.toList_inj.mp h
theorem ltS_asym {a b : Str} (h : ltS a b = true) : ltS b a = false := decide_eq_false (List.lt_asymm (of_decide_eq_true h))
theorem ltS_anti {a b : Str} (h : ltS a b = false) (h' : ltS b a = false) : a = b :=
  cps_eq (List.le_antisymm (List.not_lt.mp (of_decide_eq_false h')) (List.not_lt.mp (of_decide_eq_false h)))
theorem ltS_tr {a b c : Str} (h : ltS b a = false) (h' : ltS c b = false) : ltS c a = false := by
  have h1 : a.cps.toList ≤ b.cps.toList := List.not_lt.mp (of_decide_eq_false h)
  have h2 : b.cps.toList ≤ c.cps.toList := List.not_lt.mp (of_decide_eq_false h')
  exact decide_eq_false (List.not_lt.mpr (List.le_trans h1 h2))
section
variable {α : Type} {k : α → Str}
theorem insR_perm (x : α) : ∀ l : List α, (insR k x l).Perm (x :: l)
  | [] => .refl _
  | y :: r => by
    unfold insR
    split
    · exact ((insR_perm x r).cons y).trans (.swap x y r)
    · exact .refl _
theorem sortR_perm : ∀ l : List α, (sortR k l).Perm l
  | [] => .refl _
  | x :: r => (insR_perm x _).trans ((sortR_perm r).cons x)
theorem insR_le {x : α} : ∀ {l : List α}, l.Pairwise (fun a b => ltS (k b) (k a) = false) → (insR k x l).Pairwise (fun a b => ltS (k b) (k a) = false)
  | [], _ => List.pairwise_singleton _ _
  | y :: r, h => by
    obtain ⟨h1, h2⟩ := List.pairwise_cons.mp h
    unfold insR
    split
    · rename_i c
      refine List.pairwise_cons.mpr ⟨fun z hz => ?_, insR_le h2⟩
      rcases List.mem_cons.mp ((insR_perm x r).mem_iff.mp hz) with rfl | hz
      · exact ltS_asym c
      · exact h1 z hz
    · rename_i c
      have c : ltS (k y) (k x) = false := by simpa using c
      refine List.pairwise_cons.mpr ⟨fun z hz => ?_, h⟩
      rcases List.mem_cons.mp hz with rfl | hz
      · exact c
      · exact ltS_tr c (h1 z hz)
theorem sortR_le : ∀ l : List α, (sortR k l).Pairwise (fun a b => ltS (k b) (k a) = false)
  | [] => List.Pairwise.nil
  | x :: r => insR_le (sortR_le r)
/-- what is sorted by keys that differ is this -/
theorem sortR_uniq {l out : List α} (p : out.Perm l) (inj : ∀ a ∈ l, ∀ b ∈ l, k a = k b → a = b) (h : out.Pairwise (fun a b => ltS (k b) (k a) = false)) : out = sortR k l :=
  List.Perm.eq_of_pairwise (fun a b ha hb h1 h2 => inj a (p.mem_iff.mp ha) b ((sortR_perm l).mem_iff.mp hb) (ltS_anti h2 h1)) h (sortR_le l) (p.trans (sortR_perm l).symm)
theorem insR_map {β : Type} {f : β → α} (x : β) : ∀ l : List β, (insR (fun b => k (f b)) x l).map f = insR k (f x) (l.map f)
  | [] => rfl
  | y :: r => by
    unfold insR
    rw [List.map_cons]
    dsimp only
    split
    · rw [List.map_cons, insR_map x r]
    · rfl
theorem sortR_map {β : Type} {f : β → α} : ∀ l : List β, (sortR (fun b => k (f b)) l).map f = sortR k (l.map f)
  | [] => rfl
  | x :: r => by
    rw [List.map_cons, sortR, sortR, insR_map, sortR_map r]
end
end Ev
set_option maxHeartbeats 2000000
/-! Od: the order of nested tuples of whole numbers and texts (own work). -/
namespace Ev
open PySem L2
theorem cps_flip2 {x y : Str} (h : x ≠ y) (h1 : ltS x y = false) : ltS y x = true := by
  cases e : ltS y x with
  | true => rfl
  | false => exact absurd (ltS_anti h1 e) h
theorem trPs_cons {x : PyData} {xs : List PyData} (h : trPs (x :: xs) = true) : trP x = true ∧ trPs xs = true := by
  rw [trPs, Bool.and_eq_true] at h
  exact h
theorem tr_cases {x : PyData} (h : trP x = true) : (∃ i, x = .int i) ∨ (∃ s, x = .str s) ∨ ∃ xs, x = .tuple xs ∧ trPs xs = true := by
  cases x with
  | int i => exact .inl ⟨i, rfl⟩
  | str s => exact .inr (.inl ⟨s, rfl⟩)
  | tuple xs => rw [trP] at h; exact .inr (.inr ⟨xs, rfl, h⟩)
  | _ => rw [trP] at h <;> first | cases h | nofun
mutual
theorem eqv_eq : ∀ (x y : PyData), trP x = true → trP y = true → (PyData.eqv x y = true ↔ x = y)
  | .int a, y, _, hy => by
    rcases tr_cases hy with ⟨b, rfl⟩ | ⟨b, rfl⟩ | ⟨b, rfl, _⟩ <;> simp [PyData.eqv]
  | .str a, y, _, hy => by
    rcases tr_cases hy with ⟨b, rfl⟩ | ⟨b, rfl⟩ | ⟨b, rfl, _⟩ <;> simp [PyData.eqv]
  | .tuple xs, y, hx, hy => by
    rw [trP] at hx
    rcases tr_cases hy with ⟨b, rfl⟩ | ⟨b, rfl⟩ | ⟨ys, rfl, hy⟩
    · simp [PyData.eqv]
    · simp [PyData.eqv]
    · have := eqvAll_eq xs ys hx hy
      rw [PyData.eqv, this]
      simp
  | .none, _, hx, _ => by rw [trP] at hx <;> first | cases hx | nofun
  | .bool _, _, hx, _ => by rw [trP] at hx <;> first | cases hx | nofun
  | .list _, _, hx, _ => by rw [trP] at hx <;> first | cases hx | nofun
  | .dict _, _, hx, _ => by rw [trP] at hx <;> first | cases hx | nofun
theorem eqvAll_eq : ∀ (xs ys : List PyData), trPs xs = true → trPs ys = true → (PyData.eqvAll xs ys = true ↔ xs = ys)
  | [], [], _, _ => by simp [PyData.eqvAll]
  | [], _ :: _, _, _ => by simp [PyData.eqvAll]
  | _ :: _, [], _, _ => by simp [PyData.eqvAll]
  | x :: xs, y :: ys, hx, hy => by
    have h1 := eqv_eq x y (trPs_cons hx).1 (trPs_cons hy).1
    have h2 := eqvAll_eq xs ys (trPs_cons hx).2 (trPs_cons hy).2
    rw [PyData.eqvAll, Bool.and_eq_true, h1, h2]
    simp
end
open Classical in
theorem ltPs_cons {x y : PyData} {xs ys : List PyData} (hx : trP x = true) (hy : trP y = true) : ltPs (x :: xs) (y :: ys) = if x = y then ltPs xs ys else ltP x y := by
  rw [ltPs]
  split
  · rename_i h
    rw [if_pos ((eqv_eq x y hx hy).mp h)]
  · rename_i h
    rw [if_neg (fun e => h ((eqv_eq x y hx hy).mpr e))]
theorem ltS_irr (a : Str) : ltS a a = false := decide_eq_false (List.lt_irrefl _)
mutual
theorem ltP_irr : ∀ x : PyData, trP x = true → ltP x x = false
  | .int a, _ => by rw [ltP]; exact decide_eq_false (Int.lt_irrefl _)
  | .str a, _ => by rw [ltP]; exact ltS_irr a
  | .tuple xs, h => by rw [trP] at h; rw [ltP]; exact ltPs_irr xs h
  | .none, hx => by rw [trP] at hx <;> first | cases hx | nofun
  | .bool _, hx => by rw [trP] at hx <;> first | cases hx | nofun
  | .list _, hx => by rw [trP] at hx <;> first | cases hx | nofun
  | .dict _, hx => by rw [trP] at hx <;> first | cases hx | nofun
theorem ltPs_irr : ∀ xs : List PyData, trPs xs = true → ltPs xs xs = false
  | [], _ => by rw [ltPs]; rfl
  | x :: xs, h => by
    have h := trPs_cons h
    rw [ltPs_cons h.1 h.1, if_pos rfl]
    exact ltPs_irr xs h.2
end
mutual
theorem ltP_tri : ∀ x y : PyData, trP x = true → trP y = true → ltP x y = true ∨ x = y ∨ ltP y x = true
  | .int a, y, _, hy => by
    rcases tr_cases hy with ⟨b, rfl⟩ | ⟨b, rfl⟩ | ⟨b, rfl, _⟩
    · rw [ltP, ltP]
      rcases Int.lt_trichotomy a b with h | h | h
      · exact .inl (decide_eq_true h)
      · exact .inr (.inl (by rw [h]))
      · exact .inr (.inr (decide_eq_true h))
    · exact .inl (by simp [ltP, rkP])
    · exact .inl (by simp [ltP, rkP])
  | .str a, y, _, hy => by
    rcases tr_cases hy with ⟨b, rfl⟩ | ⟨b, rfl⟩ | ⟨b, rfl, _⟩
    · exact .inr (.inr (by simp [ltP, rkP]))
    · rw [ltP, ltP]
      by_cases e : a = b
      · exact .inr (.inl (by rw [e]))
      · cases h : ltS a b with
        | true => exact .inl rfl
        | false => exact .inr (.inr (cps_flip2 e h))
    · exact .inl (by simp [ltP, rkP])
  | .tuple xs, y, hx, hy => by
    rw [trP] at hx
    rcases tr_cases hy with ⟨b, rfl⟩ | ⟨b, rfl⟩ | ⟨ys, rfl, hy⟩
    · exact .inr (.inr (by simp [ltP, rkP]))
    · exact .inr (.inr (by simp [ltP, rkP]))
    · rw [ltP, ltP]
      rcases ltPs_tri xs ys hx hy with h | h | h
      · exact .inl h
      · exact .inr (.inl (by rw [h]))
      · exact .inr (.inr h)
  | .none, _, hx, _ => by rw [trP] at hx <;> first | cases hx | nofun
  | .bool _, _, hx, _ => by rw [trP] at hx <;> first | cases hx | nofun
  | .list _, _, hx, _ => by rw [trP] at hx <;> first | cases hx | nofun
  | .dict _, _, hx, _ => by rw [trP] at hx <;> first | cases hx | nofun
theorem ltPs_tri : ∀ xs ys : List PyData, trPs xs = true → trPs ys = true → ltPs xs ys = true ∨ xs = ys ∨ ltPs ys xs = true
  | [], [], _, _ => .inr (.inl rfl)
  | [], _ :: _, _, _ => .inl (by rw [ltPs]; rfl)
  | _ :: _, [], _, _ => .inr (.inr (by rw [ltPs]; rfl))
  | x :: xs, y :: ys, hx, hy => by
    have hx := trPs_cons hx
    have hy := trPs_cons hy
    rw [ltPs_cons hx.1 hy.1, ltPs_cons hy.1 hx.1]
    by_cases e : x = y
    · subst e
      rw [if_pos rfl, if_pos rfl]
      rcases ltPs_tri xs ys hx.2 hy.2 with h | h | h
      · exact .inl h
      · exact .inr (.inl (by rw [h]))
      · exact .inr (.inr h)
    · rw [if_neg e, if_neg (Ne.symm e)]
      rcases ltP_tri x y hx.1 hy.1 with h | h | h
      · exact .inl h
      · exact absurd h e
      · exact .inr (.inr h)
end
theorem ltS_trans' {a b c : Str} (h : ltS a b = true) (h' : ltS b c = true) : ltS a c = true :=
  decide_eq_true (List.lt_trans (of_decide_eq_true h) (of_decide_eq_true h'))
mutual
theorem ltP_trans : ∀ x y z : PyData, trP x = true → trP y = true → trP z = true → ltP x y = true → ltP y z = true → ltP x z = true
  | .int a, y, z, _, hy, hz, h, h' => by
    rcases tr_cases hz with ⟨c, rfl⟩ | ⟨c, rfl⟩ | ⟨c, rfl, _⟩
    · rcases tr_cases hy with ⟨b, rfl⟩ | ⟨b, rfl⟩ | ⟨b, rfl, _⟩
      · rw [ltP] at h h' ⊢
        exact decide_eq_true (Int.lt_trans (of_decide_eq_true h) (of_decide_eq_true h'))
      · simp [ltP, rkP] at h'
      · simp [ltP, rkP] at h'
    · simp [ltP, rkP]
    · simp [ltP, rkP]
  | .str a, y, z, _, hy, hz, h, h' => by
    rcases tr_cases hz with ⟨c, rfl⟩ | ⟨c, rfl⟩ | ⟨c, rfl, _⟩
    · rcases tr_cases hy with ⟨b, rfl⟩ | ⟨b, rfl⟩ | ⟨b, rfl, _⟩
      · simp [ltP, rkP] at h
      · simp [ltP, rkP] at h'
      · simp [ltP, rkP] at h'
    · rcases tr_cases hy with ⟨b, rfl⟩ | ⟨b, rfl⟩ | ⟨b, rfl, _⟩
      · simp [ltP, rkP] at h
      · rw [ltP] at h h' ⊢
        exact ltS_trans' h h'
      · simp [ltP, rkP] at h'
    · simp [ltP, rkP]
  | .tuple xs, y, z, hx, hy, hz, h, h' => by
    rw [trP] at hx
    rcases tr_cases hz with ⟨c, rfl⟩ | ⟨c, rfl⟩ | ⟨zs, rfl, hz⟩
    · rcases tr_cases hy with ⟨b, rfl⟩ | ⟨b, rfl⟩ | ⟨b, rfl, _⟩
      · simp [ltP, rkP] at h
      · simp [ltP, rkP] at h
      · simp [ltP, rkP] at h'
    · rcases tr_cases hy with ⟨b, rfl⟩ | ⟨b, rfl⟩ | ⟨b, rfl, _⟩
      · simp [ltP, rkP] at h
      · simp [ltP, rkP] at h
      · simp [ltP, rkP] at h'
    · rcases tr_cases hy with ⟨b, rfl⟩ | ⟨b, rfl⟩ | ⟨ys, rfl, hy⟩
      · simp [ltP, rkP] at h
      · simp [ltP, rkP] at h
      · rw [ltP] at h h' ⊢
        exact ltPs_trans xs ys zs hx hy hz h h'
  | .none, _, _, hx, _, _, _, _ => by rw [trP] at hx <;> first | cases hx | nofun
  | .bool _, _, _, hx, _, _, _, _ => by rw [trP] at hx <;> first | cases hx | nofun
  | .list _, _, _, hx, _, _, _, _ => by rw [trP] at hx <;> first | cases hx | nofun
  | .dict _, _, _, hx, _, _, _, _ => by rw [trP] at hx <;> first | cases hx | nofun
theorem ltPs_trans : ∀ xs ys zs : List PyData, trPs xs = true → trPs ys = true → trPs zs = true → ltPs xs ys = true → ltPs ys zs = true → ltPs xs zs = true
  | [], [], _, _, _, _, h, _ => by rw [ltPs] at h; cases h
  | [], _ :: _, [], _, _, _, _, h' => by rw [ltPs] at h'; cases h'
  | [], _ :: _, _ :: _, _, _, _, _, _ => by rw [ltPs]; rfl
  | _ :: _, [], _, _, _, _, h, _ => by rw [ltPs] at h; cases h
  | _ :: _, _ :: _, [], _, _, _, _, h' => by rw [ltPs] at h'; cases h'
  | x :: xs, y :: ys, z :: zs, hx, hy, hz, h, h' => by
    have hx := trPs_cons hx
    have hy := trPs_cons hy
    have hz := trPs_cons hz
    rw [ltPs_cons hx.1 hy.1] at h
    rw [ltPs_cons hy.1 hz.1] at h'
    rw [ltPs_cons hx.1 hz.1]
    by_cases e1 : x = y
    · rw [if_pos e1] at h
      by_cases e2 : y = z
      · rw [if_pos e2] at h'
        rw [if_pos (e1.trans e2)]
        exact ltPs_trans xs ys zs hx.2 hy.2 hz.2 h h'
      · rw [if_neg e2] at h'
        rw [if_neg (fun e => e2 (e1.symm.trans e)), e1]
        exact h'
    · rw [if_neg e1] at h
      by_cases e2 : y = z
      · rw [if_neg (fun e => e1 (e.trans e2.symm)), ← e2]
        exact h
      · rw [if_neg e2] at h'
        by_cases e3 : x = z
        · exfalso
          subst e3
          have := ltP_trans x y x hx.1 hy.1 hx.1 h h'
          rw [ltP_irr x hx.1] at this
          cases this
        · rw [if_neg e3]
          exact ltP_trans x y z hx.1 hy.1 hz.1 h h'
end
theorem ltP_asym {x y : PyData} (hx : trP x = true) (hy : trP y = true) (h : ltP x y = true) : ltP y x = false := by
  cases e : ltP y x with
  | false => rfl
  | true =>
    have := ltP_trans x y x hx hy hx h e
    rw [ltP_irr x hx] at this
    cases this
theorem ltP_neg {x y z : PyData} (hx : trP x = true) (hy : trP y = true) (hz : trP z = true) (h : ltP y x = false) (h' : ltP z y = false) : ltP z x = false := by
  rcases ltP_tri x y hx hy with a | a | a
  · rcases ltP_tri y z hy hz with b | b | b
    · exact ltP_asym hx hz (ltP_trans x y z hx hy hz a b)
    · rw [← b]; exact h
    · rw [h'] at b; cases b
  · rw [a]; exact h'
  · rw [h] at a; cases a
mutual
theorem py_inj : ∀ (d e : D), trP (py d) = true → py d = py e → d = e
  | .int i, e, _, h => by cases e <;> simp [py] at h; rw [h]
  | .str i, e, _, h => by cases e <;> simp [py] at h; rw [h]
  | .tup xs, e, t, h => by
    cases e with
    | tup ys =>
      rw [py, py] at h
      rw [py, trP] at t
      rw [pys_inj xs ys t (PyData.tuple.inj h)]
    | _ => simp [py] at h
  | .non, _, t, _ => by simp [py, trP] at t
  | .bl _, _, t, _ => by simp [py, trP] at t
  | .lst _, _, t, _ => by simp [py, trP] at t
  | .dct _, _, t, _ => by simp [py, trP] at t
  | .fn _, _, t, _ => by simp [py, trP] at t
  | .scr _, _, t, _ => by simp [py, trP] at t
  | .er _ _, _, t, _ => by simp [py, trP] at t
theorem pys_inj : ∀ (ds es : List D), trPs (pys ds) = true → pys ds = pys es → ds = es
  | [], [], _, _ => rfl
  | [], _ :: _, _, h => by simp [pys] at h
  | _ :: _, [], _, h => by simp [pys] at h
  | d :: ds, e :: es, t, h => by
    rw [pys, pys] at h
    rw [pys] at t
    have t := trPs_cons t
    injection h with h1 h2
    rw [py_inj d e t.1 h1, pys_inj ds es t.2 h2]
end
theorem insT_perm (x : D) : ∀ l : List D, (insT x l).Perm (x :: l)
  | [] => List.Perm.refl _
  | y :: r => by
    unfold insT
    split
    · exact ((insT_perm x r).cons y).trans (List.Perm.swap x y r)
    · exact List.Perm.refl _
theorem srtT_perm : ∀ l : List D, (srtT l).Perm l
  | [] => List.Perm.refl _
  | x :: r => (insT_perm x (srtT r)).trans ((srtT_perm r).cons x)
abbrev Srd (l : List D) : Prop := l.Pairwise fun a b => ltP (py b) (py a) = false
theorem insT_srd {x : D} (hx : trP (py x) = true) : ∀ {l : List D}, (∀ y ∈ l, trP (py y) = true) → Srd l → Srd (insT x l)
  | [], _, _ => List.pairwise_singleton _ _
  | y :: r, ht, hs => by
    obtain ⟨h1, h2⟩ := List.pairwise_cons.mp hs
    have hy := ht y (List.mem_cons_self ..)
    have hr : ∀ z ∈ r, trP (py z) = true := fun z hz => ht z (List.mem_cons_of_mem _ hz)
    unfold insT
    split
    · rename_i h
      refine List.pairwise_cons.mpr ⟨fun z hz => ?_, insT_srd hx hr h2⟩
      rcases List.mem_cons.mp ((insT_perm x r).mem_iff.mp hz) with rfl | hz
      · exact ltP_asym hy hx h
      · exact h1 z hz
    · rename_i h
      have h : ltP (py y) (py x) = false := by
        cases e : ltP (py y) (py x) with
        | false => rfl
        | true => exact absurd e h
      refine List.pairwise_cons.mpr ⟨fun z hz => ?_, hs⟩
      rcases List.mem_cons.mp hz with rfl | hz
      · exact h
      · exact ltP_neg hx hy (hr z hz) h (h1 z hz)
theorem srtT_srd : ∀ {l : List D}, (∀ y ∈ l, trP (py y) = true) → Srd (srtT l)
  | [], _ => List.Pairwise.nil
  | x :: r, h => insT_srd (h x (List.mem_cons_self ..)) (fun y hy => h y (List.mem_cons_of_mem _ ((srtT_perm r).mem_iff.mp hy))) (srtT_srd fun y hy => h y (List.mem_cons_of_mem _ hy))
theorem srd_uniq : ∀ {l m : List D}, l.Perm m → (∀ x ∈ l, trP (py x) = true) → Srd l → Srd m → l = m
  | [], m, p, _, _, _ => p.nil_eq
  | x :: l, [], p, _, _, _ => by
    have := p.length_eq
    simp at this
  | x :: l, y :: m, p, ht, h1, h2 => by
    obtain ⟨a1, a2⟩ := List.pairwise_cons.mp h1
    obtain ⟨b1, b2⟩ := List.pairwise_cons.mp h2
    have hx := ht x (List.mem_cons_self ..)
    have hy := ht y (p.mem_iff.mpr (List.mem_cons_self ..))
    have e : x = y := by
      rcases List.mem_cons.mp (p.mem_iff.mp (List.mem_cons_self ..)) with e | e
      · exact e
      · rcases List.mem_cons.mp (p.mem_iff.mpr (List.mem_cons_self ..)) with e2 | e2
        · exact e2.symm
        · have c1 := b1 x e
          have c2 := a1 y e2
          rcases ltP_tri (py x) (py y) hx hy with h | h | h
          · rw [c1] at h; cases h
          · exact py_inj x y hx h
          · rw [c2] at h; cases h
    subst e
    rw [srd_uniq (List.Perm.cons_inv p) (fun z hz => ht z (List.mem_cons_of_mem _ hz)) a2 b2]
end Ev
/-! Snd1: how the evaluator's data lie in the layer's heap. -/
namespace Ev
open PySem L2

structure Gx where
  K : PySem.W.Frag
  fa : Nat → Option Addr
  ca : Nat → Option Addr := fun _ => none
/-- an error of the program, ws its fields -/
def ErAt (H : Hp) (a C : Addr) (ws : List (Str × V)) : Prop := (ws = [] ∧ H a = some (exo a C none)) ∨ ∃ dd, H a = some (exo a C (some dd)) ∧ H dd = some (exd dd ws)

section
variable (g : Gx) (F : Addr → Prop) (H : Hp)
mutual
def Fr : D → V → Prop
  | .non, v => v = .non
  | .bl b, v => v = .bl b
  | .int i, v => v = .int i
  | .str s, v => v = .str s
  | .lst ds, v => ∃ a xs, v = .ref a ∧ F a ∧ H a = some (.lst xs) ∧ FrL ds xs
  | .tup ds, v => ∃ a xs, v = .ref a ∧ SqT g.K H a xs ∧ FrL ds xs
  | .dct kvs, v => ∃ a ws, v = .ref a ∧ F a ∧ Rd H a (.dK ws) ∧ FrK kvs ws
  | .fn i, v => ∃ f, v = .ref f ∧ g.fa i = some f
  | .er c fs, v => ∃ a C ws, v = .ref a ∧ g.ca c = some C ∧ (∀ p ∈ fs, PySem.W.findIn g.K (.ref C) p.1 = some none) ∧ ErAt H a C ws ∧ FrF fs ws
  | .scr ns, v => ∃ a, v = .ref a ∧ ((∃ o, H a = some (.frz o (.lst (ns.map V.int)))) ∨ SqL g.K (fun _ => none) a (ns.map V.int))
def FrL : List D → List V → Prop
  | [], xs => xs = []
  | d :: ds, xs => ∃ x r, xs = x :: r ∧ Fr d x ∧ FrL ds r
def FrK : List (Key × D) → List (Key × V) → Prop
  | [], ws => ws = []
  | (k, d) :: r, ws => ∃ x s, ws = (k, x) :: s ∧ Fr d x ∧ FrK r s
def FrF : List (Str × D) → List (Str × V) → Prop
  | [], ws => ws = []
  | (k, d) :: r, ws => ∃ x s, ws = (k, x) :: s ∧ Fr d x ∧ FrF r s
end
def Own : D → V → Prop
  | .lst ds, v => ∃ a xs, v = .ref a ∧ ¬ F a ∧ H a = some (.lst xs) ∧ FrL g F H ds xs
  | .dct kvs, v => ∃ a ws, v = .ref a ∧ ¬ F a ∧ H a = some (.dK ws) ∧ FrK g F H kvs ws
  | _, _ => False
def Bor : D → V → Prop
  | .lst ds, v => ∃ a xs, v = .ref a ∧ H a = some (.lst xs) ∧ FrL g F H ds xs
  | .dct kvs, v => ∃ a ws, v = .ref a ∧ Rd H a (.dK ws) ∧ FrK g F H kvs ws
  | d, v => Fr g F H d v
def Sl (r : Rv) (v : V) : Prop := if r.1 = true then Own g F H r.2 v else Fr g F H r.2 v
end

theorem Fr.bor {g : Gx} {F : Addr → Prop} {H : Hp} : ∀ {d : D} {v : V}, Fr g F H d v → Bor g F H d v
  | .lst ds, v, h => by
    rw [Fr] at h
    obtain ⟨a, xs, e, _, h1, h2⟩ := h
    exact ⟨a, xs, e, h1, h2⟩
  | .dct kvs, v, h => by
    rw [Fr] at h
    obtain ⟨a, ws, e, _, h1, h2⟩ := h
    exact ⟨a, ws, e, h1, h2⟩
  | .non, v, h => h
  | .bl _, v, h => h
  | .int _, v, h => h
  | .str _, v, h => h
  | .tup _, v, h => h
  | .fn _, v, h => h
  | .scr _, v, h => h
  | .er _ _, v, h => h
theorem Own.bor {g : Gx} {F : Addr → Prop} {H : Hp} : ∀ {d : D} {v : V}, Own g F H d v → Bor g F H d v
  | .lst ds, v, h => by
    obtain ⟨a, xs, e, _, h1, h2⟩ := h
    exact ⟨a, xs, e, h1, h2⟩
  | .dct kvs, v, h => by
    obtain ⟨a, ws, e, _, h1, h2⟩ := h
    exact ⟨a, ws, e, .inl h1, h2⟩
  | .non, v, h => h.elim
  | .bl _, v, h => h.elim
  | .int _, v, h => h.elim
  | .str _, v, h => h.elim
  | .tup _, v, h => h.elim
  | .fn _, v, h => h.elim
  | .scr _, v, h => h.elim
  | .er _ _, v, h => h.elim
theorem Sl.bor {g : Gx} {F : Addr → Prop} {H : Hp} {r : Rv} {v : V} (h : Sl g F H r v) : Bor g F H r.2 v := by
  unfold Sl at h
  split at h
  · exact h.bor
  · exact h.bor
theorem sl_fz {g : Gx} {F : Addr → Prop} {H : Hp} {d : D} {v : V} : Sl g F H (false, d) v ↔ Fr g F H d v := by
  unfold Sl; simp
theorem sl_ow {g : Gx} {F : Addr → Prop} {H : Hp} {d : D} {v : V} : Sl g F H (true, d) v ↔ Own g F H d v := by
  unfold Sl; simp
/-- what is owned stands at an address of its own -/
theorem Own.at {g : Gx} {F : Addr → Prop} {H : Hp} {d : D} {v : V} (h : Own g F H d v) : ∃ a, v = .ref a ∧ ¬ F a ∧ ((∃ xs, H a = some (.lst xs)) ∨ ∃ ws, H a = some (.dK ws)) := by
  cases d with
  | lst ds =>
    obtain ⟨a, xs, e, h1, h2, _⟩ := h
    exact ⟨a, e, h1, .inl ⟨xs, h2⟩⟩
  | dct kvs =>
    obtain ⟨a, ws, e, h1, h2, _⟩ := h
    exact ⟨a, e, h1, .inr ⟨ws, h2⟩⟩
  | _ => exact h.elim

theorem FrL.length {g : Gx} {F : Addr → Prop} {H : Hp} : ∀ {ds : List D} {xs : List V}, FrL g F H ds xs → ds.length = xs.length
  | [], xs, h => by
    rw [FrL] at h; subst h; rfl
  | d :: ds, xs, h => by
    rw [FrL] at h
    obtain ⟨x, r, rfl, _, h2⟩ := h
    simp [FrL.length h2]
theorem FrL.nil {g : Gx} {F : Addr → Prop} {H : Hp} : FrL g F H [] [] := by rw [FrL]
theorem FrL.cons {g : Gx} {F : Addr → Prop} {H : Hp} {d : D} {ds : List D} {x : V} {xs : List V} (h : Fr g F H d x) (t : FrL g F H ds xs) : FrL g F H (d :: ds) (x :: xs) := by
  rw [FrL]; exact ⟨x, xs, rfl, h, t⟩
theorem FrL.inv {g : Gx} {F : Addr → Prop} {H : Hp} {d : D} {ds : List D} {x : V} {xs : List V} (h : FrL g F H (d :: ds) (x :: xs)) : Fr g F H d x ∧ FrL g F H ds xs := by
  rw [FrL] at h
  obtain ⟨y, r, e, h1, h2⟩ := h
  cases e
  exact ⟨h1, h2⟩
theorem FrL.app {g : Gx} {F : Addr → Prop} {H : Hp} : ∀ {ds es : List D} {xs ys : List V}, FrL g F H ds xs → FrL g F H es ys → FrL g F H (ds ++ es) (xs ++ ys)
  | [], es, xs, ys, h, h' => by
    rw [FrL] at h; subst h; exact h'
  | d :: ds, es, xs, ys, h, h' => by
    rw [FrL] at h
    obtain ⟨x, r, rfl, h1, h2⟩ := h
    exact FrL.cons h1 (FrL.app h2 h')
theorem FrL.get {g : Gx} {F : Addr → Prop} {H : Hp} : ∀ {ds : List D} {xs : List V} {i : Nat} {d : D}, FrL g F H ds xs → ds[i]? = some d → ∃ x, xs[i]? = some x ∧ Fr g F H d x
  | [], xs, i, d, h, e => by simp at e
  | d :: ds, xs, i, d', h, e => by
    rw [FrL] at h
    obtain ⟨x, r, rfl, h1, h2⟩ := h
    cases i with
    | zero => simp at e; subst e; exact ⟨x, rfl, h1⟩
    | succ i =>
      obtain ⟨y, e1, e2⟩ := FrL.get (i := i) (d := d') h2 (by simpa using e)
      exact ⟨y, by simpa using e1, e2⟩
theorem FrL.get' {g : Gx} {F : Addr → Prop} {H : Hp} {ds : List D} {xs : List V} {i : Nat} {x : V} (h : FrL g F H ds xs) (e : xs[i]? = some x) : ∃ d, ds[i]? = some d ∧ Fr g F H d x := by
  have hl := h.length
  have hi : i < ds.length := by
    rw [hl]
    exact (List.getElem?_eq_some_iff.mp e).1
  obtain ⟨y, e1, e2⟩ := h.get (List.getElem?_eq_getElem hi)
  rw [e] at e1
  cases e1
  exact ⟨_, List.getElem?_eq_getElem hi, e2⟩
theorem FrL.take {g : Gx} {F : Addr → Prop} {H : Hp} : ∀ (n : Nat) {ds : List D} {xs : List V}, FrL g F H ds xs → FrL g F H (ds.take n) (xs.take n)
  | 0, ds, xs, h => by simp; exact FrL.nil
  | n + 1, [], xs, h => by
    rw [FrL] at h; subst h; exact FrL.nil
  | n + 1, d :: ds, xs, h => by
    rw [FrL] at h
    obtain ⟨x, r, rfl, h1, h2⟩ := h
    exact FrL.cons h1 (FrL.take n h2)
theorem FrL.drop {g : Gx} {F : Addr → Prop} {H : Hp} : ∀ (n : Nat) {ds : List D} {xs : List V}, FrL g F H ds xs → FrL g F H (ds.drop n) (xs.drop n)
  | 0, ds, xs, h => h
  | n + 1, [], xs, h => by
    rw [FrL] at h; subst h; exact FrL.nil
  | n + 1, d :: ds, xs, h => by
    rw [FrL] at h
    obtain ⟨x, r, rfl, h1, h2⟩ := h
    exact FrL.drop n h2

/-! ### how the heap may go on -/
structure Ext (W F : Addr → Prop) (H : Hp) (F' : Addr → Prop) (H' : Hp) : Prop where
  keep : ∀ a o, H a = some o → ¬ W a → H' a = some o ∨ (F a ∧ ∃ kvs ob, o = .dK kvs ∧ H' a = some (.frz ob o))
  stay : ∀ a, H' a = none → H a = none
  mono : ∀ a, F a → F' a
  new : ∀ a, F' a → F a ∨ W a ∨ H a = none
theorem Ext.refl {W F : Addr → Prop} {H : Hp} : Ext W F H F H := ⟨fun _ _ h _ => .inl h, fun _ h => h, fun _ h => h, fun _ h => .inl h⟩
theorem Ext.trans {W W1 F F1 F2 : Addr → Prop} {H H1 H2 : Hp} (a : Ext W F H F1 H1) (b : Ext W1 F1 H1 F2 H2) (hw : ∀ x, W1 x → W x ∨ H x = none) : Ext W F H F2 H2 where
  keep := fun x o e n => by
    have n1 : ¬ W1 x := fun q => (hw x q).elim n fun z => by rw [e] at z; cases z
    rcases a.keep x o e n with h | ⟨f, kvs, ob, e1, e2⟩
    · rcases b.keep x o h n1 with h2 | ⟨f2, kvs, ob, e1, e2⟩
      · exact .inl h2
      · have ff : F x := by
          rcases a.new x f2 with q | q | q
          · exact q
          · exact absurd q n
          · rw [e] at q; cases q
        exact .inr ⟨ff, kvs, ob, e1, e2⟩
    · subst e1
      rcases b.keep x _ e2 n1 with h2 | ⟨_, kvs', ob', e1, _⟩
      · exact .inr ⟨f, kvs, ob, rfl, h2⟩
      · cases e1
  stay := fun x h => a.stay x (b.stay x h)
  mono := fun x h => b.mono x (a.mono x h)
  new := fun x h => by
    rcases b.new x h with q | q | q
    · exact a.new x q
    · rcases hw x q with z | z
      · exact .inr (.inl z)
      · exact .inr (.inr z)
    · exact .inr (.inr (a.stay x q))
theorem Ext.wider {W W1 F F1 : Addr → Prop} {H H1 : Hp} (a : Ext W1 F H F1 H1) (hw : ∀ x, W1 x → W x ∨ H x = none) : Ext W F H F1 H1 := (Ext.refl (W := W)).trans a hw
/-- new objects alone -/
def New (H H' : Hp) : Prop := ∀ a o, H a = some o → H' a = some o
theorem New.refl {H : Hp} : New H H := fun _ _ h => h
theorem New.upd {H : Hp} {p : Addr} {o : HO} (h : H p = none) : New H (upd H p o) := fun a x e => by
  rw [upd_ne (ne_of_none e h)]; exact e
theorem New.none {H H' : Hp} (n : New H H') {a : Addr} (h : H' a = Option.none) : H a = Option.none := by
  cases e : H a with
  | none => rfl
  | some o =>
    rw [n a o e] at h
    cases h
theorem New.ext {W F : Addr → Prop} {H H' : Hp} (n : New H H') : Ext W F H F H' :=
  ⟨fun a o h _ => .inl (n a o h), fun a h => n.none h, fun _ h => h, fun _ h => .inl h⟩
theorem New.trans {H H1 H2 : Hp} (a : New H H1) (b : New H1 H2) : New H H2 := fun x o h => b x o (a x o h)

/-- the addresses that may be written: none that is frozen, no tuple -/
def Wk (W F : Addr → Prop) (H : Hp) : Prop := ∀ a, W a → ¬ F a ∧ ((∃ xs, H a = some (.lst xs)) ∨ ∃ ws, H a = some (.dK ws))

section
variable {g : Gx} {W F F' : Addr → Prop} {H H' : Hp}
theorem Ext.tup (x : Ext W F H F' H') (hw : Wk W F H) {a : Addr} {xs : List V} (h : SqT g.K H a xs) : SqT g.K H' a xs := by
  have nw : ∀ o, H a = some o → (∀ ys, o ≠ .lst ys) → (∀ ws, o ≠ .dK ws) → ¬ W a := fun o e h1 h2 w => by
    rcases (hw a w).2 with ⟨ys, q⟩ | ⟨ws, q⟩
    · rw [e] at q; cases q; exact h1 ys rfl
    · rw [e] at q; cases q; exact h2 ws rfl
  rcases h with (h | ⟨o, h⟩) | h
  · rcases x.keep a _ h (nw _ h (fun _ q => nomatch q) (fun _ q => nomatch q)) with q | ⟨_, _, _, q, _⟩
    · exact .inl (.inl q)
    · cases q
  · rcases x.keep a _ h (nw _ h (fun _ q => nomatch q) (fun _ q => nomatch q)) with q | ⟨_, _, _, q, _⟩
    · exact .inl (.inr ⟨o, q⟩)
    · cases q
  · exact .inr h
theorem Ext.lst (x : Ext W F H F' H') (hw : Wk W F H) {a : Addr} {xs : List V} (f : F a) (h : H a = some (.lst xs)) : H' a = some (.lst xs) := by
  rcases x.keep a _ h (fun w => (hw a w).1 f) with q | ⟨_, _, _, q, _⟩
  · exact q
  · cases q
theorem Ext.dct (x : Ext W F H F' H') (hw : Wk W F H) {a : Addr} {ws : List (Key × V)} (f : F a) (h : Rd H a (.dK ws)) : Rd H' a (.dK ws) := by
  rcases h with h | ⟨o, h⟩
  · rcases x.keep a _ h (fun w => (hw a w).1 f) with q | ⟨_, _, ob, e, q⟩
    · exact .inl q
    · exact .inr ⟨ob, q⟩
  · rcases x.keep a _ h (fun w => (hw a w).1 f) with q | ⟨_, _, _, q, _⟩
    · exact .inr ⟨o, q⟩
    · cases q
theorem Ext.er (x : Ext W F H F' H') (hw : Wk W F H) {a C : Addr} {ws : List (Str × V)} (h : ErAt H a C ws) : ErAt H' a C ws := by
  have nw : ∀ b o f, o = HO.ext f → H b = some o → ¬ W b := fun b o f eo e w => by
    subst eo
    rcases (hw b w).2 with ⟨ys, q⟩ | ⟨ws, q⟩
    · rw [e] at q; cases q
    · rw [e] at q; cases q
  have kp : ∀ b o f, o = HO.ext f → H b = some o → H' b = some o := fun b o f eo e => by
    rcases x.keep b o e (nw b o f eo e) with q | ⟨_, _, _, q, _⟩
    · exact q
    · subst eo; cases q
  rcases h with ⟨e, h⟩ | ⟨dd, h1, h2⟩
  · exact .inl ⟨e, kp _ _ _ rfl h⟩
  · exact .inr ⟨dd, kp _ _ _ rfl h1, kp _ _ _ rfl h2⟩
mutual
theorem Fr.ext (x : Ext W F H F' H') (hw : Wk W F H) : ∀ {d : D} {v : V}, Fr g F H d v → Fr g F' H' d v
  | .non, v, h => by rw [Fr] at h ⊢; exact h
  | .bl _, v, h => by rw [Fr] at h ⊢; exact h
  | .int _, v, h => by rw [Fr] at h ⊢; exact h
  | .str _, v, h => by rw [Fr] at h ⊢; exact h
  | .fn _, v, h => by rw [Fr] at h ⊢; exact h
  | .lst ds, v, h => by
    rw [Fr] at h ⊢
    obtain ⟨a, xs, e, f, h1, h2⟩ := h
    exact ⟨a, xs, e, x.mono a f, x.lst hw f h1, FrL.ext x hw h2⟩
  | .tup ds, v, h => by
    rw [Fr] at h ⊢
    obtain ⟨a, xs, e, h1, h2⟩ := h
    exact ⟨a, xs, e, x.tup hw h1, FrL.ext x hw h2⟩
  | .dct kvs, v, h => by
    rw [Fr] at h ⊢
    obtain ⟨a, ws, e, f, h1, h2⟩ := h
    exact ⟨a, ws, e, x.mono a f, x.dct hw f h1, FrK.ext x hw h2⟩
  | .er c fs, v, h => by
    rw [Fr] at h ⊢
    obtain ⟨a, C, ws, e, h0, hn, h1, h2⟩ := h
    exact ⟨a, C, ws, e, h0, hn, x.er hw h1, FrF.ext x hw h2⟩
  | .scr ns, v, h => by
    rw [Fr] at h ⊢
    obtain ⟨a, e, ⟨o, h1⟩ | h1⟩ := h
    · refine ⟨a, e, .inl ⟨o, ?_⟩⟩
      have nw : ¬ W a := fun w => by
        rcases (hw a w).2 with ⟨ys, q⟩ | ⟨ws, q⟩
        · rw [h1] at q; cases q
        · rw [h1] at q; cases q
      rcases x.keep a _ h1 nw with q | ⟨_, _, _, q, _⟩
      · exact q
      · cases q
    · exact ⟨a, e, .inr h1⟩
theorem FrL.ext (x : Ext W F H F' H') (hw : Wk W F H) : ∀ {ds : List D} {xs : List V}, FrL g F H ds xs → FrL g F' H' ds xs
  | [], xs, h => by rw [FrL] at h ⊢; exact h
  | d :: ds, xs, h => by
    rw [FrL] at h ⊢
    obtain ⟨y, r, e, h1, h2⟩ := h
    exact ⟨y, r, e, Fr.ext x hw h1, FrL.ext x hw h2⟩
theorem FrK.ext (x : Ext W F H F' H') (hw : Wk W F H) : ∀ {ds : List (Key × D)} {xs : List (Key × V)}, FrK g F H ds xs → FrK g F' H' ds xs
  | [], xs, h => by rw [FrK] at h ⊢; exact h
  | (k, d) :: ds, xs, h => by
    rw [FrK] at h ⊢
    obtain ⟨y, r, e, h1, h2⟩ := h
    exact ⟨y, r, e, Fr.ext x hw h1, FrK.ext x hw h2⟩
theorem FrF.ext (x : Ext W F H F' H') (hw : Wk W F H) : ∀ {ds : List (Str × D)} {xs : List (Str × V)}, FrF g F H ds xs → FrF g F' H' ds xs
  | [], xs, h => by rw [FrF] at h ⊢; exact h
  | (k, d) :: ds, xs, h => by
    rw [FrF] at h ⊢
    obtain ⟨y, r, e, h1, h2⟩ := h
    exact ⟨y, r, e, Fr.ext x hw h1, FrF.ext x hw h2⟩
end
end
end Ev
/-! RuZ: repr of data with dicts, none of which is the table of modules. -/
namespace Ev
open PySem L2 StrLaws
mutual
/-- as Reads, without the addresses; a dict is not the table of modules -/
inductive Rdz (h : Heap) : Value → PyData → Prop
  | non : Rdz h .none .none
  | bl (b : Bool) : Rdz h (.bool b) (.bool b)
  | int (i : Int) (t : Tok) : Rdz h (.int i t) (.int i)
  | str (x : Str) (t : Tok) : Rdz h (.str x t) (.str x)
  | lst {a : Addr} {o : Obj} {vs : Array Value} {n : Nat} {xs : List PyData} : h.get? a = some o → o.cls = .type "list" → o.data = .seq vs n → Rdzs h vs.toList xs → Rdz h (.ref a) (.list xs)
  | tup {a : Addr} {o : Obj} {vs : Array Value} {n : Nat} {xs : List PyData} : h.get? a = some o → o.cls = .type "tuple" → o.data = .seq vs n → Rdzs h vs.toList xs → Rdz h (.ref a) (.tuple xs)
  | dct {a : Addr} {o : Obj} {es : Array DictEntry} {n : Nat} {kvs : List (PyData × PyData)} : (a == sysModules) = false → h.get? a = some o → o.cls = .type "dict" → o.data = .dict es n → Rdzs h (es.toList.map (·.key)) (kvs.map (·.1)) → Rdzs h (es.toList.map (·.val)) (kvs.map (·.2)) → Rdz h (.ref a) (.dict kvs)
inductive Rdzs (h : Heap) : List Value → List PyData → Prop
  | nil : Rdzs h [] []
  | cons {v : Value} {vs : List Value} {d : PyData} {ds : List PyData} : Rdz h v d → Rdzs h vs ds → Rdzs h (v :: vs) (d :: ds)
end
mutual
theorem Rdz.reads {h : Heap} : ∀ {v : Value} {d : PyData}, Rdz h v d → ∃ as, Reads h v d as
  | _, _, .non => ⟨_, .none⟩
  | _, _, .bl b => ⟨_, .bool b⟩
  | _, _, .int i t => ⟨_, .int i t⟩
  | _, _, .str x t => ⟨_, .str x t⟩
  | _, _, .lst h1 h2 h3 h4 => by
    obtain ⟨as, r⟩ := Rdzs.reads h4
    exact ⟨_, .list h1 h2 h3 r⟩
  | _, _, .tup h1 h2 h3 h4 => by
    obtain ⟨as, r⟩ := Rdzs.reads h4
    exact ⟨_, .tuple h1 h2 h3 r⟩
  | _, _, .dct _ h1 h2 h3 h4 h5 => by
    obtain ⟨as, r⟩ := Rdzs.reads h4
    obtain ⟨bs, r'⟩ := Rdzs.reads h5
    exact ⟨_, .dict h1 h2 h3 r r'⟩
theorem Rdzs.reads {h : Heap} : ∀ {vs : List Value} {ds : List PyData}, Rdzs h vs ds → ∃ as, ReadsAll h vs ds as
  | _, _, .nil => ⟨_, .nil⟩
  | _, _, .cons r rs => by
    obtain ⟨as, q⟩ := Rdz.reads r
    obtain ⟨bs, q'⟩ := Rdzs.reads rs
    exact ⟨_, .cons q q'⟩
end
/-- what is known of an item's repr -/
def Sh (prog : Program) (w : World) (h : Heap) (v : Value) (d : PyData) : Prop := ∃ bs, ReadAtMost h d.depth bs ∧ ReprK prog w bs h d.depth v d.shown
def Shs (prog : Program) (w : World) (h : Heap) (vs : List Value) (ds : List PyData) : Prop := ∃ bs, ReadAtMost h (PyData.depthAll ds) bs ∧ ReprAllK prog w bs h (PyData.depthAll ds) vs (PyData.shownAll ds)
section
variable {prog : Program} {w : World} {h : Heap}
mutual
theorem Rdz.sh : ∀ {v : Value} {d : PyData}, Rdz h v d → d.showable = true → d.shown.length ≤ sizeLine → Sh prog w h v d
  | _, _, .non, _, _ => by
    refine ⟨[], nofun, ?_⟩
    simp only [PyData.shown]
    exact .of_is .none _ _ _
  | _, _, .bl b, _, _ => by
    refine ⟨[], nofun, ?_⟩
    simp only [PyData.shown]
    exact .of_is (.bool b) _ _ _
  | _, _, .int i t, hs, _ => by
    refine ⟨[], nofun, ?_⟩
    simp only [PyData.shown]
    exact .of_is (.int t (by simpa [PyData.showable] using hs)) _ _ _
  | _, _, .str x t, _, hz => by
    refine ⟨[], nofun, ?_⟩
    simp only [PyData.shown] at hz ⊢
    exact .of_is (.str x t hz) _ _ _
  | _, _, .lst (a := a) (vs := vs) (xs := xs) h1 h2 h3 h4, hs, hz => by
    simp only [PyData.shown] at hz
    simp only [PyData.showable] at hs
    obtain ⟨bs, hb, hk⟩ := Rdzs.sh h4 hs fun t ht => Nat.le_trans (listText_mem_le ht) hz
    obtain ⟨as, rs⟩ := Rdzs.reads h4
    have rd := Reads.list h1 h2 h3 rs
    have dp : (PyData.list xs).depth = PyData.depthAll xs + 1 := by simp only [PyData.depth]
    have out := not_mem_of_deeper rd (by rw [dp]; omega) hb
    refine ⟨_, .cons rd (by rw [dp]; omega) hb, ?_⟩
    rw [dp]
    simp only [PyData.shown]
    rcases vs with ⟨_ | ⟨x, l⟩⟩
    · cases (show Rdzs h [] xs from h4)
      simp only [PyData.shownAll, listText_nil]
      exact .listEmpty h1 h2 h3
    · exact .list h1 h2 h3 out (by simpa using hk.length_eq) fun i y e => hk.item i y (by simpa using e)
  | _, _, .tup (a := a) (xs := xs) h1 h2 h3 h4, hs, hz => by
    simp only [PyData.shown] at hz
    simp only [PyData.showable] at hs
    obtain ⟨bs, hb, hk⟩ := Rdzs.sh h4 hs fun t ht => Nat.le_trans (tupleText_mem_le ht) hz
    obtain ⟨as, rs⟩ := Rdzs.reads h4
    have rd := Reads.tuple h1 h2 h3 rs
    have dp : (PyData.tuple xs).depth = PyData.depthAll xs + 1 := by simp only [PyData.depth]
    have out := not_mem_of_deeper rd (by rw [dp]; omega) hb
    refine ⟨_, .cons rd (by rw [dp]; omega) hb, ?_⟩
    rw [dp]
    simp only [PyData.shown]
    exact .tuple h1 h2 h3 out hk
  | _, _, .dct (a := a) (es := es) (kvs := kvs) h0 h1 h2 h3 h4 h5, hs, hz => by
    simp only [PyData.shown] at hz
    simp only [PyData.showable] at hs
    obtain ⟨s1, s2⟩ := PyData.showableKv_split kvs hs
    obtain ⟨b1, hb1, k1⟩ := Rdzs.sh h4 s1 fun t ht => by
      obtain ⟨p, hp, hl⟩ := PyData.shownKv_key_le kvs t ht
      have := dictText_mem_le hp
      omega
    obtain ⟨b2, hb2, k2⟩ := Rdzs.sh h5 s2 fun t ht => by
      obtain ⟨p, hp, hl⟩ := PyData.shownKv_val_le kvs t ht
      have := dictText_mem_le hp
      omega
    obtain ⟨as, rs⟩ := Rdzs.reads h4
    obtain ⟨cs, qs⟩ := Rdzs.reads h5
    have rd := Reads.dict h1 h2 h3 rs qs
    have dp : (PyData.dict kvs).depth = PyData.depthKv kvs + 1 := by simp only [PyData.depth]
    have l1 := PyData.depthAll_keys_le kvs
    have l2 := PyData.depthAll_vals_le kvs
    have hb := (hb1.mono l1).append (hb2.mono l2)
    have out := not_mem_of_deeper rd (by rw [dp]; omega) hb
    refine ⟨_, .cons rd (by rw [dp]; omega) hb, ?_⟩
    rw [dp]
    simp only [PyData.shown, PyData.shownKv_eq]
    exact .dict h1 h2 h3 h0 out (.of_two es.toList _ _ (k1.more_le (fun _ z => List.mem_append_left _ z) l1) (k2.more_le (fun _ z => List.mem_append_right _ z) l2))
theorem Rdzs.sh : ∀ {vs : List Value} {ds : List PyData}, Rdzs h vs ds → PyData.showableAll ds = true → (∀ t ∈ PyData.shownAll ds, t.length ≤ sizeLine) → Shs prog w h vs ds
  | _, _, .nil, _, _ => by
    refine ⟨[], nofun, ?_⟩
    simp only [PyData.shownAll]
    exact .nil
  | _, _, .cons (d := d) (ds := ds) r rs, hs, hz => by
    simp only [PyData.showableAll, Bool.and_eq_true] at hs
    simp only [PyData.shownAll] at hz
    obtain ⟨b1, hb1, k1⟩ := Rdz.sh r hs.1 (hz _ (List.mem_cons_self ..))
    obtain ⟨b2, hb2, k2⟩ := Rdzs.sh rs hs.2 fun t ht => hz t (List.mem_cons_of_mem _ ht)
    have l1 : d.depth ≤ PyData.depthAll (d :: ds) := by simp only [PyData.depthAll]; exact Nat.le_max_left _ _
    have l2 : PyData.depthAll ds ≤ PyData.depthAll (d :: ds) := by simp only [PyData.depthAll]; exact Nat.le_max_right _ _
    refine ⟨b1 ++ b2, (hb1.mono l1).append (hb2.mono l2), ?_⟩
    simp only [PyData.shownAll]
    exact .cons ((k1.more fun _ z => List.mem_append_left _ z).level_le l1) (k2.more_le (fun _ z => List.mem_append_right _ z) l2)
end
variable {A : Around} {E : Value → Shared → Prop} {s : Shared} {Q : Value → Shared → Prop}
/-- repr(v), v a list, a tuple or a dict -/
theorem repr_rz {a : Addr} {d : PyData} (r : Rdz s.heap (.ref a) d) (hs : d.showable = true) (hz : d.shown.length ≤ sizeLine) (hg : A.guards = some []) (hu : A.units + (d.depth + 1) < cLine)
    (q : ∀ h' u tk, (∀ b o, s.heap.get? b = some o → h'.get? b = some o) → Q (.str d.shown u) { s with heap := h', toks := tk }) : wpAny (model prog w) A (call (.builtin "repr") [.ref a]) Q E s := by
  have q' : ∀ h' u tk, (∀ b o, s.heap.get? b = some o → h'.get? b = some o) → (fun r s₁ => ∃ x t, r = Value.str x t ∧ Q r s₁) (.str d.shown u) { s with heap := h', toks := tk } := fun h' u tk hk => ⟨_, _, rfl, q h' u tk hk⟩
  obtain ⟨as, rd⟩ := r.reads
  cases r with
  | lst h1 h2 h3 h4 =>
    rename_i o vs n xs
    simp only [PyData.shown] at hz q'
    simp only [PyData.showable] at hs
    simp only [PyData.depth] at hu
    obtain ⟨bs, hb, hk⟩ := Rdzs.sh (prog := prog) (w := w) h4 hs fun t ht => Nat.le_trans (listText_mem_le ht) hz
    have out := not_mem_of_deeper rd (by simp only [PyData.depth]; omega) hb
    refine call_repr_slot (by omega) ⟨o, h1, h2⟩ F.slot_list_repr.toG ?_
    rcases vs with ⟨_ | ⟨x, l⟩⟩
    · cases (show Rdzs s.heap [] xs from h4)
      simp only [PyData.shownAll, listText_nil] at q'
      exact call_list_repr_empty ⟨o, h1, h2⟩ h1 h3 (q' s.heap _ _ fun _ _ e => e)
    · exact call_list_reprK h1 h2 h3 out (by simpa using hk.length_eq) (fun i y e => hk.item i y (by simpa using e)) hg (fun b _ => Clear.nil b) (by show A.units + 1 + _ < cLine; omega) (fun _ _ e => e) q' hz
  | tup h1 h2 h3 h4 =>
    rename_i o vs n xs
    simp only [PyData.shown] at hz q'
    simp only [PyData.showable] at hs
    simp only [PyData.depth] at hu
    obtain ⟨bs, hb, hk⟩ := Rdzs.sh (prog := prog) (w := w) h4 hs fun t ht => Nat.le_trans (tupleText_mem_le ht) hz
    have out := not_mem_of_deeper rd (by simp only [PyData.depth]; omega) hb
    refine call_repr_slot (by omega) ⟨o, h1, h2⟩ F.slot_tuple_repr ?_
    exact call_tuple_reprK h1 h2 h3 out hk hg (fun b _ => Clear.nil b) (by show A.units + 1 + _ < cLine; omega) (fun _ _ e => e) q' hz
  | dct h0 h1 h2 h3 h4 h5 =>
    rename_i o es n kvs
    simp only [PyData.shown] at hz
    simp only [PyData.shown, PyData.shownKv_eq] at q'
    simp only [PyData.showable] at hs
    simp only [PyData.depth] at hu
    obtain ⟨s1, s2⟩ := PyData.showableKv_split kvs hs
    obtain ⟨b1, hb1, k1⟩ := Rdzs.sh (prog := prog) (w := w) h4 s1 fun t ht => by
      obtain ⟨p, hp, hl⟩ := PyData.shownKv_key_le kvs t ht
      have := dictText_mem_le hp
      omega
    obtain ⟨b2, hb2, k2⟩ := Rdzs.sh (prog := prog) (w := w) h5 s2 fun t ht => by
      obtain ⟨p, hp, hl⟩ := PyData.shownKv_val_le kvs t ht
      have := dictText_mem_le hp
      omega
    have l1 := PyData.depthAll_keys_le kvs
    have l2 := PyData.depthAll_vals_le kvs
    have hb := (hb1.mono l1).append (hb2.mono l2)
    have out := not_mem_of_deeper rd (by simp only [PyData.depth]; omega) hb
    refine call_repr_slot (by omega) ⟨o, h1, h2⟩ F.slot_dict_repr ?_
    exact call_dict_reprK h1 h2 h3 h0 out (.of_two es.toList _ _ (k1.more_le (fun _ z => List.mem_append_left _ z) l1) (k2.more_le (fun _ z => List.mem_append_right _ z) l2)) hg (fun b _ => Clear.nil b) (by show A.units + 1 + _ < cLine; omega) (fun _ _ e => e) q' (by rw [← PyData.shownKv_eq]; exact hz)
end
end Ev
/-! Snd2: the frame's relation, steps, sound readings. -/
namespace Ev
open PySem L2

def OwnAt (env : Ev) (σ : L2.St) (a : Addr) : Prop := ∃ i d, getS env i = some (true, d) ∧ σ[i]? = some (some (.ref a))
structure Rel (g : Gx) (F : Addr → Prop) (H : Hp) (env : Ev) (σ : L2.St) : Prop where
  len : env.length = σ.length
  slot : ∀ i r, getS env i = some r → ∃ v, σ[i]? = some (some v) ∧ Sl g F H r v
  inj : ∀ i j d d' a, getS env i = some (true, d) → getS env j = some (true, d') → σ[i]? = some (some (.ref a)) → σ[j]? = some (some (.ref a)) → i = j
  trk : ∀ a, F a → H a ≠ none
theorem getS_lt {env : Ev} {i : Nat} {r : Rv} (h : getS env i = some r) : i < env.length := by
  unfold getS at h
  by_cases hi : i < env.length
  · exact hi
  · rw [List.getElem?_eq_none (by omega)] at h; cases h
theorem getS_set_self {env : Ev} {i : Nat} {s : Slot} (h : i < env.length) : getS (env.set i s) i = s := by
  unfold getS; rw [List.getElem?_set_self h]; rfl
theorem getS_set_ne {env : Ev} {i j : Nat} {s : Slot} (h : i ≠ j) : getS (env.set i s) j = getS env j := by
  unfold getS; rw [List.getElem?_set_ne h]
theorem getS_set {env : Ev} {i j : Nat} {s : Slot} (h : i < env.length) : getS (env.set i s) j = if i = j then s else getS env j := by
  by_cases e : i = j
  · subst e; rw [getS_set_self h, if_pos rfl]
  · rw [getS_set_ne e, if_neg e]

section
variable {g : Gx} {F F' F1 F2 : Addr → Prop} {H H' H1 H2 : Hp} {env env' env1 env2 : Ev} {σ : L2.St}
theorem Rel.own (R : Rel g F H env σ) {i : Nat} {d : D} (h : getS env i = some (true, d)) : ∃ a, σ[i]? = some (some (.ref a)) ∧ Own g F H d (.ref a) ∧ OwnAt env σ a := by
  obtain ⟨v, e, s⟩ := R.slot i _ h
  rw [sl_ow] at s
  obtain ⟨a, rfl, _, _⟩ := s.at
  exact ⟨a, e, s, i, d, h, e⟩
theorem Rel.fz (R : Rel g F H env σ) {i : Nat} {d : D} (h : getS env i = some (false, d)) : ∃ v, σ[i]? = some (some v) ∧ Fr g F H d v := by
  obtain ⟨v, e, s⟩ := R.slot i _ h
  exact ⟨v, e, sl_fz.mp s⟩
theorem Rel.wk (R : Rel g F H env σ) : Wk (OwnAt env σ) F H := fun a ⟨i, d, h1, h2⟩ => by
  obtain ⟨v, e, s⟩ := R.slot i _ h1
  rw [h2] at e; cases e
  rw [sl_ow] at s
  obtain ⟨b, eb, nf, h⟩ := s.at
  cases eb
  exact ⟨nf, h⟩
theorem Rel.ownTrk (R : Rel g F H env σ) {a : Addr} (h : OwnAt env σ a) : H a ≠ none := by
  rcases (R.wk a h).2 with ⟨xs, e⟩ | ⟨ws, e⟩ <;> rw [e] <;> simp
theorem Own.ext {W : Addr → Prop} (x : Ext W F H F' H') (hw : Wk W F H) {d : D} {a : Addr} (nw : ¬ W a) (nf : ¬ F' a) (h : Own g F H d (.ref a)) : Own g F' H' d (.ref a) := by
  cases d with
  | lst ds =>
    obtain ⟨b, xs, e, h1, h2, h3⟩ := h
    cases e
    rcases x.keep a _ h2 nw with q | ⟨f, _⟩
    · exact ⟨a, xs, rfl, nf, q, h3.ext x hw⟩
    · exact absurd f h1
  | dct kvs =>
    obtain ⟨b, ws, e, h1, h2, h3⟩ := h
    cases e
    rcases x.keep a _ h2 nw with q | ⟨f, _⟩
    · exact ⟨a, ws, rfl, nf, q, h3.ext x hw⟩
    · exact absurd f h1
  | _ => exact h.elim
/-- the heap goes on, nothing of this frame's own is touched -/
theorem Rel.go {W : Addr → Prop} (R : Rel g F H env σ) (x : Ext W F H F' H') (hw : Wk W F H) (hn : ∀ a, OwnAt env σ a → ¬ W a ∧ ¬ F' a) (tk : ∀ a, F' a → H' a ≠ none) : Rel g F' H' env σ where
  len := R.len
  slot := fun i r h => by
    obtain ⟨o, d⟩ := r
    cases o with
    | false =>
      obtain ⟨v, e, s⟩ := R.fz h
      exact ⟨v, e, sl_fz.mpr (s.ext x hw)⟩
    | true =>
      obtain ⟨a, e, s, oa⟩ := R.own h
      exact ⟨_, e, sl_ow.mpr (s.ext x hw (hn a oa).1 (hn a oa).2)⟩
  inj := R.inj
  trk := tk
theorem Rel.new (R : Rel g F H env σ) (n : New H H') : Rel g F H' env σ :=
  R.go (W := fun _ => False) n.ext (fun _ h => h.elim) (fun a h => ⟨fun z => z, (R.wk a h).1⟩) fun a f z => R.trk a f (n.none z)

structure Step (g : Gx) (σ : L2.St) (F : Addr → Prop) (H : Hp) (env : Ev) (F' : Addr → Prop) (H' : Hp) (env' : Ev) : Prop where
  rel : Rel g F' H' env' σ
  ext : Ext (OwnAt env σ) F H F' H'
  sub : ∀ a, OwnAt env' σ a → OwnAt env σ a
  live : ∀ i r, getS env i = Option.some r → ∃ r', getS env' i = Option.some r'
  ownk : ∀ i d a, getS env i = Option.some (true, d) → σ[i]? = Option.some (Option.some (.ref a)) → (∃ d', getS env' i = Option.some (true, d')) ∨ F' a
theorem Step.refl (R : Rel g F H env σ) : Step g σ F H env F H env := ⟨R, Ext.refl, fun _ h => h, fun _ r h => ⟨r, h⟩, fun _ d _ h _ => .inl ⟨d, h⟩⟩
theorem Step.trans (a : Step g σ F H env F1 H1 env1) (b : Step g σ F1 H1 env1 F2 H2 env2) : Step g σ F H env F2 H2 env2 :=
  ⟨b.rel, a.ext.trans b.ext fun x h => .inl (a.sub x h), fun x h => a.sub x (b.sub x h), fun i r h => by
    obtain ⟨r1, h1⟩ := a.live i r h
    exact b.live i r1 h1, fun i d x h1 h2 => by
    rcases a.ownk i d x h1 h2 with ⟨d1, q⟩ | q
    · exact b.ownk i d1 x q h2
    · exact .inr (b.ext.mono x q)⟩
theorem Step.new (R : Rel g F H env σ) (n : New H H') : Step g σ F H env F H' env := ⟨R.new n, n.ext, fun _ h => h, fun _ r h => ⟨r, h⟩, fun _ d _ h _ => .inl ⟨d, h⟩⟩
theorem Step.fr (R : Rel g F H env σ) (s : Step g σ F H env F' H' env') {d : D} {v : V} (h : Fr g F H d v) : Fr g F' H' d v := h.ext s.ext R.wk
theorem Step.frL (R : Rel g F H env σ) (s : Step g σ F H env F' H' env') {d : List D} {v : List V} (h : FrL g F H d v) : FrL g F' H' d v := h.ext s.ext R.wk
theorem Step.frK (R : Rel g F H env σ) (s : Step g σ F H env F' H' env') {d : List (Key × D)} {v : List (Key × V)} (h : FrK g F H d v) : FrK g F' H' d v := h.ext s.ext R.wk
/-- an owned thing that is no slot's -/
theorem Step.own (R : Rel g F H env σ) (s : Step g σ F H env F' H' env') {d : D} {a : Addr} (n : ¬ OwnAt env σ a) (h : Own g F H d (.ref a)) : Own g F' H' d (.ref a) := by
  refine h.ext s.ext R.wk n fun f => ?_
  obtain ⟨b, e, nf, ho⟩ := h.at
  cases e
  rcases s.ext.new a f with q | q | q
  · exact nf q
  · exact n q
  · rcases ho with ⟨xs, z⟩ | ⟨ws, z⟩ <;> rw [z] at q <;> cases q

def Fresh (H : Hp) (v : V) : Prop := ∃ a, v = .ref a ∧ H a = none
theorem Fresh.back {v : V} (h : Fresh H' v) (x : ∀ a, H' a = none → H a = none) : Fresh H v := let ⟨a, e, n⟩ := h; ⟨a, e, x a n⟩
/-- frozen: nobody writes there any more -/
def andF (F : Addr → Prop) (a : Addr) : Addr → Prop := fun b => F b ∨ b = a
theorem Own.freeze {d : D} {a : Addr} (h : Own g F H d (.ref a)) : Fr g (andF F a) H d (.ref a) := by
  have x : Ext (fun b => b = a) F H (andF F a) H := ⟨fun _ _ e _ => .inl e, fun _ e => e, fun _ e => .inl e, fun b e => e.elim .inl fun z => .inr (.inl z)⟩
  have hw : Wk (fun b => b = a) F H := fun b e => by
    subst e
    obtain ⟨c, e, nf, ho⟩ := h.at
    cases e
    exact ⟨nf, ho⟩
  cases d with
  | lst ds =>
    obtain ⟨b, xs, e, h1, h2, h3⟩ := h
    cases e
    rw [Fr]
    exact ⟨a, xs, rfl, .inr rfl, h2, h3.ext x hw⟩
  | dct kvs =>
    obtain ⟨b, ws, e, h1, h2, h3⟩ := h
    cases e
    rw [Fr]
    exact ⟨a, ws, rfl, .inr rfl, .inl h2, h3.ext x hw⟩
  | _ => exact h.elim
/-- a thing of one's own, made behind the start, is frozen -/
theorem Step.freeze (R : Rel g F H env σ) (s : Step g σ F H env F' H' env') {d : D} {a : Addr} (h : Own g F' H' d (.ref a)) (fr : H a = none) : Step g σ F H env (andF F' a) H' env' ∧ Fr g (andF F' a) H' d (.ref a) := by
  obtain ⟨b, e, nf, ho⟩ := h.at
  cases e
  have na : ∀ b, OwnAt env' σ b → b ≠ a := fun b q z => by
    subst z
    exact R.ownTrk (s.sub b q) fr
  have x : Ext (fun b => b = a) F' H' (andF F' a) H' := ⟨fun _ _ e _ => .inl e, fun _ e => e, fun _ e => .inl e, fun b e => e.elim .inl fun z => .inr (.inl z)⟩
  have hw : Wk (fun b => b = a) F' H' := fun b e => by
    subst e
    exact ⟨nf, ho⟩
  refine ⟨⟨s.rel.go x hw (fun b q => ⟨na b q, fun z => z.elim (s.rel.wk b q).1 (na b q)⟩) fun b z => ?_, s.ext.trans x fun b e => ?_, s.sub, s.live, fun i d' b h1 h2 => (s.ownk i d' b h1 h2).imp id .inl⟩, h.freeze⟩
  · rcases z with z | z
    · exact s.rel.trk b z
    · subst z
      rcases ho with ⟨xs, q⟩ | ⟨ws, q⟩ <;> rw [q] <;> simp
  · subst e
    exact .inr fr

/-! ### sound readings -/
def SndE (g : Gx) (t : TE) (m : Ev → Out Rv) : Prop := ∀ (F : Addr → Prop) (H : Hp) (env : Ev) (σ : L2.St) (Q : VK) (r : Rv) (env' : Ev), Rel g F H env σ → m env = .ok r env' →
  (∀ F' H' v, Step g σ F H env F' H' env' → Sl g F' H' r v → (r.1 = true → Fresh H v) → Q v H') → t σ H Q
/-- the value frozen -/
theorem SndE.frz {t : TE} {m : Ev → Out Rv} (h : SndE g t m) {Q : VK} {r : Rv} (R : Rel g F H env σ) (e : m env = .ok r env')
    (q : ∀ F' H' v, Step g σ F H env F' H' env' → Fr g F' H' r.2 v → Q v H') : t σ H Q := by
  refine h F H env σ Q r env' R e fun F' H' v s sl fr => ?_
  obtain ⟨o, d⟩ := r
  cases o with
  | false => exact q F' H' v s (sl_fz.mp sl)
  | true =>
    obtain ⟨a, rfl, n⟩ := fr rfl
    obtain ⟨s1, f1⟩ := s.freeze R (sl_ow.mp sl) n
    exact q _ H' _ s1 f1
/-- an operand as it stands -/
def OpAt (g : Gx) (F : Addr → Prop) (H : Hp) (env : Ev) (σ : L2.St) (o : Opd) (v : V) : Prop :=
  match o with
  | .v r => Sl g F H r v ∧ (r.1 = true → ∀ a, v = .ref a → ¬ OwnAt env σ a)
  | .s i => σ[i]? = some (some v) ∧ ∃ r, getS env i = some r
def SndO (g : Gx) (t : TE) (m : Ev → Out Opd) : Prop := ∀ (F : Addr → Prop) (H : Hp) (env : Ev) (σ : L2.St) (Q : VK) (o : Opd) (env' : Ev), Rel g F H env σ → m env = .ok o env' →
  (∀ F' H' v, Step g σ F H env F' H' env' → OpAt g F' H' env' σ o v → (∀ d, o = .v (true, d) → Fresh H v) → Q v H') → t σ H Q
theorem OpAt.step {o : Opd} {v : V} (h : OpAt g F H env σ o v) (R : Rel g F H env σ) (s : Step g σ F H env F' H' env') : OpAt g F' H' env' σ o v := by
  cases o with
  | v r =>
    obtain ⟨h1, h2⟩ := h
    obtain ⟨b, d⟩ := r
    cases b with
    | false => exact ⟨sl_fz.mpr (s.fr R (sl_fz.mp h1)), fun z => by cases z⟩
    | true =>
      obtain ⟨a, rfl, _, _⟩ := (sl_ow.mp h1).at
      have n := h2 rfl a rfl
      exact ⟨sl_ow.mpr (s.own R n (sl_ow.mp h1)), fun _ b e q => by cases e; exact n (s.sub _ q)⟩
  | s i =>
    obtain ⟨h1, r, h2⟩ := h
    obtain ⟨r', h3⟩ := s.live i r h2
    exact ⟨h1, r', h3⟩
theorem OpAt.bor {o : Opd} {v : V} {d : D} (h : OpAt g F H env σ o v) (R : Rel g F H env σ) (e : rdO env o = some d) : Bor g F H d v := by
  cases o with
  | v r =>
    cases e
    exact h.1.bor
  | s i =>
    obtain ⟨h1, r, h2⟩ := h
    have e' : (getS env i).map (·.2) = some d := e
    rw [h2] at e'
    cases e'
    obtain ⟨v', q, sl⟩ := R.slot i r h2
    rw [h1] at q; cases q
    exact sl.bor
theorem snd_opd {t : TE} {m : Ev → Out Rv} {a : Tm} (h : SndE g t m) (ha : ∀ i, a = .var i → t = tVar i) : SndO g t (opd a m) := by
  intro F H env σ Q o env' R e q
  have gen : ∀ (hn : ∀ i, a ≠ .var i), opd a m env = (m env).bind fun r e => .ok (.v r) e := by
    intro hn
    cases a <;> first | rfl | exact absurd rfl (hn _)
  by_cases hv : ∃ i, a = .var i
  · obtain ⟨i, rfl⟩ := hv
    rw [ha i rfl]
    unfold Ev.opd at e
    simp only at e
    cases hs : getS env i with
    | none => rw [hs] at e; cases e
    | some r =>
      obtain ⟨b, d⟩ := r
      rw [hs] at e
      cases b with
      | true =>
        simp only at e
        cases e
        obtain ⟨a, e1, s1, oa⟩ := R.own hs
        exact ⟨_, e1, q F H _ (Step.refl R) ⟨e1, _, hs⟩ (fun d z => by cases z)⟩
      | false =>
        simp only at e
        cases e
        obtain ⟨v, e1, s1⟩ := R.fz hs
        exact ⟨v, e1, q F H v (Step.refl R) ⟨sl_fz.mpr s1, fun z => by cases z⟩ (fun d z => by cases z)⟩
  · have hn : ∀ i, a ≠ .var i := fun i z => hv ⟨i, z⟩
    rw [gen hn] at e
    cases hm : m env with
    | ok r e1 =>
      rw [hm] at e
      cases e
      refine h F H env σ Q r env' R hm fun F' H' v s sl fr => q F' H' v s ⟨sl, fun z a ea => ?_⟩ fun d z => ?_
      · obtain ⟨b, eb, nb⟩ := fr z
        rw [ea] at eb; cases eb
        exact fun oa => R.ownTrk (s.sub _ oa) nb
      · cases z
        exact fr rfl
    | exc x e1 => rw [hm] at e; cases e
    | stuck => rw [hm] at e; cases e

/-! ### operators -/
def P1 (g : Gx) (r : V → Hp → VK → Prop) (f : D → Option Rv) : Prop := ∀ (F : Addr → Prop) (H : Hp) (x : V) (d : D) (rv : Rv) (Q : VK), (∀ a, F a → H a ≠ none) → Bor g F H d x → f d = some rv →
  (∀ H' v, New H H' → Sl g F H' rv v → (rv.1 = true → Fresh H v) → Q v H') → r x H Q
def P2 (g : Gx) (r : R2) (f : D → D → Option Rv) : Prop := ∀ (F : Addr → Prop) (H : Hp) (x y : V) (d e : D) (rv : Rv) (Q : VK), (∀ a, F a → H a ≠ none) → Bor g F H d x → Bor g F H e y → f d e = some rv →
  (∀ H' v, New H H' → Sl g F H' rv v → (rv.1 = true → Fresh H v) → Q v H') → r x y H Q
theorem snd_op1 {ta : TE} {a : Tm} {ma : Ev → Out Rv} {r : V → Hp → VK → Prop} {f : D → Option Rv} (ha : SndO g ta (opd a ma)) (hp : P1 g r f) : SndE g (tUn r ta) (op1 a ma f) := by
  intro F H env σ Q rv env' R e q
  unfold op1 at e
  cases h1 : opd a ma env with
  | ok o e1 =>
    rw [h1] at e
    simp only [Out.bind] at e
    cases h2 : rdO e1 o with
    | none => rw [h2] at e; cases e
    | some d =>
      rw [h2] at e
      simp only at e
      cases h3 : f d with
      | none => rw [h3] at e; cases e
      | some rv' =>
        rw [h3] at e
        cases e
        refine ha F H env σ _ o env' R h1 fun F1 H1 x s1 oa _ => ?_
        refine hp F1 H1 x d rv Q s1.rel.trk (oa.bor s1.rel h2) h3 fun H' v n sl fr => q F1 H' v (s1.trans (.new s1.rel n)) sl fun z => (fr z).back s1.ext.stay
  | exc x e1 => rw [h1] at e; cases e
  | stuck => rw [h1] at e; cases e
theorem snd_op2 {ta tb : TE} {a b : Tm} {ma mb : Ev → Out Rv} {r : R2} {f : D → D → Option Rv} (ha : SndO g ta (opd a ma)) (hb : SndO g tb (opd b mb)) (hp : P2 g r f) : SndE g (tOp r ta tb) (op2 a ma b mb f) := by
  intro F H env σ Q rv env' R e q
  unfold op2 at e
  cases h1 : opd a ma env with
  | ok o e1 =>
    rw [h1] at e
    simp only [Out.bind] at e
    cases h2 : opd b mb e1 with
    | ok o2 e2 =>
      rw [h2] at e
      simp only [Out.bind] at e
      cases h3 : rdO e2 o with
      | none => rw [h3] at e; cases e
      | some d =>
        cases h4 : rdO e2 o2 with
        | none => rw [h3, h4] at e; cases e
        | some d' =>
          rw [h3, h4] at e
          simp only at e
          cases h5 : f d d' with
          | none => rw [h5] at e; cases e
          | some rv' =>
            rw [h5] at e
            cases e
            refine ha F H env σ _ o e1 R h1 fun F1 H1 x s1 oa _ => ?_
            refine hb F1 H1 e1 σ _ o2 env' s1.rel h2 fun F2 H2 y s2 ob _ => ?_
            have s := s1.trans s2
            refine hp F2 H2 x y d d' rv Q s.rel.trk ((oa.step s1.rel s2).bor s.rel h3) (ob.bor s.rel h4) h5 fun H' v n sl fr => q F2 H' v (s.trans (.new s.rel n)) sl fun z => (fr z).back s.ext.stay
    | exc x e2 => rw [h2] at e; cases e
    | stuck => rw [h2] at e; cases e
  | exc x e1 => rw [h1] at e; cases e
  | stuck => rw [h1] at e; cases e
/-- a slot that owns is frozen -/
theorem stepFreezeVar (R : Rel g F H env σ) {i : Nat} {d : D} {a : Addr} (hs : getS env i = some (true, d)) (e1 : σ[i]? = some (some (.ref a))) :
    Step g σ F H env (andF F a) H (env.set i (some (fz d))) ∧ Fr g (andF F a) H d (.ref a) := by
  obtain ⟨a', e1', s1, oa⟩ := R.own hs
  rw [e1] at e1'; cases e1'
  have hi := getS_lt hs
  obtain ⟨b, eb, nf, ho⟩ := s1.at
  cases eb
  have sub : ∀ b, OwnAt (env.set i (some (fz d))) σ b → OwnAt env σ b ∧ b ≠ a := fun b ⟨j, d', h1, h2⟩ => by
    rw [getS_set hi] at h1
    split at h1
    · cases h1
    · rename_i ne
      refine ⟨⟨j, d', h1, h2⟩, fun z => ne ?_⟩
      subst z
      exact R.inj i j d d' b hs h1 e1 h2
  have x : Ext (OwnAt env σ) F H (andF F a) H := ⟨fun _ _ e _ => .inl e, fun _ e => e, fun _ e => .inl e, fun b e => e.elim .inl fun z => by subst z; exact .inr (.inl oa)⟩
  have xa : Ext (fun b => b = a) F H (andF F a) H := ⟨fun _ _ e _ => .inl e, fun _ e => e, fun _ e => .inl e, fun b e => e.elim .inl fun z => .inr (.inl z)⟩
  have hwa : Wk (fun b => b = a) F H := fun b e => by subst e; exact ⟨nf, ho⟩
  refine ⟨⟨⟨by simpa using R.len, fun j r h => ?_, fun j k d1 d2 b h1 h2 h3 h4 => ?_, fun b z => ?_⟩, x, fun b h => (sub b h).1, fun j r h => ?_, fun j d' b h1 h2 => ?_⟩, s1.freeze⟩
  · rw [getS_set hi] at h
    split at h
    · rename_i ej
      subst ej
      cases h
      exact ⟨_, e1, sl_fz.mpr s1.freeze⟩
    · rename_i ne
      obtain ⟨o, d'⟩ := r
      cases o with
      | false =>
        obtain ⟨v, e2, s2⟩ := R.fz h
        exact ⟨v, e2, sl_fz.mpr (s2.ext xa hwa)⟩
      | true =>
        obtain ⟨c, e2, s2, oc⟩ := R.own h
        have nc : c ≠ a := fun z => ne (R.inj i j d d' a hs h e1 (z ▸ e2))
        exact ⟨_, e2, sl_ow.mpr (s2.ext xa hwa nc fun z => z.elim (R.wk c oc).1 nc)⟩
  · rw [getS_set hi] at h1 h2
    split at h1
    · cases h1
    · split at h2
      · cases h2
      · exact R.inj j k d1 d2 b h1 h2 h3 h4
  · rcases z with z | z
    · exact R.trk b z
    · subst z
      exact R.ownTrk oa
  · by_cases ej : i = j
    · subst ej
      exact ⟨_, getS_set_self hi⟩
    · exact ⟨r, by rw [getS_set_ne ej]; exact h⟩
  · by_cases ej : i = j
    · subst ej
      rw [e1] at h2; cases h2
      exact .inr (.inr rfl)
    · exact .inl ⟨d', by rw [getS_set_ne ej]; exact h1⟩
/-- a name that goes somewhere -/
theorem snd_var (i : Nat) : SndE g (tVar i) (readV i) := by
  intro F H env σ Q r env' R e q
  unfold readV at e
  cases hs : getS env i with
  | none => rw [hs] at e; cases e
  | some r0 =>
    obtain ⟨b, d⟩ := r0
    rw [hs] at e
    cases b with
    | false =>
      cases e
      obtain ⟨v, e1, s1⟩ := R.fz hs
      exact ⟨v, e1, q F H v (.refl R) (sl_fz.mpr s1) fun z => by cases z⟩
    | true =>
      cases e
      obtain ⟨a, e1, s1, oa⟩ := R.own hs
      obtain ⟨st, f⟩ := stepFreezeVar R hs e1
      exact ⟨_, e1, q _ H _ st (sl_fz.mpr f) fun z => by cases z⟩
end
end Ev
/-! Snd3: the operators' readings and what the evaluator says of them. -/
namespace Ev
open PySem L2

section
variable {g : Gx} {F : Addr → Prop} {H H' : Hp}
theorem FrL.new {ds : List D} {xs : List V} (h : FrL g F H ds xs) (n : New H H') : FrL g F H' ds xs := h.ext (W := fun _ => False) n.ext fun _ z => z.elim
theorem FrK.new {ds : List (Key × D)} {xs : List (Key × V)} (h : FrK g F H ds xs) (n : New H H') : FrK g F H' ds xs := h.ext (W := fun _ => False) n.ext fun _ z => z.elim
theorem Fr.new {d : D} {v : V} (h : Fr g F H d v) (n : New H H') : Fr g F H' d v := h.ext (W := fun _ => False) n.ext fun _ z => z.elim
theorem fr_int {i : Int} : Fr g F H (.int i) (.int i) := by rw [Fr]
theorem fr_str {i : Str} : Fr g F H (.str i) (.str i) := by rw [Fr]
theorem fr_bl {i : Bool} : Fr g F H (.bl i) (.bl i) := by rw [Fr]
theorem fr_non : Fr g F H .non .non := by rw [Fr]
theorem sl_int {i : Int} : Sl g F H (false, .int i) (.int i) := sl_fz.mpr fr_int
theorem sl_bl {i : Bool} : Sl g F H (false, .bl i) (.bl i) := sl_fz.mpr fr_bl
theorem sl_str {i : Str} : Sl g F H (false, .str i) (.str i) := sl_fz.mpr fr_str
/-- a new list -/
theorem newL (tk : ∀ a, F a → H a ≠ none) {p : Addr} (hp : H p = none) {ds : List D} {xs : List V} (h : FrL g F H ds xs) {Q : VK}
    (q : ∀ H' v, New H H' → Sl g F H' (true, .lst ds) v → ((true, D.lst ds).1 = true → Fresh H v) → Q v H') : Q (.ref p) (upd H p (.lst xs)) :=
  q _ _ (New.upd hp) (sl_ow.mpr ⟨p, xs, rfl, fun f => tk p f hp, upd_same, h.new (New.upd hp)⟩) fun _ => ⟨p, rfl, hp⟩
theorem newD (tk : ∀ a, F a → H a ≠ none) {p : Addr} (hp : H p = none) {ds : List (Key × D)} {xs : List (Key × V)} (h : FrK g F H ds xs) {Q : VK}
    (q : ∀ H' v, New H H' → Sl g F H' (true, .dct ds) v → ((true, D.dct ds).1 = true → Fresh H v) → Q v H') : Q (.ref p) (upd H p (.dK xs)) :=
  q _ _ (New.upd hp) (sl_ow.mpr ⟨p, xs, rfl, fun f => tk p f hp, upd_same, h.new (New.upd hp)⟩) fun _ => ⟨p, rfl, hp⟩
theorem newT {p : Addr} (hp : H p = none) {ds : List D} {xs : List V} (h : FrL g F H ds xs) {Q : VK}
    (q : ∀ H' v, New H H' → Sl g F H' (false, .tup ds) v → ((false, D.tup ds).1 = true → Fresh H v) → Q v H') : Q (.ref p) (upd H p (.tup xs)) :=
  q _ _ (New.upd hp) (sl_fz.mpr (by rw [Fr]; exact ⟨p, xs, rfl, .inl (.inl upd_same), h.new (New.upd hp)⟩)) fun z => by cases z
theorem bor_int {i : Int} {v : V} (h : Bor g F H (.int i) v) : v = .int i := by
  have h : Fr g F H (.int i) v := h
  rw [Fr] at h; exact h
theorem bor_str {i : Str} {v : V} (h : Bor g F H (.str i) v) : v = .str i := by
  have h : Fr g F H (.str i) v := h
  rw [Fr] at h; exact h
theorem bor_bl {i : Bool} {v : V} (h : Bor g F H (.bl i) v) : v = .bl i := by
  have h : Fr g F H (.bl i) v := h
  rw [Fr] at h; exact h
theorem bor_non {v : V} (h : Bor g F H .non v) : v = .non := by
  have h : Fr g F H .non v := h
  rw [Fr] at h; exact h
theorem bor_tup {ds : List D} {v : V} (h : Bor g F H (.tup ds) v) : ∃ a xs, v = .ref a ∧ SqT g.K H a xs ∧ FrL g F H ds xs := by
  have h : Fr g F H (.tup ds) v := h
  rw [Fr] at h; exact h
theorem bor_scr {ns : List Int} {v : V} (h : Bor g F H (.scr ns) v) : ∃ a, v = .ref a ∧ SqL g.K H a (ns.map V.int) := by
  have h : Fr g F H (.scr ns) v := h
  rw [Fr] at h
  obtain ⟨a, e, ⟨o, h⟩ | h⟩ := h
  · exact ⟨a, e, .inl (.inr ⟨o, h⟩)⟩
  · refine ⟨a, e, .inr ?_⟩
    rcases h with (h | ⟨o, h⟩) | h
    · cases h
    · cases h
    · exact h
theorem frL_flatten {ds : List D} {xs : List V} (h : FrL g F H ds xs) : ∀ n : Nat, FrL g F H (List.replicate n ds).flatten (List.replicate n xs).flatten
  | 0 => by simp; exact FrL.nil
  | n + 1 => by
    rw [List.replicate_succ, List.replicate_succ, List.flatten_cons, List.flatten_cons]
    exact h.app (frL_flatten h n)
end

/-! ### arithmetic -/
def rStrAdd : R2 := fun x y H Q => ∃ i j, x = .str i ∧ y = .str j ∧ i.length + j.length ≤ sizeLine ∧ Q (.str (i ++ j)) H
def rBin (K : PySem.W.Frag) : BOp → R2
  | .add => fun x y H Q => rI0 (fun i j => .int (i + j)) x y H Q ∨ rStrAdd x y H Q ∨ rCat x y H Q ∨ rCatA K x y H Q
  | .sub => rI0 fun i j => .int (i - j)
  | .mul => fun x y H Q => rI CMul (fun i j => .int (i * j)) x y H Q ∨ rRep x y H Q
  | .fdiv => rI CDiv fun i j => .int (i / j)
  | .mod => rI (fun _ j => 0 < j) fun i j => .int (i % j)
  | .pow => rI CPow fun i j => .int (i ^ j.toNat)
theorem mulOk_c {i j : Int} (h : mulOk i j = true) : CMul i j := by
  unfold mulOk at h
  simp only [Bool.or_eq_true, Bool.and_eq_true, decide_eq_true_eq] at h
  exact h
theorem powOk_c {i j : Int} (h : powOk i j = true) : CPow i j := by
  unfold powOk at h
  simp only [Bool.and_eq_true, decide_eq_true_eq] at h
  exact ⟨h.1.1, h.1.2, h.2⟩
theorem p2_bin {g : Gx} (o : BOp) : P2 g (rBin g.K o) (binD o) := by
  intro F H x y d e rv Q tk hx hy he q
  unfold binD at he
  split at he
  · cases he
    cases bor_int hx; cases bor_int hy
    exact .inl ⟨_, _, rfl, rfl, q _ _ .refl sl_int fun z => by cases z⟩
  · split at he
    · cases he
      rename_i hl
      cases bor_str hx; cases bor_str hy
      exact .inr (.inl ⟨_, _, rfl, rfl, hl, q _ _ .refl sl_str fun z => by cases z⟩)
    · cases he
  · split at he
    · cases he
      rename_i hl
      obtain ⟨a, xs, rfl, h1, h2⟩ := hx
      obtain ⟨b, ys, rfl, h3, h4⟩ := hy
      exact .inr (.inr (.inl ⟨a, b, xs, ys, rfl, rfl, h1, h3, by rw [← h2.length, ← h4.length]; exact hl, fun p hp => newL tk hp (h2.app h4) q⟩))
    · cases he
  · split at he
    · cases he
      rename_i hl
      have hx0 := hx
      have hy0 := hy
      obtain ⟨a, xs, rfl, h1, h2⟩ := bor_tup hx
      obtain ⟨b, ys, rfl, h3, h4⟩ := bor_tup hy
      refine .inr (.inr (.inr ⟨a, b, xs, ys, rfl, rfl, h1, h3, by rw [← h2.length, ← h4.length]; exact hl, fun e => ?_, fun _ e => ?_, fun _ _ p hp => newT hp (h2.app h4) q⟩))
      · subst e
        have e2 := List.length_eq_zero_iff.mp h2.length
        subst e2
        exact q _ _ .refl (sl_fz.mpr hy0) fun z => by cases z
      · subst e
        have e2 := List.length_eq_zero_iff.mp h4.length
        subst e2
        rw [List.append_nil] at q
        exact q _ _ .refl (sl_fz.mpr hx0) fun z => by cases z
    · cases he
  · cases he
    cases bor_int hx; cases bor_int hy
    exact ⟨_, _, rfl, rfl, q _ _ .refl sl_int fun z => by cases z⟩
  · split at he
    · cases he
      rename_i hl
      cases bor_int hx; cases bor_int hy
      exact .inl ⟨_, _, rfl, rfl, mulOk_c hl, q _ _ .refl sl_int fun z => by cases z⟩
    · cases he
  · split at he
    · cases he
      rename_i hl
      obtain ⟨a, xs, rfl, h1, h2⟩ := hx
      cases bor_int hy
      exact .inr ⟨a, _, xs, rfl, rfl, h1, hl.1, hl.2.1, by rw [← h2.length]; exact hl.2.2, fun p hp => newL tk hp (frL_flatten h2 _) q⟩
    · cases he
  · split at he
    · cases he
      rename_i hl
      cases bor_int hx; cases bor_int hy
      exact ⟨_, _, rfl, rfl, hl, q _ _ .refl sl_int fun z => by cases z⟩
    · cases he
  · split at he
    · cases he
      rename_i hl
      cases bor_int hx; cases bor_int hy
      exact ⟨_, _, rfl, rfl, hl, q _ _ .refl sl_int fun z => by cases z⟩
    · cases he
  · split at he
    · cases he
      rename_i hl
      cases bor_int hx; cases bor_int hy
      exact ⟨_, _, rfl, rfl, powOk_c hl, q _ _ .refl sl_int fun z => by cases z⟩
    · cases he
  · cases he

/-! ### comparisons -/
section
variable {g : Gx} {F : Addr → Prop} {H : Hp}
mutual
theorem Fr.dp : ∀ {d : D} {v : V}, Fr g F H d v → (py d).hasDict = false → Dp g.K H v (py d)
  | .non, v, h, c => by rw [Fr] at h; subst h; exact .non
  | .bl b, v, h, c => by rw [Fr] at h; subst h; exact .bl b
  | .int b, v, h, c => by rw [Fr] at h; subst h; exact .int b
  | .str b, v, h, c => by rw [Fr] at h; subst h; exact .str b
  | .lst ds, v, h, c => by
    rw [Fr] at h
    obtain ⟨a, xs, rfl, _, h1, h2⟩ := h
    exact .lst (SqL.of h1) (FrL.dp h2 (by rw [py, PyData.hasDict] at c; exact c))
  | .tup ds, v, h, c => by
    rw [Fr] at h
    obtain ⟨a, xs, rfl, h1, h2⟩ := h
    exact .tup h1 (FrL.dp h2 (by rw [py, PyData.hasDict] at c; exact c))
  | .dct kvs, v, h, c => by rw [py, PyData.hasDict] at c; cases c
  | .fn i, v, h, c => by rw [py, PyData.hasDict] at c; cases c
  | .scr ns, v, h, c => by rw [py, PyData.hasDict] at c; cases c
  | .er _ _, v, h, c => by rw [py, PyData.hasDict] at c; cases c
theorem FrL.dp : ∀ {ds : List D} {xs : List V}, FrL g F H ds xs → PyData.hasDictAll (pys ds) = false → DpAll g.K H xs (pys ds)
  | [], xs, h, c => by rw [FrL] at h; subst h; exact .nil
  | d :: ds, xs, h, c => by
    rw [FrL] at h
    obtain ⟨x, r, rfl, h1, h2⟩ := h
    rw [pys, PyData.hasDictAll, Bool.or_eq_false_iff] at c
    exact .cons (Fr.dp h1 c.1) (FrL.dp h2 c.2)
end
theorem Bor.dp {d : D} {v : V} (h : Bor g F H d v) (c : (py d).hasDict = false) : Dp g.K H v (py d) := by
  cases d with
  | lst ds =>
    obtain ⟨a, xs, rfl, h1, h2⟩ := h
    exact .lst (SqL.of h1) (h2.dp (by rw [py, PyData.hasDict] at c; exact c))
  | dct kvs => rw [py, PyData.hasDict] at c; cases c
  | _ => exact Fr.dp (F := F) h c
theorem frL_flat : ∀ {ds : List D} {xs : List V}, FrL g F H ds xs → ds.all flatD = true → xs.all flatV = true
  | [], xs, h, c => by rw [FrL] at h; subst h; rfl
  | d :: ds, xs, h, c => by
    rw [FrL] at h
    obtain ⟨x, r, rfl, h1, h2⟩ := h
    rw [List.all_cons, Bool.and_eq_true] at c ⊢
    refine ⟨?_, frL_flat h2 c.2⟩
    cases d <;> first | (rw [Fr] at h1; subst h1; rfl) | cases c.1
theorem fr_eqF {d e : D} {x y : V} (h1 : Fr g F H d x) (h2 : Fr g F H e y) (c1 : flatD d = true) (c2 : flatD e = true) : eqV x y = eqF d e := by
  cases d <;> first | (simp [flatD] at c1; done) | skip
  all_goals (cases e <;> first | (simp [flatD] at c2; done) | (simp only [Fr] at h1 h2; subst h1; subst h2; rfl))
theorem frL_any {e : D} {y : V} (he : Fr g F H e y) (ce : flatD e = true) : ∀ {ds : List D} {xs : List V}, FrL g F H ds xs → ds.all flatD = true → (xs.any fun z => eqV z y) = ds.any fun z => eqF z e
  | [], xs, h, c => by rw [FrL] at h; subst h; rfl
  | d :: ds, xs, h, c => by
    rw [FrL] at h
    obtain ⟨x, r, rfl, h1, h2⟩ := h
    rw [List.all_cons, Bool.and_eq_true] at c
    rw [List.any_cons, List.any_cons, frL_any he ce h2 c.2, fr_eqF h1 he c.1 ce]
theorem bor_flat {d : D} {v : V} (h : Bor g F H d v) (c : flatD d = true) : Fr g F H d v ∧ flatV v = true := by
  cases d <;> first | (simp [flatD] at c; done) | skip
  · cases bor_non h; exact ⟨fr_non, rfl⟩
  · cases bor_bl h; exact ⟨fr_bl, rfl⟩
  · cases bor_int h; exact ⟨fr_int, rfl⟩
  · cases bor_str h; exact ⟨fr_str, rfl⟩
theorem keyD_kV {d : D} {v : V} {k : Key} (h : Bor g F H d v) (e : keyD d = some k) : v = kV k := by
  cases d <;> first | cases e | skip
  · cases bor_int h; rfl
  · cases bor_str h; rfl
theorem frK_val : ∀ {kvs : List (Key × D)} {ws : List (Key × V)} (k : Key), FrK g F H kvs ws → (valD kvs k = none ∧ valV ws k = none) ∨ ∃ d v, valD kvs k = some d ∧ valV ws k = some v ∧ Fr g F H d v
  | [], ws, k, h => by rw [FrK] at h; subst h; exact .inl ⟨rfl, rfl⟩
  | (k', d) :: r, ws, k, h => by
    rw [FrK] at h
    obtain ⟨x, s, rfl, h1, h2⟩ := h
    by_cases e : k' = k
    · subst e
      exact .inr ⟨d, x, by simp [valD], by simp [valV], h1⟩
    · have e1 : valD ((k', d) :: r) k = valD r k := by simp [valD, List.find?_cons, e]
      have e2 : valV ((k', x) :: s) k = valV s k := by simp [valV, List.find?_cons, e]
      rw [e1, e2]
      exact frK_val k h2
theorem frK_some {kvs : List (Key × D)} {ws : List (Key × V)} (k : Key) (h : FrK g F H kvs ws) : (valV ws k).isSome = (valD kvs k).isSome := by
  rcases frK_val k h with ⟨h1, h2⟩ | ⟨d, v, h1, h2, _⟩ <;> rw [h1, h2] <;> rfl
end
def rDIn (neg : Bool) : R2 := fun y x H Q => ∃ a o, x = .ref a ∧ DGet H a y o ∧ Q (.bl (if neg then !o.isSome else o.isSome)) H
def rInStr (neg : Bool) : R2 := fun x y H Q => ∃ i j, x = .str i ∧ y = .str j ∧ Q (.bl (if neg then !(!(Builtin.Str.occurrences j i 0 j.length 1).isEmpty) else !(Builtin.Str.occurrences j i 0 j.length 1).isEmpty)) H
/-- a list or tuple beside an empty one -/
def rEq0 (K : PySem.W.Frag) (neg : Bool) : R2 := fun x y H Q => ∃ a b xs ys, x = .ref a ∧ y = .ref b ∧ ((SqL K H a xs ∧ SqL K H b ys) ∨ (SqT K H a xs ∧ SqT K H b ys)) ∧ (xs = [] ∨ ys = []) ∧ Q (.bl (if neg then !(xs.isEmpty && ys.isEmpty) else xs.isEmpty && ys.isEmpty)) H
def rLeStr : R2 := fun x y H Q => ∃ i j, x = .str i ∧ y = .str j ∧ Q (.bl (!decide (j.cps.toList < i.cps.toList))) H
def rCmp (K : PySem.W.Frag) : COp → R2
  | .lt => rI0 fun i j => .bl (decide (i < j))
  | .le => fun x y H Q => rI0 (fun i j => .bl (decide (i ≤ j))) x y H Q ∨ rLeStr x y H Q
  | .gt => rI0 fun i j => .bl (decide (j < i))
  | .ge => rI0 fun i j => .bl (decide (j ≤ i))
  | .eq => fun x y H Q => rEq x y H Q ∨ rEq0 K false x y H Q ∨ rEqD K x y H Q
  | .ne => fun x y H Q => rNe x y H Q ∨ rEq0 K true x y H Q ∨ rNeD K x y H Q
  | .isin => fun x y H Q => rIn K false x y H Q ∨ rDIn false x y H Q ∨ rInStr false x y H Q ∨ rInD K x y H Q
  | .notin => fun x y H Q => rIn K true x y H Q ∨ rDIn true x y H Q ∨ rInStr true x y H Q ∨ rNotInD K x y H Q
theorem isEmpty_len {ds : List D} {xs : List V} (h : ds.length = xs.length) : xs.isEmpty = ds.isEmpty := by
  cases ds <;> cases xs <;> simp_all
theorem scal_ok {g : Gx} {F : Addr → Prop} {H : Hp} {d e : D} {x y : V} {b : Bool} (hx : Bor g F H d x) (hy : Bor g F H e y) (h : scalD d e = some b) :
    (scal x y = true ∧ decide (x = y) = b) ∨ ∃ a c xs ys, x = .ref a ∧ y = .ref c ∧ ((SqL g.K H a xs ∧ SqL g.K H c ys) ∨ (SqT g.K H a xs ∧ SqT g.K H c ys)) ∧ (xs = [] ∨ ys = []) ∧ (xs.isEmpty && ys.isEmpty) = b := by
  unfold scalD at h
  split at h <;> first | cases h | skip
  · cases bor_non hx; cases bor_non hy; exact .inl ⟨rfl, rfl⟩
  · cases bor_non hx; cases bor_int hy; exact .inl ⟨rfl, rfl⟩
  · cases bor_int hx; cases bor_non hy; exact .inl ⟨rfl, rfl⟩
  · cases bor_non hx; cases bor_bl hy; exact .inl ⟨rfl, rfl⟩
  · cases bor_bl hx; cases bor_non hy; exact .inl ⟨rfl, rfl⟩
  · cases bor_non hx; cases bor_str hy; exact .inl ⟨rfl, rfl⟩
  · cases bor_str hx; cases bor_non hy; exact .inl ⟨rfl, rfl⟩
  · cases bor_int hx; cases bor_int hy; exact .inl ⟨rfl, by simp⟩
  · cases bor_bl hx; cases bor_bl hy; exact .inl ⟨rfl, by simp⟩
  · cases bor_str hx; cases bor_str hy; exact .inl ⟨rfl, by simp⟩
  · cases bor_int hx; cases bor_str hy; exact .inl ⟨rfl, rfl⟩
  · cases bor_str hx; cases bor_int hy; exact .inl ⟨rfl, rfl⟩
  · cases bor_bl hx; cases bor_str hy; exact .inl ⟨rfl, rfl⟩
  · cases bor_str hx; cases bor_bl hy; exact .inl ⟨rfl, rfl⟩
  · obtain ⟨a, xs, rfl, h1, h2⟩ := hx
    obtain ⟨c, ys, rfl, h3, h4⟩ := hy
    have e4 : ys = [] := by rw [FrL] at h4; exact h4
    exact .inr ⟨a, c, xs, ys, rfl, rfl, .inl ⟨SqL.of h1, SqL.of h3⟩, .inr e4, by rw [e4, isEmpty_len h2.length]; simp⟩
  · obtain ⟨a, xs, rfl, h1, h2⟩ := hx
    obtain ⟨c, ys, rfl, h3, h4⟩ := hy
    have e4 : xs = [] := by rw [FrL] at h2; exact h2
    exact .inr ⟨a, c, xs, ys, rfl, rfl, .inl ⟨SqL.of h1, SqL.of h3⟩, .inl e4, by rw [e4, isEmpty_len h4.length]; simp⟩
  · obtain ⟨a, xs, rfl, h1, h2⟩ := bor_tup hx
    obtain ⟨c, ys, rfl, h3, h4⟩ := bor_tup hy
    have e4 : ys = [] := by rw [FrL] at h4; exact h4
    exact .inr ⟨a, c, xs, ys, rfl, rfl, .inr ⟨h1, h3⟩, .inr e4, by rw [e4, isEmpty_len h2.length]; simp⟩
  · obtain ⟨a, xs, rfl, h1, h2⟩ := bor_tup hx
    obtain ⟨c, ys, rfl, h3, h4⟩ := bor_tup hy
    have e4 : xs = [] := by rw [FrL] at h2; exact h2
    exact .inr ⟨a, c, xs, ys, rfl, rfl, .inr ⟨h1, h3⟩, .inl e4, by rw [e4, isEmpty_len h4.length]; simp⟩
theorem eq_ok {g : Gx} {F : Addr → Prop} {H : Hp} {d e : D} {x y : V} {b : Bool} {Q : VK} (hx : Bor g F H d x) (hy : Bor g F H e y) (h : eqD d e = some b) :
    (Q (.bl b) H → rCmp g.K .eq x y H Q) ∧ (Q (.bl (!b)) H → rCmp g.K .ne x y H Q) := by
  unfold eqD at h
  cases hs : scalD d e with
  | some b' =>
    rw [hs] at h
    cases h
    rcases scal_ok hx hy hs with ⟨h1, h2⟩ | ⟨a, c, xs, ys, h1, h2, h3, h4, h5⟩
    · exact ⟨fun q => .inl ⟨h1, by rw [h2]; exact q⟩, fun q => .inl ⟨h1, by rw [h2]; exact q⟩⟩
    · exact ⟨fun q => .inr (.inl ⟨a, c, xs, ys, h1, h2, h3, h4, by rw [if_neg (by decide), h5]; exact q⟩), fun q => .inr (.inl ⟨a, c, xs, ys, h1, h2, h3, h4, by rw [if_pos rfl, h5]; exact q⟩)⟩
  | none =>
    rw [hs] at h
    simp only at h
    split at h
    · rename_i c
      cases h
      have d1 := hx.dp (PyData.hasDict_of_canLay _ (SeqAt.canLay_of_shaped c.1))
      have d2 := hy.dp (PyData.hasDict_of_canLay _ (SeqAt.canLay_of_shaped c.2))
      exact ⟨fun q => .inr (.inr ⟨_, _, d1, d2, c.1, c.2, q⟩), fun q => .inr (.inr ⟨_, _, d1, d2, c.1, c.2, q⟩)⟩
    · cases h
theorem in_ok {g : Gx} {F : Addr → Prop} {H : Hp} {d e : D} {x y : V} {b : Bool} {Q : VK} (hx : Bor g F H d x) (hy : Bor g F H e y) (h : inD d e = some b) :
    (Q (.bl b) H → rCmp g.K .isin x y H Q) ∧ (Q (.bl (!b)) H → rCmp g.K .notin x y H Q) := by
  unfold inD at h
  split at h
  · split at h
    · rename_i c
      cases h
      rw [Bool.and_eq_true] at c
      obtain ⟨a, ys, rfl, h1, h2⟩ := hy
      obtain ⟨f1, f2⟩ := bor_flat hx c.1
      have e := frL_any f1 c.1 h2 c.2
      exact ⟨fun q => .inl ⟨a, ys, rfl, .inl (SqL.of h1), f2, frL_flat h2 c.2, by rw [if_neg (by decide), inV, e]; exact q⟩, fun q => .inl ⟨a, ys, rfl, .inl (SqL.of h1), f2, frL_flat h2 c.2, by rw [if_pos rfl, inV, e]; exact q⟩⟩
    · split at h
      · rename_i ys' _ c
        cases h
        have d1 := hx.dp (PyData.hasDict_of_canLay _ (SeqAt.canLay_of_shaped c.1))
        have d2 := Bor.dp (d := .lst ys') hy (PyData.hasDict_of_canLay _ (SeqAt.canLay_of_shaped c.2))
        have c2 := c.2
        rw [py] at d2 c2
        exact ⟨fun q => .inr (.inr (.inr ⟨_, _, d1, d2, c.1, c2, q⟩)), fun q => .inr (.inr (.inr ⟨_, _, d1, d2, c.1, c2, q⟩))⟩
      · cases h
  · split at h
    · rename_i c
      cases h
      rw [Bool.and_eq_true] at c
      obtain ⟨a, ys, rfl, h1, h2⟩ := bor_tup hy
      obtain ⟨f1, f2⟩ := bor_flat hx c.1
      have e := frL_any f1 c.1 h2 c.2
      exact ⟨fun q => .inl ⟨a, ys, rfl, .inr h1, f2, frL_flat h2 c.2, by rw [if_neg (by decide), inV, e]; exact q⟩, fun q => .inl ⟨a, ys, rfl, .inr h1, f2, frL_flat h2 c.2, by rw [if_pos rfl, inV, e]; exact q⟩⟩
    · cases h
  · obtain ⟨a, ws, rfl, h1, h2⟩ := hy
    cases hk : keyD d with
    | none => rw [hk] at h; cases h
    | some k =>
      rw [hk] at h
      cases h
      have ek := keyD_kV hx hk
      subst ek
      have e := frK_some k h2
      have dg : DGet H a (kV k) (valV ws k) := .inl ⟨ws, k, h1, rfl, rfl⟩
      exact ⟨fun q => .inr (.inl ⟨a, _, rfl, dg, by rw [if_neg (by decide), e]; exact q⟩), fun q => .inr (.inl ⟨a, _, rfl, dg, by rw [if_pos rfl, e]; exact q⟩)⟩
  · split at h
    · cases h
      cases bor_str hx; cases bor_str hy
      exact ⟨fun q => .inr (.inr (.inl ⟨_, _, rfl, rfl, q⟩)), fun q => .inr (.inr (.inl ⟨_, _, rfl, rfl, q⟩))⟩
    · cases h
  · cases h
theorem p2_cmp {g : Gx} (o : COp) : P2 g (rCmp g.K o) (fun x y => (cmpD o x y).map fun k => fz (.bl k)) := by
  intro F H x y d e rv Q tk hx hy he q
  have fin : ∀ b : Bool, rv = fz (.bl b) → Q (.bl b) H := fun b eb => by
    subst eb
    exact q _ _ .refl sl_bl fun z => by cases z
  simp only at he
  cases hc : cmpD o d e with
  | none => rw [hc] at he; cases he
  | some b =>
    rw [hc] at he
    cases he
    have fq := fin b rfl
    unfold cmpD at hc
    split at hc
    · cases hc; cases bor_int hx; cases bor_int hy; exact ⟨_, _, rfl, rfl, fq⟩
    · cases hc; cases bor_int hx; cases bor_int hy; exact .inl ⟨_, _, rfl, rfl, fq⟩
    · cases hc; cases bor_int hx; cases bor_int hy; exact ⟨_, _, rfl, rfl, fq⟩
    · cases hc; cases bor_int hx; cases bor_int hy; exact ⟨_, _, rfl, rfl, fq⟩
    · cases hc; cases bor_str hx; cases bor_str hy; exact .inr ⟨_, _, rfl, rfl, fq⟩
    · exact (eq_ok hx hy hc).1 fq
    · cases he : eqD d e with
      | none => rw [he] at hc; cases hc
      | some b' => rw [he] at hc; cases hc; exact (eq_ok hx hy he).2 fq
    · exact (in_ok hx hy hc).1 fq
    · cases he : inD d e with
      | none => rw [he] at hc; cases hc
      | some b' => rw [he] at hc; cases hc; exact (in_ok hx hy he).2 fq
    · cases hc
end Ev
/-! RuZ2: the evaluator's data with dicts, as they are read for repr. -/
namespace Ev
open PySem L2
section
variable {X : Cx} {pins : List (Addr × Obj)} {σ : St} {H : Hp} {s : Shared} {g : Gx} {F : Addr → Prop}
theorem key_rz {h : Heap} : ∀ {k : Key} {u : Value}, keyIs k u = true → Rdz h u (pk k)
  | k, u, e => by
    rcases keyIs_shape e with ⟨i, t, rfl, rfl⟩ | ⟨x, t, rfl, rfl⟩
    · exact .int i t
    · exact .str x t
mutual
theorem Fr.rz (I : Inv X pins σ H s) (hK : g.K = X.K) : ∀ (d : D) {v : V} {u : Value}, Fr g F H d v → plnD d = true → RelV v u → Rdz s.heap u (pz d)
  | .non, v, u, h, _, r => by
    rw [Fr] at h
    subst h
    cases r
    rw [pz]
    exact .non
  | .bl b, v, u, h, _, r => by
    rw [Fr] at h
    subst h
    cases r
    rw [pz]
    exact .bl b
  | .int i, v, u, h, _, r => by
    rw [Fr] at h
    subst h
    obtain ⟨t, rfl⟩ := r
    rw [pz]
    exact .int i t
  | .str x, v, u, h, _, r => by
    rw [Fr] at h
    subst h
    obtain ⟨t, rfl⟩ := r
    rw [pz]
    exact .str x t
  | .lst ds, v, u, h, p, r => by
    rw [Fr] at h
    obtain ⟨a, xs, rfl, _, h1, h2⟩ := h
    cases r
    obtain ⟨its, rv, ⟨o, n, ho, hc, _, hd⟩, _⟩ := I.list (SqL.of h1)
    rw [plnD] at p
    rw [pz]
    exact .lst ho hc hd (FrL.rz I hK ds h2 p rv)
  | .tup ds, v, u, h, p, r => by
    rw [Fr] at h
    obtain ⟨a, xs, rfl, h1, h2⟩ := h
    cases r
    rw [hK] at h1
    obtain ⟨its, rv, ⟨o, ho, hc, n, hd⟩, _⟩ := I.tuple h1
    rw [plnD] at p
    rw [pz]
    exact .tup ho hc hd (FrL.rz I hK ds h2 p rv)
  | .dct kvs, v, u, h, p, r => by
    rw [Fr] at h
    obtain ⟨a, ws, rfl, _, h1, h2⟩ := h
    cases r
    obtain ⟨_, hs, vs, rel, o, es, ep, ho, hx, hd, _, hp, _⟩ := dk_rd I.hok h1
    rw [plnD] at p
    rw [pz]
    obtain ⟨q1, q2⟩ := FrK.rz I hK kvs h2 p rel hp
    exact .dct hs ho hx.1 hd q1 q2
  | .fn i, v, u, h, p, r => by
    rw [plnD] at p
    cases p
  | .scr ns, v, u, h, p, r => by
    rw [plnD] at p
    cases p
  | .er _ _, v, u, h, p, r => by
    rw [plnD] at p
    cases p
theorem FrL.rz (I : Inv X pins σ H s) (hK : g.K = X.K) : ∀ (ds : List D) {xs : List V} {us : List Value}, FrL g F H ds xs → plnDs ds = true → Vals xs us → Rdzs s.heap us (pzs ds)
  | [], xs, us, h, _, r => by
    rw [FrL] at h
    subst h
    cases r
    rw [pzs]
    exact .nil
  | d :: ds, xs, us, h, p, r => by
    rw [FrL] at h
    obtain ⟨x, ys, rfl, h1, h2⟩ := h
    rw [plnDs, Bool.and_eq_true] at p
    cases r with
    | cons r1 r2 =>
      rw [pzs]
      exact .cons (Fr.rz I hK d h1 p.1 r1) (FrL.rz I hK ds h2 p.2 r2)
theorem FrK.rz (I : Inv X pins σ H s) (hK : g.K = X.K) : ∀ (kvs : List (Key × D)) {ws : List (Key × V)} {vs : List (Key × Value)} {es : List DictEntry}, FrK g F H kvs ws → plnDk kvs = true → KV ws vs → Pairs (mixKind X.prog X.w) es vs → Rdzs s.heap (es.map (·.key)) ((pzk kvs).map (·.1)) ∧ Rdzs s.heap (es.map (·.val)) ((pzk kvs).map (·.2))
  | [], ws, vs, es, h, _, r, q => by
    rw [FrK] at h
    subst h
    cases r
    cases q
    rw [pzk]
    exact ⟨.nil, .nil⟩
  | (k, d) :: kvs, ws, vs, es, h, p, r, q => by
    rw [FrK] at h
    obtain ⟨x, ys, rfl, h1, h2⟩ := h
    rw [plnDk, Bool.and_eq_true] at p
    cases r with
    | cons r1 r2 =>
      cases q with
      | cons q1 q2 q3 =>
        obtain ⟨e1, e2⟩ := r1
        obtain ⟨a1, a2⟩ := FrK.rz I hK kvs h2 p.2 r2 q3
        have e1 : k = _ := e1
        rw [pzk, List.map_cons, List.map_cons, List.map_cons, List.map_cons]
        refine ⟨.cons (key_rz (by rw [e1]; exact q1)) a1, .cons ?_ a2⟩
        rw [q2]
        exact Fr.rz I hK d h1 p.1 e2
end
theorem Bor.rz (I : Inv X pins σ H s) (hK : g.K = X.K) {d : D} {v : V} {u : Value} (h : Bor g F H d v) (p : plnD d = true) (r : RelV v u) : Rdz s.heap u (pz d) := by
  cases d with
  | lst ds =>
    obtain ⟨a, xs, rfl, h1, h2⟩ := h
    cases r
    obtain ⟨its, rv, ⟨o, n, ho, hc, _, hd⟩, _⟩ := I.list (SqL.of h1)
    rw [plnD] at p
    rw [pz]
    exact .lst ho hc hd (FrL.rz I hK ds h2 p rv)
  | dct kvs =>
    obtain ⟨a, ws, rfl, h1, h2⟩ := h
    cases r
    obtain ⟨_, hs, vs, rel, o, es, ep, ho, hx, hd, _, hp, _⟩ := dk_rd I.hok h1
    rw [plnD] at p
    rw [pz]
    obtain ⟨q1, q2⟩ := FrK.rz I hK kvs h2 p rel hp
    exact .dct hs ho hx.1 hd q1 q2
  | _ => exact Fr.rz (F := F) I hK _ h p r
end
end Ev
/-! Snd4: more operators. -/
namespace Ev
open PySem L2

section
variable {g : Gx} {F : Addr → Prop} {H : Hp}
theorem tru_of {d : D} {v : V} {k : Bool} (h : Bor g F H d v) (e : truD d = some k) : TruV g.K v H k := by
  unfold truD at e
  split at e
  · cases e; cases bor_non h; rfl
  · cases e; cases bor_bl h; rfl
  · cases e; cases bor_int h; rfl
  · split at e
    · rename_i hl
      cases e; cases bor_str h; exact ⟨hl, rfl⟩
    · cases e
  · cases e
    obtain ⟨a, xs, rfl, h1, h2⟩ := h
    exact .inl ⟨xs, SqL.of h1, by rw [isEmpty_len h2.length]⟩
  · cases e
    obtain ⟨a, xs, rfl, h1, h2⟩ := bor_tup h
    exact .inr (.inl ⟨xs, h1, by rw [isEmpty_len h2.length]⟩)
  · cases e
def isNonD : D → Bool
  | .non => true
  | _ => false
theorem non_of {d : D} {v : V} (h : Bor g F H d v) : decide (v = .non) = isNonD d := by
  cases d with
  | non => cases bor_non h; rfl
  | bl b => cases bor_bl h; rfl
  | int b => cases bor_int h; rfl
  | str b => cases bor_str h; rfl
  | lst ds => obtain ⟨a, xs, rfl, _⟩ := h; rfl
  | tup ds => obtain ⟨a, xs, rfl, _⟩ := bor_tup h; rfl
  | dct ds => obtain ⟨a, xs, rfl, _⟩ := h; rfl
  | fn i =>
    have h : Fr g F H (.fn i) v := h
    rw [Fr] at h
    obtain ⟨f, rfl, _⟩ := h
    rfl
  | scr ns => obtain ⟨a, rfl, _⟩ := bor_scr h; rfl
  | er c fs =>
    have h : Fr g F H (.er c fs) v := h
    rw [Fr] at h
    obtain ⟨f, C, ws, rfl, _⟩ := h
    rfl
end
def rNeg : V → Hp → VK → Prop := rU fun i => .int (-i)
theorem p1_neg {g : Gx} : P1 g rNeg (fun d => match d with | .int i => some (fz (.int (-i))) | _ => none) := by
  intro F H x d rv Q tk hx he q
  simp only at he
  split at he
  · cases he; cases bor_int hx
    exact ⟨_, rfl, q _ _ .refl sl_int fun z => by cases z⟩
  · cases he
def rNotT (K : PySem.W.Frag) : V → Hp → VK → Prop := fun x H Q => ∃ k, TruV K x H k ∧ Q (.bl (!k)) H
theorem p1_not {g : Gx} : P1 g (rNotT g.K) (fun d => (truD d).map fun k => fz (.bl (!k))) := by
  intro F H x d rv Q tk hx he q
  simp only at he
  cases ht : truD d with
  | none => rw [ht] at he; cases he
  | some k =>
    rw [ht] at he; cases he
    exact ⟨k, tru_of hx ht, q _ _ .refl sl_bl fun z => by cases z⟩
def rIsN : V → Hp → VK → Prop := fun x H Q => Q (.bl (decide (x = .non))) H
def rNotN : V → Hp → VK → Prop := fun x H Q => Q (.bl (!decide (x = .non))) H
theorem p1_isN {g : Gx} : P1 g rIsN (fun d => some (fz (.bl (match d with | .non => true | _ => false)))) := by
  intro F H x d rv Q tk hx he q
  cases he
  have e := non_of hx
  unfold rIsN
  rw [e]
  refine q _ _ .refl ?_ fun z => by cases z
  cases d <;> exact sl_bl
theorem p1_isNN {g : Gx} : P1 g rNotN (fun d => some (fz (.bl (match d with | .non => false | _ => true)))) := by
  intro F H x d rv Q tk hx he q
  cases he
  have e := non_of hx
  unfold rNotN
  rw [e]
  refine q _ _ .refl ?_ fun z => by cases z
  cases d <;> exact sl_bl

/-! ### items, slices -/
def rDGet' : R2 := fun x y H Q => ∃ a v, x = .ref a ∧ DGet H a y (some v) ∧ Q v H
def rIdx (K : PySem.W.Frag) : R2 := fun x y H Q => rIx K x y H Q ∨ rDGet' x y H Q
theorem frL_at {g : Gx} {F : Addr → Prop} {H : Hp} {ds : List D} {xs : List V} {i : Int} {d : D} (h : FrL g F H ds xs) (e : atI ds i = some d) : ∃ x, atI xs i = some x ∧ Fr g F H d x := by
  unfold atI at e ⊢
  rw [← h.length]
  cases hi : ixN ds.length i with
  | none => rw [hi] at e; cases e
  | some j =>
    rw [hi] at e
    exact h.get e
theorem p2_idx {g : Gx} : P2 g (rIdx g.K) (fun x y => (idxD x y).map fz) := by
  intro F H x y d e rv Q tk hx hy he q
  simp only at he
  cases hi : idxD d e with
  | none => rw [hi] at he; cases he
  | some r =>
    rw [hi] at he; cases he
    have fin : ∀ v, Fr g F H r v → Q v H := fun v f => q _ _ .refl (sl_fz.mpr f) fun z => by cases z
    unfold idxD at hi
    split at hi
    · obtain ⟨a, xs, rfl, h1, h2⟩ := hx
      cases bor_int hy
      obtain ⟨v, e1, f⟩ := frL_at h2 hi
      exact .inl (.inl ⟨a, xs, _, v, rfl, rfl, SqL.of h1, e1, fin v f⟩)
    · obtain ⟨a, xs, rfl, h1, h2⟩ := bor_tup hx
      cases bor_int hy
      obtain ⟨v, e1, f⟩ := frL_at h2 hi
      exact .inl (.inr (.inl ⟨a, xs, _, v, rfl, rfl, h1, e1, fin v f⟩))
    · split at hi
      · rename_i s i hl
        cases bor_str hx; cases bor_int hy
        cases ha : atI s.cps.toList i with
        | none => rw [ha] at hi; cases hi
        | some c =>
          rw [ha] at hi
          cases hi
          exact .inl (.inr (.inr ⟨s, i, c, rfl, rfl, hl, ha, fin _ fr_str⟩))
      · cases hi
    · obtain ⟨a, ws, rfl, h1, h2⟩ := hx
      rename_i kvs
      cases hk : keyD e with
      | none => rw [hk] at hi; cases hi
      | some k =>
        rw [hk] at hi
        have hi' : valD kvs k = some r := hi
        have ek := keyD_kV hy hk
        subst ek
        rcases frK_val k h2 with ⟨e1, _⟩ | ⟨d', v, e1, e2, f⟩
        · rw [e1] at hi'; cases hi'
        · rw [e1] at hi'; cases hi'
          exact .inr ⟨a, v, rfl, .inl ⟨ws, k, h1, rfl, e2.symm⟩, fin v f⟩
    · cases hi
def rSlc (K : PySem.W.Frag) : V → Option Int → Option Int → Hp → VK → Prop := fun x lo hi H Q => rSlL K x lo hi H Q ∨ rSlA K x lo hi H Q ∨ rSlS x lo hi H Q
theorem cutV_cut (xs : List V) (lo hi : Option Int) : cutV xs lo hi = cutL xs lo hi := rfl
theorem FrL.cut {g : Gx} {F : Addr → Prop} {H : Hp} {ds : List D} {xs : List V} (h : FrL g F H ds xs) (lo hi : Option Int) : FrL g F H (cutL ds lo hi) (cutV xs lo hi) := by
  rw [cutV_cut]
  unfold cutL
  rw [← h.length]
  exact (h.drop _).take _
theorem frL_ints {g : Gx} {F : Addr → Prop} {H : Hp} : ∀ ns : List Int, FrL g F H (ns.map D.int) (ns.map V.int)
  | [] => FrL.nil
  | n :: ns => FrL.cons fr_int (frL_ints ns)
theorem p1_slc {g : Gx} (lo hi : Option Int) : P1 g (fun x H Q => rSlc g.K x lo hi H Q) (slcD lo hi) := by
  intro F H x d rv Q tk hx he q
  unfold slcD at he
  split at he
  · cases he
    obtain ⟨a, xs, rfl, h1, h2⟩ := hx
    exact .inl ⟨a, xs, rfl, SqL.of h1, fun p hp => newL tk hp (h2.cut lo hi) q⟩
  · cases he
    have hx0 := hx
    obtain ⟨a, xs, rfl, h1, h2⟩ := bor_tup hx
    refine .inr (.inl ⟨a, xs, rfl, h1, fun hw => ?_, fun _ p hp => newT hp (h2.cut lo hi) q⟩)
    rw [← h2.length] at hw
    unfold cutL at q
    rw [hw.1, hw.2, List.drop_zero, Nat.sub_zero, List.take_length] at q
    exact q _ _ .refl (sl_fz.mpr hx0) fun z => by cases z
  · split at he
    · rename_i hl
      cases he
      cases bor_str hx
      exact .inr (.inr ⟨_, rfl, hl, q _ _ .refl sl_str fun z => by cases z⟩)
    · cases he
  · cases he
    rename_i ns
    obtain ⟨a, rfl, h1⟩ := bor_scr hx
    refine .inl ⟨a, _, rfl, h1, fun p hp => newL tk hp ?_ q⟩
    have e : cutV (ns.map V.int) lo hi = (cutL ns lo hi).map V.int := by
      rw [cutV_cut]
      unfold cutL
      rw [List.length_map, List.map_take, List.map_drop]
    rw [e]
    exact frL_ints _
  · cases he
/-- every second item, from the first or the second one on; the items from behind -/
def rEvn (K : PySem.W.Frag) (l : Option Int) : V → Hp → VK → Prop := fun x H Q => ∃ a xs, x = .ref a ∧ SqL K H a xs ∧ ((l = none ∧ ∀ p, H p = none → Q (.ref p) (upd H p (.lst (evens xs)))) ∨ (l = some 1 ∧ ∀ p, H p = none → Q (.ref p) (upd H p (.lst (evens (xs.drop 1))))))
theorem FrL.evens {g : Gx} {F : Addr → Prop} {H : Hp} : ∀ {ds : List D} {xs : List V}, FrL g F H ds xs → FrL g F H (Ev.evens ds) (Ev.evens xs)
  | [], xs, h => by rw [FrL] at h; subst h; exact FrL.nil
  | [d], xs, h => by
    rw [FrL] at h
    obtain ⟨x, r, rfl, h1, h2⟩ := h
    rw [FrL] at h2; subst h2
    exact FrL.cons h1 FrL.nil
  | d :: e :: ds, xs, h => by
    rw [FrL] at h
    obtain ⟨x, r, rfl, h1, h2⟩ := h
    rw [FrL] at h2
    obtain ⟨y, r, rfl, h3, h4⟩ := h2
    exact FrL.cons h1 (FrL.evens h4)
theorem p1_evn {g : Gx} (l : Option Int) : P1 g (rEvn g.K l) (fun d => match d with
    | .lst xs => (match l with
      | none => some (ow (.lst (evens xs)))
      | some 1 => some (ow (.lst (evens (xs.drop 1))))
      | _ => none)
    | _ => none) := by
  intro F H x d rv Q tk hx he q
  simp only at he
  split at he
  · obtain ⟨a, xs, rfl, h1, h2⟩ := hx
    split at he
    · cases he
      exact ⟨a, xs, rfl, SqL.of h1, .inl ⟨rfl, fun p hp => newL tk hp h2.evens q⟩⟩
    · cases he
      exact ⟨a, xs, rfl, SqL.of h1, .inr ⟨rfl, fun p hp => newL tk hp (h2.drop 1).evens q⟩⟩
    · cases he
  · cases he
def rRev (K : PySem.W.Frag) : V → Hp → VK → Prop := fun x H Q => ∃ a xs, x = .ref a ∧ SqL K H a xs ∧ ∀ p, H p = none → Q (.ref p) (upd H p (.lst xs.reverse))
theorem FrL.rev {g : Gx} {F : Addr → Prop} {H : Hp} : ∀ {ds : List D} {xs : List V}, FrL g F H ds xs → FrL g F H ds.reverse xs.reverse
  | [], xs, h => by rw [FrL] at h; subst h; exact FrL.nil
  | d :: ds, xs, h => by
    rw [FrL] at h
    obtain ⟨x, r, rfl, h1, h2⟩ := h
    rw [List.reverse_cons, List.reverse_cons]
    exact (FrL.rev h2).app (FrL.cons h1 FrL.nil)
theorem p1_rev {g : Gx} : P1 g (rRev g.K) (fun d => match d with | .lst xs => some (ow (.lst xs.reverse)) | _ => none) := by
  intro F H x d rv Q tk hx he q
  simp only at he
  split at he
  · cases he
    obtain ⟨a, xs, rfl, h1, h2⟩ := hx
    exact ⟨a, xs, rfl, SqL.of h1, fun p hp => newL tk hp h2.rev q⟩
  · cases he

/-! ### built-ins of one argument -/
/-- two rows, each begun by a text, the texts unlike -/
def rSort2 (K : PySem.W.Frag) : List V → Hp → VK → Prop := fun vs H Q => ∃ a xs, vs = [.ref a] ∧ SqL K H a xs ∧
  ((xs.length ≤ 1 ∧ ∀ p, H p = none → Q (.ref p) (upd H p (.lst xs))) ∨
   ∃ b c s t ys zs, xs = [.ref b, .ref c] ∧ SqT K H b (.str s :: ys) ∧ SqT K H c (.str t :: zs) ∧ s ≠ t ∧ ∀ p, H p = none → Q (.ref p) (upd H p (.lst (if decide (t.cps.toList < s.cps.toList) then [.ref c, .ref b] else [.ref b, .ref c]))))
/-- rows, each begun by a text, the texts unlike -/
def rSortRows (K : PySem.W.Frag) : List V → Hp → VK → Prop := fun vs H Q => ∃ (a : Addr) (ks : List Str) (ps : List Addr), vs = [.ref a] ∧ SqL K H a (ps.map V.ref) ∧ Paired (fun p k => ∃ ys, SqT K H p (.str k :: ys)) ps ks ∧ ks.Nodup ∧ ps.length ≤ 1000 ∧
  ∀ p, H p = none → Q (.ref p) (upd H p (.lst ((sortR (·.1) (ks.zip ps)).map fun x => V.ref x.2)))
/-- rows that may begin with like texts: nested tuples of whole numbers and texts, of a list or of a tuple -/
def rSortT (K : PySem.W.Frag) : List V → Hp → VK → Prop := fun vs H Q => ∃ (a : Addr) (zs : List (D × Addr)), vs = [.ref a] ∧ (SqL K H a (zs.map fun z => V.ref z.2) ∨ SqT K H a (zs.map fun z => V.ref z.2)) ∧
  (∀ z ∈ zs, Dp K H (.ref z.2) (py z.1) ∧ rowOk z.1 = true) ∧ (∀ z ∈ zs, ∀ y ∈ zs, cpP (py z.1) (py y.1) = true) ∧ zs.length ≤ 1000 ∧
  ∀ p, H p = none → ∀ ys : List (D × Addr), ys.Perm zs → Srd (ys.map (·.1)) → Q (.ref p) (upd H p (.lst (ys.map fun z => V.ref z.2)))
def rSortAll (K : PySem.W.Frag) : List V → Hp → VK → Prop := fun vs H Q => rSort2 K vs H Q ∨ rSortedS K vs H Q ∨ rSortRows K vs H Q ∨ rSortT K vs H Q
/-- how many unlike texts -/
def rLenSet (K : PySem.W.Frag) : List V → Hp → VK → Prop := fun vs H Q => ∃ (l : Addr) (ss : List Str), vs = [.ref l] ∧ SqT K H l (ss.map V.str) ∧ ss.length ≤ 1000 ∧ Q (.int (cntT ss ss.length)) H
/-- the lists of a list, one behind the other -/
def rSumL (K : PySem.W.Frag) : List V → Hp → VK → Prop := fun vs H Q => ∃ (a : Addr) (ps : List Addr) (ls : List (List V)), vs = [.ref a] ∧ SqL K H a (ps.map V.ref) ∧ Paired (fun p l => H p = some (.lst l)) ps ls ∧ ls.flatten.length ≤ sizeLine ∧
  ∀ H1 p, New H H1 → H p = none → H1 p = some (.lst ls.flatten) → Q (.ref p) H1
def rDctP (K : PySem.W.Frag) : List V → Hp → VK → Prop := fun xs H Q => ∃ (a : Addr) (ps : List Addr) (kvs : List (Key × V)), xs = [.ref a] ∧ SqL K H a (ps.map V.ref) ∧ Paired (fun p kv => SqT K H p [kV kv.1, kv.2]) ps kvs ∧
    ∀ p, H p = none → Q (.ref p) (upd H p (.dK (mergeK [] kvs)))
def rRepr (K : PySem.W.Frag) : List V → Hp → VK → Prop := fun vs H Q => (∃ t : Str, vs = [.str t] ∧ (reprText t).length ≤ sizeLine ∧ Q (.str (reprText t)) H) ∨ (∃ i : Int, vs = [.int i] ∧ i.natAbs.log2 < 1920 ∧ Q (.str (Str.ofString (toString i))) H) ∨ (∃ b : Bool, vs = [.bl b] ∧ Q (.str (Str.ofString (if b then "True" else "False"))) H) ∨ (vs = [.non] ∧ Q (.str (Str.ofString "None")) H) ∨ (∃ (x : V) (a : Addr) (d : PyData), vs = [x] ∧ x = .ref a ∧ Dp K H x d ∧ d.showable = true ∧ d.hasDict = false ∧ d.shown.length ≤ sizeLine ∧ d.depth ≤ 64 ∧ Q (.str d.shown) H) ∨ ∃ (g : Gx) (F : Addr → Prop) (d : D) (x : V) (a : Addr), vs = [x] ∧ x = .ref a ∧ g.K = K ∧ Bor g F H d x ∧ plnD d = true ∧ (pz d).showable = true ∧ (pz d).shown.length ≤ sizeLine ∧ (pz d).depth ≤ 64 ∧ Q (.str (pz d).shown) H
def rLenAll (K : PySem.W.Frag) : List V → Hp → VK → Prop := fun xs H Q => (∃ x n, xs = [x] ∧ LenV K x H n ∧ Q (.int n) H) ∨ ∃ a kvs, xs = [.ref a] ∧ Rd H a (.dK kvs) ∧ Q (.int kvs.length) H
def rLst (K : PySem.W.Frag) : List V → Hp → VK → Prop := fun xs H Q => (∃ p ys, xs = [.ref p] ∧ (SqL K H p ys ∨ SqT K H p ys) ∧ ∀ l, H l = none → Q (.ref l) (upd H l (.lst ys))) ∨
  ∃ (a : Addr) (kvs : List (Key × V)), xs = [.ref a] ∧ Rd H a (.dK kvs) ∧ ∀ p, H p = none → Q (.ref p) (upd H p (.lst (kvs.map fun kv => kV kv.1)))
def rTpl (K : PySem.W.Frag) : List V → Hp → VK → Prop := fun xs H Q => ∃ p ys, xs = [.ref p] ∧ ((SqL K H p ys ∧ ∀ l, H l = none → Q (.ref l) (upd H l (.tup ys))) ∨ (SqT K H p ys ∧ Q (.ref p) H))
def rInt1 : List V → Hp → VK → Prop := fun xs H Q => (∃ i, xs = [.int i] ∧ Q (.int i) H) ∨ ∃ k, xs = [.bl k] ∧ Q (.int (if k then 1 else 0)) H
def rAbs1 : List V → Hp → VK → Prop := fun xs H Q => ∃ i, xs = [.int i] ∧ Q (.int (if i < 0 then -i else i)) H
def rDct1 : List V → Hp → VK → Prop := fun xs H Q => ∃ (a : Addr) (kvs : List (Key × V)), xs = [.ref a] ∧ Rd H a (.dK kvs) ∧ ∀ p, H p = none → Q (.ref p) (upd H p (.dK kvs))
def isiT : Bi → String
  | .isInt => "int"
  | .isBool => "bool"
  | .isStr => "str"
  | .isTuple => "tuple"
  | _ => "list"
def rBi (K : PySem.W.Frag) (f : Bi) (x : V) (H : Hp) (Q : VK) : Prop := match f with
  | .len => rLenAll K [x] H Q
  | .all => rAll K [x] H Q
  | .any => rAny K [x] H Q
  | .list => rLst K [x] H Q
  | .tuple => rTpl K [x] H Q
  | .sorted => rSortAll K [x] H Q
  | .int => rInt1 [x] H Q
  | .abs => rAbs1 [x] H Q
  | .repr => rRepr K [x] H Q
  | .dict => rDct1 [x] H Q ∨ rDctP K [x] H Q
  | .isInt => rIsi K [x, .ty "int"] H Q
  | .isBool => rIsi K [x, .ty "bool"] H Q
  | .isStr => rIsi K [x, .ty "str"] H Q
  | .isTuple => rIsi K [x, .ty "tuple"] H Q
  | .isList => rIsi K [x, .ty "list"] H Q
  | .sum => rSumL K [x] H Q
  | .set => rLenSet K [x] H Q
section
variable {g : Gx} {F : Addr → Prop} {H : Hp}
theorem frL_bls : ∀ {ds : List D} {xs : List V} {bs : List Bool}, FrL g F H ds xs → blsD ds = some bs → xs = bs.map V.bl
  | [], xs, bs, h, e => by
    rw [FrL] at h; subst h
    rw [blsD] at e; cases e; rfl
  | .bl b :: ds, xs, bs, h, e => by
    rw [FrL] at h
    obtain ⟨x, r, rfl, h1, h2⟩ := h
    rw [Fr] at h1; subst h1
    rw [blsD] at e
    cases hb : blsD ds with
    | none => rw [hb] at e; cases e
    | some cs =>
      rw [hb] at e; cases e
      rw [frL_bls h2 hb]
      rfl
  | .non :: _, _, _, _, e => by cases e
  | .int _ :: _, _, _, _, e => by cases e
  | .str _ :: _, _, _, _, e => by cases e
  | .lst _ :: _, _, _, _, e => by cases e
  | .tup _ :: _, _, _, _, e => by cases e
  | .dct _ :: _, _, _, _, e => by cases e
  | .fn _ :: _, _, _, _, e => by cases e
  | .scr _ :: _, _, _, _, e => by cases e
  | .er _ _ :: _, _, _, _, e => by cases e
theorem frL_strs : ∀ {ds : List D} {xs : List V} {bs : List Str}, FrL g F H ds xs → strsD ds = some bs → xs = bs.map V.str
  | [], xs, bs, h, e => by
    rw [FrL] at h; subst h
    rw [strsD] at e; cases e; rfl
  | .str b :: ds, xs, bs, h, e => by
    rw [FrL] at h
    obtain ⟨x, r, rfl, h1, h2⟩ := h
    rw [Fr] at h1; subst h1
    rw [strsD] at e
    cases hb : strsD ds with
    | none => rw [hb] at e; cases e
    | some cs =>
      rw [hb] at e; cases e
      rw [frL_strs h2 hb]
      rfl
  | .non :: _, _, _, _, e => by cases e
  | .int _ :: _, _, _, _, e => by cases e
  | .bl _ :: _, _, _, _, e => by cases e
  | .lst _ :: _, _, _, _, e => by cases e
  | .tup _ :: _, _, _, _, e => by cases e
  | .dct _ :: _, _, _, _, e => by cases e
  | .fn _ :: _, _, _, _, e => by cases e
  | .scr _ :: _, _, _, _, e => by cases e
  | .er _ _ :: _, _, _, _, e => by cases e
theorem fr_key (k : Key) : Fr g F H (kD k) (kV k) := by
  cases k with
  | inl i => exact fr_int
  | inr s => exact fr_str
theorem frK_keys : ∀ {kvs : List (Key × D)} {ws : List (Key × V)}, FrK g F H kvs ws → FrL g F H (kvs.map fun kv => kD kv.1) (ws.map fun kv => kV kv.1)
  | [], ws, h => by rw [FrK] at h; subst h; exact FrL.nil
  | (k, d) :: r, ws, h => by
    rw [FrK] at h
    obtain ⟨x, s, rfl, h1, h2⟩ := h
    exact FrL.cons (fr_key k) (frK_keys h2)
theorem FrK.length : ∀ {kvs : List (Key × D)} {ws : List (Key × V)}, FrK g F H kvs ws → kvs.length = ws.length
  | [], ws, h => by rw [FrK] at h; subst h; rfl
  | (k, d) :: r, ws, h => by
    rw [FrK] at h
    obtain ⟨x, s, rfl, h1, h2⟩ := h
    simp [FrK.length h2]
def tyD : D → String
  | .non => "NoneType"
  | .bl _ => "bool"
  | .int _ => "int"
  | .str _ => "str"
  | .lst _ => "list"
  | .tup _ => "tuple"
  | .dct _ => "dict"
  | .fn _ => "?"
  | .scr _ => "?"
  | .er _ _ => "?"
theorem ty_of {d : D} {v : V} (h : Bor g F H d v) (n : tyD d ≠ "?") : TyX g.K H v (.type (tyD d)) := by
  cases d with
  | non => cases bor_non h; exact .base .non
  | bl b => cases bor_bl h; exact .base (.bl b)
  | int b => cases bor_int h; exact .base (.int b)
  | str b => cases bor_str h; exact .base (.str b)
  | lst ds => obtain ⟨a, xs, rfl, h1, _⟩ := h; exact .base (.lst h1)
  | tup ds =>
    obtain ⟨a, xs, rfl, h1, _⟩ := bor_tup h
    rcases h1 with (h1 | ⟨o, h1⟩) | ⟨o, its, m, h1, h2, _⟩
    · exact .base (.tup h1)
    · exact .fTuple h1
    · exact .kTuple h1 h2
  | dct ds =>
    obtain ⟨a, xs, rfl, h1 | ⟨o, h1⟩, _⟩ := h
    · exact .base (.dK h1)
    · exact .fDict h1
  | fn i => exact absurd rfl n
  | scr ns => exact absurd rfl n
  | er _ _ => exact absurd rfl n
theorem isi_of {d : D} {v : V} {T : String} {b : Bool} {Q : VK} (h : Bor g F H d v) (n : tyD d ≠ "?") (e : kitB (tyD d) T = some b) (q : Q (.bl b) H) : rIsi g.K [v, .ty T] H Q :=
  ⟨v, .ty T, .type (tyD d), .type T, b, rfl, .ty T, ty_of h n, kit_ty e, q⟩
end
theorem p1_isi {g : Gx} {F : Addr → Prop} {H : Hp} {x : V} {d : D} {Q : VK} {f : Bi} {rv : Rv} (hf : f = .isInt ∨ f = .isBool ∨ f = .isStr ∨ f = .isTuple ∨ f = .isList) (hx : Bor g F H d x) (he : biD f d = some rv)
    (q : ∀ H' v, New H H' → Sl g F H' rv v → (rv.1 = true → Fresh H v) → Q v H') : rBi g.K f x H Q := by
  have fin : ∀ b : Bool, rv = fz (.bl b) → Q (.bl b) H := fun b eb => by
    subst eb
    exact q _ _ .refl sl_bl fun z => by cases z
  rcases hf with rfl | rfl | rfl | rfl | rfl <;> cases d <;> first
    | (cases he; done)
    | (have e := fin _ (Option.some.inj he).symm; exact isi_of hx (by simp only [tyD]; decide) (by simp only [tyD]; decide +kernel) e)
section
variable {g : Gx} {F : Addr → Prop} {H : Hp}
theorem frK_nil : FrK g F H [] [] := by rw [FrK]
theorem frK_cons {k : Key} {d : D} {v : V} {kvs : List (Key × D)} {ws : List (Key × V)} (h : Fr g F H d v) (t : FrK g F H kvs ws) : FrK g F H ((k, d) :: kvs) ((k, v) :: ws) := by rw [FrK]; exact ⟨v, ws, rfl, h, t⟩
theorem frK_app : ∀ {kvs kvs' : List (Key × D)} {ws ws' : List (Key × V)}, FrK g F H kvs ws → FrK g F H kvs' ws' → FrK g F H (kvs ++ kvs') (ws ++ ws')
  | [], kvs', ws, ws', h, h' => by rw [FrK] at h; subst h; exact h'
  | (k, d) :: r, kvs', ws, ws', h, h' => by
    rw [FrK] at h
    obtain ⟨x, s, rfl, h1, h2⟩ := h
    exact frK_cons h1 (frK_app h2 h')
theorem frK_mapput {k : Key} {d : D} {v : V} (hv : Fr g F H d v) : ∀ {kvs : List (Key × D)} {ws : List (Key × V)}, FrK g F H kvs ws →
    FrK g F H (kvs.map fun kv => if kv.1 = k then (kv.1, d) else kv) (ws.map fun kv => if kv.1 = k then (kv.1, v) else kv)
  | [], ws, h => by rw [FrK] at h; subst h; exact frK_nil
  | (k', d') :: r, ws, h => by
    rw [FrK] at h
    obtain ⟨x, s, rfl, h1, h2⟩ := h
    rw [List.map_cons, List.map_cons]
    by_cases e : k' = k
    · simp only [e, if_true]
      exact frK_cons hv (frK_mapput hv h2)
    · simp only [e, if_false]
      exact frK_cons h1 (frK_mapput hv h2)
theorem frK_any {k : Key} : ∀ {kvs : List (Key × D)} {ws : List (Key × V)}, FrK g F H kvs ws → (kvs.any fun kv => decide (kv.1 = k)) = (ws.any fun kv => decide (kv.1 = k))
  | [], ws, h => by rw [FrK] at h; subst h; rfl
  | (k', d') :: r, ws, h => by
    rw [FrK] at h
    obtain ⟨x, s, rfl, h1, h2⟩ := h
    rw [List.any_cons, List.any_cons, frK_any h2]
theorem frK_put {k : Key} {d : D} {v : V} {kvs : List (Key × D)} {ws : List (Key × V)} (hv : Fr g F H d v) (h : FrK g F H kvs ws) : FrK g F H (putD kvs k d) (putK ws k v) := by
  unfold putD putK
  rw [frK_any h]
  split
  · exact frK_mapput hv h
  · exact frK_app h (frK_cons hv frK_nil)
theorem frK_merge : ∀ {kvs acc : List (Key × D)} {ws bs : List (Key × V)}, FrK g F H acc bs → FrK g F H kvs ws → FrK g F H (kvs.foldl (fun acc kv => putD acc kv.1 kv.2) acc) (mergeK bs ws)
  | [], acc, ws, bs, h, h' => by rw [FrK] at h'; subst h'; exact h
  | (k, d) :: r, acc, ws, bs, h, h' => by
    rw [FrK] at h'
    obtain ⟨x, s, rfl, h1, h2⟩ := h'
    show FrK g F H (r.foldl _ (putD acc k d)) (mergeK (putK bs k x) s)
    exact frK_merge (frK_put h1 h) h2
theorem ins_paired {α β : Type} {R : α → β → Prop} {k : α → Str} {k' : β → Str} (hk : ∀ a b, R a b → k a = k' b) {x : α} {y : β} (hx : R x y) : ∀ {l : List α} {m : List β}, Paired R l m → Paired R (insR k x l) (insR k' y m)
  | _, _, .nil => .cons hx .nil
  | _, _, .cons (a := a) (b := b) h t => by
    unfold insR
    rw [hk _ _ h, hk _ _ hx]
    split
    · exact .cons h (ins_paired hk hx t)
    · exact .cons hx (.cons h t)
theorem sort_paired {α β : Type} {R : α → β → Prop} {k : α → Str} {k' : β → Str} (hk : ∀ a b, R a b → k a = k' b) : ∀ {l : List α} {m : List β}, Paired R l m → Paired R (sortR k l) (sortR k' m)
  | _, _, .nil => .nil
  | _, _, .cons h t => ins_paired hk h (sort_paired hk t)
/-- rows by their leads -/
def LdR (g : Gx) (F : Addr → Prop) (H : Hp) (d : D) (x : Str × Addr) : Prop := leadK d = x.1 ∧ Fr g F H d (.ref x.2)
theorem lead_at {d : D} {s : Str} {v : V} (e : leadD d = some s) (f : Fr g F H d v) : ∃ b zs, v = .ref b ∧ SqT g.K H b (.str s :: zs) := by
  unfold leadD at e
  split at e
  · cases e
    rw [Fr] at f
    obtain ⟨b, zs, e1, f1, f2⟩ := f
    rw [FrL] at f2
    obtain ⟨z, r, rfl, f3, f4⟩ := f2
    rw [Fr] at f3
    subst f3
    exact ⟨b, r, e1, f1⟩
  · cases e
theorem leads_at : ∀ {ds : List D} {xs : List V} {ks : List Str}, FrL g F H ds xs → leadsD ds = some ks → ∃ ps : List Addr, xs = ps.map V.ref ∧ Paired (fun p k => ∃ ys, SqT g.K H p (.str k :: ys)) ps ks ∧ Paired (LdR g F H) ds (ks.zip ps)
  | [], xs, ks, h, e => by
    rw [FrL] at h; subst h
    rw [leadsD] at e; cases e
    exact ⟨[], rfl, .nil, .nil⟩
  | d :: ds, xs, ks, h, e => by
    rw [FrL] at h
    obtain ⟨x, r, rfl, h1, h2⟩ := h
    rw [leadsD] at e
    split at e
    · rename_i s ss e1 e2
      cases e
      obtain ⟨b, zs, rfl, q⟩ := lead_at e1 h1
      obtain ⟨ps, rfl, p1, p2⟩ := leads_at h2 e2
      exact ⟨b :: ps, rfl, .cons ⟨zs, q⟩ p1, .cons ⟨by unfold leadK; rw [e1]; rfl, h1⟩ p2⟩
    · cases e
theorem frL_ld : ∀ {ds : List D} {zs : List (Str × Addr)}, Paired (LdR g F H) ds zs → FrL g F H ds (zs.map fun x => V.ref x.2)
  | _, _, .nil => FrL.nil
  | _, _, .cons h t => FrL.cons h.2 (frL_ld t)
theorem pairs_at : ∀ {ds : List D} {xs : List V} {kvs : List (Key × D)}, FrL g F H ds xs → pairsD ds = some kvs → ∃ (ps : List Addr) (ws : List (Key × V)), xs = ps.map V.ref ∧ Paired (fun p kv => SqT g.K H p [kV kv.1, kv.2]) ps ws ∧ FrK g F H kvs ws
  | [], xs, kvs, h, e => by
    rw [FrL] at h; subst h
    rw [pairsD] at e; cases e
    exact ⟨[], [], rfl, .nil, by rw [FrK]⟩
  | d :: ds, xs, kvs, h, e => by
    rw [FrL] at h
    obtain ⟨x, r, rfl, h1, h2⟩ := h
    rw [pairsD] at e
    split at e
    · rename_i p ps e1 e2
      cases e
      obtain ⟨as, ws, rfl, p1, p2⟩ := pairs_at h2 e2
      unfold pairD at e1
      split at e1
      · rename_i k v
        rw [Fr] at h1
        obtain ⟨b, zs, rfl, f1, f2⟩ := h1
        rw [FrL] at f2
        obtain ⟨z1, r1, rfl, f3, f4⟩ := f2
        rw [FrL] at f4
        obtain ⟨z2, r2, rfl, f5, f6⟩ := f4
        rw [FrL] at f6
        subst f6
        cases hk : keyD k with
        | none => rw [hk] at e1; cases e1
        | some key =>
          rw [hk] at e1
          cases e1
          have ek := keyD_kV (Fr.bor f3) hk
          subst ek
          refine ⟨b :: as, (key, z2) :: ws, rfl, .cons f1 p1, ?_⟩
          rw [FrK]
          exact ⟨_, _, rfl, f5, p2⟩
      · cases e1
    · cases e
theorem lsts_at : ∀ {ds : List D} {xs : List V} {ls : List (List D)}, FrL g F H ds xs → lstsD ds = some ls → ∃ (ps : List Addr) (ws : List (List V)), xs = ps.map V.ref ∧ Paired (fun p l => H p = some (.lst l)) ps ws ∧ FrL g F H ls.flatten ws.flatten
  | [], xs, kvs, h, e => by
    rw [FrL] at h; subst h
    rw [lstsD] at e; cases e
    exact ⟨[], [], rfl, .nil, FrL.nil⟩
  | d :: ds, xs, kvs, h, e => by
    rw [FrL] at h
    obtain ⟨x, r, rfl, h1, h2⟩ := h
    cases d <;> first | (cases e; done) | skip
    rename_i ys
    rw [lstsD] at e
    cases hl : lstsD ds with
    | none => rw [hl] at e; cases e
    | some ls =>
      rw [hl] at e
      cases e
      obtain ⟨ps, ws, rfl, p1, p2⟩ := lsts_at h2 hl
      rw [Fr] at h1
      obtain ⟨a, zs, rfl, _, f1, f2⟩ := h1
      exact ⟨a :: ps, zs :: ws, rfl, .cons f1 p1, by rw [List.flatten_cons, List.flatten_cons]; exact f2.app p2⟩
theorem sortedS_pw : ∀ {ys : List Str}, PyProof.Rows.sortedS ys = true → ys.Pairwise (fun a b => ltS (id b) (id a) = false) := by
  have key : ∀ (r : List Str) (x : Str), PyProof.Rows.risingS x r = true → (∀ z ∈ r, ltS z x = false) ∧ r.Pairwise (fun a b => ltS (id b) (id a) = false) := by
    intro r
    induction r with
    | nil => intro x _; exact ⟨fun _ h => absurd h List.not_mem_nil, List.Pairwise.nil⟩
    | cons y r ih =>
      intro x h
      have h : (!PySem.Spec.ltCps y.cps.toList x.cps.toList && PyProof.Rows.risingS y r) = true := h
      rw [Bool.and_eq_true] at h
      obtain ⟨h1, h2⟩ := ih y h.2
      have hy : ltS y x = false := by
        have := h.1
        unfold ltS
        rw [← PyProof.Rows.ltCps_eq]
        simpa using this
      refine ⟨fun z hz => ?_, List.pairwise_cons.mpr ⟨fun z hz => h1 z hz, h2⟩⟩
      rcases List.mem_cons.mp hz with rfl | hz
      · exact hy
      · exact ltS_tr hy (h1 z hz)
  intro ys h
  cases ys with
  | nil => exact List.Pairwise.nil
  | cons x r =>
    obtain ⟨h1, h2⟩ := key r x h
    exact List.pairwise_cons.mpr ⟨fun z hz => h1 z hz, h2⟩
theorem rows_at : ∀ {ds : List D} {xs : List V}, FrL g F H ds xs → ds.all rowOk = true → ∃ zs : List (D × Addr), zs.map (·.1) = ds ∧ xs = (zs.map fun z => V.ref z.2) ∧ ∀ z ∈ zs, Fr g F H z.1 (.ref z.2)
  | [], xs, h, _ => by
    rw [FrL] at h; subst h
    exact ⟨[], rfl, rfl, fun z hz => absurd hz List.not_mem_nil⟩
  | d :: ds, xs, h, c => by
    rw [FrL] at h
    obtain ⟨x, r, rfl, h1, h2⟩ := h
    rw [List.all_cons, Bool.and_eq_true] at c
    obtain ⟨zs, e1, rfl, h3⟩ := rows_at h2 c.2
    have ex : ∃ b, x = .ref b := by
      have c1 := c.1
      cases d with
      | tup ws => rw [Fr] at h1; obtain ⟨b, _, e, _⟩ := h1; exact ⟨b, e⟩
      | _ => simp [rowOk, rowP, py] at c1
    obtain ⟨b, rfl⟩ := ex
    refine ⟨(d, b) :: zs, by rw [List.map_cons, e1], rfl, fun z hz => ?_⟩
    rcases List.mem_cons.mp hz with rfl | hz
    · exact h1
    · exact h3 z hz
theorem frL_of : ∀ zs : List (D × Addr), (∀ z ∈ zs, Fr g F H z.1 (.ref z.2)) → FrL g F H (zs.map (·.1)) (zs.map fun z => V.ref z.2)
  | [], _ => FrL.nil
  | z :: zs, h => FrL.cons (h z (List.mem_cons_self ..)) (frL_of zs fun y hy => h y (List.mem_cons_of_mem _ hy))
theorem rowOk_all {d : D} (h : rowOk d = true) : rowP (py d) = true ∧ trP (py d) = true ∧ (py d).canLay0 = true ∧ (py d).depth ≤ 60 := by
  unfold rowOk at h
  rw [Bool.and_eq_true, Bool.and_eq_true, Bool.and_eq_true] at h
  exact ⟨h.1.1.1, h.1.1.2, h.1.2, of_decide_eq_true h.2⟩
theorem sortT_ok {ds ys : List D} {a : Addr} {xs : List V} {Q : VK} (tk : ∀ a, F a → H a ≠ none) (h1 : SqL g.K H a xs ∨ SqT g.K H a xs) (h2 : FrL g F H ds xs) (hs : sortT ds = some ys)
    (q : ∀ H' v, New H H' → Sl g F H' (ow (.lst ys)) v → (true = true → Fresh H v) → Q v H') : rSortT g.K [.ref a] H Q := by
  unfold sortT at hs
  split at hs
  · rename_i c
    cases hs
    obtain ⟨c1, c2, c3⟩ := c
    obtain ⟨zs, e1, rfl, h3⟩ := rows_at h2 c2
    have mz : ∀ z ∈ zs, z.1 ∈ ds := fun z hz => by rw [← e1]; exact List.mem_map.mpr ⟨z, hz, rfl⟩
    have ok : ∀ z ∈ zs, rowOk z.1 = true := fun z hz => List.all_eq_true.mp c2 _ (mz z hz)
    refine ⟨a, zs, rfl, h1, fun z hz => ⟨(h3 z hz).dp (PyData.hasDict_of_canLay _ (rowOk_all (ok z hz)).2.2.1), ok z hz⟩, fun z hz y hy => ?_, ?_, fun p hp us hu hsr => ?_⟩
    · exact List.all_eq_true.mp (List.all_eq_true.mp c3 _ (mz z hz)) _ (mz y hy)
    · rw [← e1, List.length_map] at c1
      exact c1
    · have tr : ∀ x ∈ ds, trP (py x) = true := fun x hx => (rowOk_all (List.all_eq_true.mp c2 x hx)).2.1
      have pm : (us.map (·.1)).Perm ds := by rw [← e1]; exact hu.map _
      have e2 : us.map (·.1) = srtT ds := srd_uniq (pm.trans (srtT_perm ds).symm) (fun x hx => tr x (pm.mem_iff.mp hx)) hsr (srtT_srd tr)
      refine newL tk hp ?_ q
      rw [← e2]
      exact frL_of us fun z hz => h3 z (hu.mem_iff.mp hz)
  · cases hs
theorem sortG_ok {ds ys : List D} {a : Addr} {xs : List V} {Q : VK} (tk : ∀ a, F a → H a ≠ none) (h1 : H a = some (.lst xs)) (h2 : FrL g F H ds xs) (hs : sortG ds = some ys)
    (q : ∀ H' v, New H H' → Sl g F H' (ow (.lst ys)) v → (true = true → Fresh H v) → Q v H') : rSortAll g.K [.ref a] H Q := by
  unfold sortG at hs
  split at hs
  · rename_i ss e
    split at hs
    · rename_i hl
      cases hs
      have ex := frL_strs h2 e
      subst ex
      refine .inr (.inl ⟨a, ss, rfl, SqL.of h1, hl, fun zs p hp hz hn => ?_⟩)
      have ez := sortR_uniq (k := id) hp (fun a _ b _ h => h) (sortedS_pw hz)
      subst ez
      refine newL tk hn ?_ q
      have : ∀ l : List Str, FrL g F H (l.map D.str) (l.map V.str) := fun l => by
        induction l with
        | nil => exact FrL.nil
        | cons x l ih => exact FrL.cons fr_str ih
      exact this _
    · cases hs
  · split at hs
    · rename_i ks e
      split at hs
      · rename_i c
        cases hs
        obtain ⟨ps, rfl, p1, p2⟩ := leads_at h2 e
        refine .inr (.inr (.inl ⟨a, ks, ps, rfl, SqL.of h1, p1, c.1, ?_, fun p hp => newL tk hp (frL_ld (sort_paired (k' := fun x : Str × Addr => x.1) (fun _ _ h => h.1) p2)) q⟩))
        have := h2.length
        rw [List.length_map] at this
        omega
      · exact .inr (.inr (.inr (sortT_ok tk (.inl (SqL.of h1)) h2 hs q)))
    · cases hs
end
theorem p1_bi {g : Gx} (f : Bi) : P1 g (rBi g.K f) (biD f) := by
  intro F H x d rv Q tk hx he q
  cases f with
  | len =>
    have he : (lenD d).map (fun n => fz (.int n)) = some rv := he
    cases hl : lenD d with
    | none => rw [hl] at he; cases he
    | some n =>
      rw [hl] at he; cases he
      have fin : Q (.int n) H := q _ _ .refl sl_int fun z => by cases z
      unfold lenD at hl
      split at hl
      · cases hl
        obtain ⟨a, xs, rfl, h1, h2⟩ := hx
        exact .inl ⟨_, xs.length, rfl, .inl ⟨xs, SqL.of h1, rfl⟩, by rw [← h2.length]; exact fin⟩
      · cases hl
        obtain ⟨a, xs, rfl, h1, h2⟩ := bor_tup hx
        exact .inl ⟨_, xs.length, rfl, .inr ⟨xs, h1, rfl⟩, by rw [← h2.length]; exact fin⟩
      · split at hl
        · rename_i hz
          cases hl
          cases bor_str hx
          exact .inl ⟨_, _, rfl, ⟨hz, rfl⟩, fin⟩
        · cases hl
      · cases hl
        obtain ⟨a, ws, rfl, h1, h2⟩ := hx
        exact .inr ⟨a, ws, rfl, h1, by rw [← h2.length]; exact fin⟩
      · cases hl
        rename_i ns
        obtain ⟨a, rfl, h1⟩ := bor_scr hx
        exact .inl ⟨_, (ns.map V.int).length, rfl, .inl ⟨_, h1, rfl⟩, by rw [List.length_map]; exact fin⟩
      · cases hl
  | all =>
    cases d <;> first | (cases he; done) | skip
    rename_i ds
    have he : (blsD ds).map (fun bs => fz (.bl (bs.all id))) = some rv := he
    cases hb : blsD ds with
    | none => rw [hb] at he; cases he
    | some bs =>
      rw [hb] at he; cases he
      obtain ⟨a, xs, rfl, h1, h2⟩ := hx
      have e := frL_bls h2 hb
      subst e
      exact ⟨a, bs, rfl, SqL.of h1, q _ _ .refl sl_bl fun z => by cases z⟩
  | any =>
    cases d <;> first | (cases he; done) | skip
    rename_i ds
    have he : (blsD ds).map (fun bs => fz (.bl (bs.any id))) = some rv := he
    cases hb : blsD ds with
    | none => rw [hb] at he; cases he
    | some bs =>
      rw [hb] at he; cases he
      obtain ⟨a, xs, rfl, h1, h2⟩ := hx
      have e := frL_bls h2 hb
      subst e
      exact ⟨a, bs, rfl, SqL.of h1, q _ _ .refl sl_bl fun z => by cases z⟩
  | list =>
    cases d <;> first | (cases he; done) | skip
    · cases he
      obtain ⟨a, xs, rfl, h1, h2⟩ := hx
      exact .inl ⟨a, xs, rfl, .inl (SqL.of h1), fun p hp => newL tk hp h2 q⟩
    · cases he
      obtain ⟨a, xs, rfl, h1, h2⟩ := bor_tup hx
      exact .inl ⟨a, xs, rfl, .inr h1, fun p hp => newL tk hp h2 q⟩
    · cases he
      obtain ⟨a, ws, rfl, h1, h2⟩ := hx
      exact .inr ⟨a, ws, rfl, h1, fun p hp => newL tk hp (frK_keys h2) q⟩
  | tuple =>
    cases d <;> first | (cases he; done) | skip
    · cases he
      obtain ⟨a, xs, rfl, h1, h2⟩ := hx
      exact ⟨a, xs, rfl, .inl ⟨SqL.of h1, fun p hp => newT hp h2 q⟩⟩
    · cases he
      have hx' : Fr g F H (.tup _) x := hx
      obtain ⟨a, xs, rfl, h1, h2⟩ := bor_tup hx
      exact ⟨a, xs, rfl, .inr ⟨h1, q _ _ .refl (sl_fz.mpr hx') fun z => by cases z⟩⟩
  | sorted =>
    by_cases ht : ∃ ds, d = .tup ds
    · obtain ⟨ds, rfl⟩ := ht
      have he : (sortT ds).map (fun ys => ow (.lst ys)) = some rv := he
      cases hs : sortT ds with
      | none => rw [hs] at he; cases he
      | some ys =>
        rw [hs] at he; cases he
        obtain ⟨a, xs, rfl, h1, h2⟩ := bor_tup hx
        exact .inr (.inr (.inr (sortT_ok tk (.inr h1) h2 hs q)))
    cases d <;> first | (cases he; done) | skip
    case tup ds => exact absurd ⟨ds, rfl⟩ ht
    rename_i ds
    have he : (sortD ds).map (fun ys => ow (.lst ys)) = some rv := he
    cases hs : sortD ds with
    | none => rw [hs] at he; cases he
    | some ys =>
      rw [hs] at he; cases he
      obtain ⟨a, xs, rfl, h1, h2⟩ := hx
      unfold sortD at hs
      split at hs
      · cases hs
        exact .inl ⟨a, xs, rfl, SqL.of h1, .inl ⟨by rw [← h2.length]; exact Nat.zero_le _, fun p hp => newL tk hp h2 q⟩⟩
      · cases hs
        exact .inl ⟨a, xs, rfl, SqL.of h1, .inl ⟨by rw [← h2.length]; exact Nat.le_refl _, fun p hp => newL tk hp h2 q⟩⟩
      · rename_i d1 d2
        have h20 := h2
        have lead : ∀ {d : D} {s : Str} {v : V}, leadD d = some s → Fr g F H d v → ∃ b zs, v = .ref b ∧ SqT g.K H b (.str s :: zs) := by
          intro d s v e f
          unfold leadD at e
          split at e
          · cases e
            rw [Fr] at f
            obtain ⟨b, zs, e1, f1, f2⟩ := f
            rw [FrL] at f2
            obtain ⟨z, r, rfl, f3, f4⟩ := f2
            rw [Fr] at f3
            subst f3
            exact ⟨b, r, e1, f1⟩
          · cases e
        rw [FrL] at h2
        obtain ⟨x1, r, rfl, f1, h3⟩ := h2
        rw [FrL] at h3
        obtain ⟨x2, r, rfl, f2, h4⟩ := h3
        rw [FrL] at h4
        subst h4
        split at hs
        · rename_i s t e1 e2
          obtain ⟨b, zs, rfl, g1⟩ := lead e1 f1
          obtain ⟨c, zs', rfl, g2⟩ := lead e2 f2
          split at hs
          · exact .inr (.inr (.inr (sortT_ok tk (.inl (SqL.of h1)) h20 hs q)))
          · rename_i ne
            refine .inl ⟨a, _, rfl, SqL.of h1, .inr ⟨b, c, s, t, zs, zs', rfl, g1, g2, ne, fun p hp => ?_⟩⟩
            split at hs
            · rename_i hlt
              cases hs
              rw [if_pos hlt]
              exact newL tk hp (.cons f2 (.cons f1 .nil)) q
            · rename_i hlt
              cases hs
              rw [if_neg hlt]
              exact newL tk hp (.cons f1 (.cons f2 .nil)) q
        · exact sortG_ok tk h1 h20 hs q
      · exact sortG_ok tk h1 h2 hs q
  | int =>
    cases d <;> first | (cases he; done) | skip
    · cases he; cases bor_bl hx
      exact .inr ⟨_, rfl, q _ _ .refl sl_int fun z => by cases z⟩
    · cases he; cases bor_int hx
      exact .inl ⟨_, rfl, q _ _ .refl sl_int fun z => by cases z⟩
  | abs =>
    cases d <;> first | (cases he; done) | skip
    cases he; cases bor_int hx
    exact ⟨_, rfl, q _ _ .refl sl_int fun z => by cases z⟩
  | repr =>
    have he : reprD d = some rv := he
    have viaZ : reprZ d = some rv → rRepr g.K [x] H Q := by
      intro hz
      unfold reprZ at hz
      split at hz
      · rename_i c
        cases hz
        obtain ⟨a, ea⟩ : ∃ a, x = .ref a := by
          have c1 := c.1
          cases d <;> first | (simp [dspZ] at c1; done) | skip
          · obtain ⟨a, _, e, _⟩ := hx
            exact ⟨a, e⟩
          · obtain ⟨a, _, e, _⟩ := bor_tup hx
            exact ⟨a, e⟩
          · obtain ⟨a, _, e, _⟩ := hx
            exact ⟨a, e⟩
        exact .inr (.inr (.inr (.inr (.inr ⟨g, F, d, x, a, rfl, ea, rfl, hx, c.2.1, c.2.2.1, c.2.2.2.1, c.2.2.2.2, q _ _ .refl sl_str fun z => by cases z⟩))))
      · cases hz
    by_cases hd : dispD d = true
    · have he : (if dispD d = true ∧ (py d).showable = true ∧ (py d).hasDict = false ∧ (py d).shown.length ≤ sizeLine ∧ (py d).depth ≤ 64 then some (fz (.str (py d).shown)) else reprZ d) = some rv := by
        cases d <;> first | exact he | (simp [dispD] at hd; done)
      split at he
      · rename_i c
        cases he
        obtain ⟨a, ea⟩ : ∃ a, x = .ref a := by
          have c1 := c.1
          cases d <;> first | (simp [dispD] at c1; done) | skip
          · obtain ⟨a, _, e, _⟩ := hx
            exact ⟨a, e⟩
          · obtain ⟨a, _, e, _⟩ := bor_tup hx
            exact ⟨a, e⟩
        have c := c.2
        exact .inr (.inr (.inr (.inr (.inl ⟨x, a, py d, rfl, ea, hx.dp c.2.1, c.1, c.2.1, c.2.2.1, c.2.2.2, q _ _ .refl sl_str fun z => by cases z⟩))))
      · exact viaZ he
    · cases d with
      | str t =>
        have he : (if (reprText t).length ≤ sizeLine then some (fz (.str (reprText t))) else none) = some rv := he
        split at he
        · rename_i c
          cases he; cases bor_str hx
          exact .inl ⟨t, rfl, c, q _ _ .refl sl_str fun z => by cases z⟩
        · cases he
      | int i =>
        have he : (if i.natAbs.log2 < 1920 then some (fz (.str (Str.ofString (toString i)))) else none) = some rv := he
        split at he
        · rename_i c
          cases he; cases bor_int hx
          exact .inr (.inl ⟨i, rfl, c, q _ _ .refl sl_str fun z => by cases z⟩)
        · cases he
      | bl b =>
        cases he; cases bor_bl hx
        exact .inr (.inr (.inl ⟨b, rfl, q _ _ .refl sl_str fun z => by cases z⟩))
      | non =>
        cases he; cases bor_non hx
        exact .inr (.inr (.inr (.inl ⟨rfl, q _ _ .refl sl_str fun z => by cases z⟩)))
      | dct kvs => exact viaZ he
      | fn i => exact viaZ he
      | scr ns => exact viaZ he
      | er _ _ => exact viaZ he
      | lst xs => exact absurd rfl hd
      | tup xs => exact absurd rfl hd
  | dict =>
    cases d <;> first | (cases he; done) | skip
    · rename_i ds
      have he : (pairsD ds).map (fun kvs => ow (.dct (kvs.foldl (fun acc kv => putD acc kv.1 kv.2) []))) = some rv := he
      cases hb : pairsD ds with
      | none => rw [hb] at he; cases he
      | some kvs =>
        rw [hb] at he; cases he
        obtain ⟨a, xs, rfl, h1, h2⟩ := hx
        obtain ⟨ps, ws, rfl, p1, p2⟩ := pairs_at h2 hb
        exact .inr ⟨a, ps, ws, rfl, SqL.of h1, p1, fun p hp => newD tk hp (frK_merge (by rw [FrK]) p2) q⟩
    · cases he
      obtain ⟨a, ws, rfl, h1, h2⟩ := hx
      exact .inl ⟨a, ws, rfl, h1, fun p hp => newD tk hp h2 q⟩
  | isInt => exact p1_isi (.inl rfl) hx he q
  | isBool => exact p1_isi (.inr (.inl rfl)) hx he q
  | isStr => exact p1_isi (.inr (.inr (.inl rfl))) hx he q
  | isTuple => exact p1_isi (.inr (.inr (.inr (.inl rfl)))) hx he q
  | isList => exact p1_isi (.inr (.inr (.inr (.inr rfl)))) hx he q
  | sum =>
    cases d <;> first | (cases he; done) | skip
    rename_i ds
    have he : ((lstsD ds).bind fun ls => if ls.flatten.length ≤ sizeLine then some (ow (.lst ls.flatten)) else none) = some rv := he
    cases hb : lstsD ds with
    | none => rw [hb] at he; cases he
    | some ls =>
      rw [hb] at he
      simp only [Option.bind_some] at he
      split at he
      · rename_i c
        cases he
        obtain ⟨a, xs, rfl, h1, h2⟩ := hx
        obtain ⟨ps, ws, rfl, p1, p2⟩ := lsts_at h2 hb
        exact ⟨a, ps, ws, rfl, SqL.of h1, p1, by rw [← p2.length]; exact c, fun H1 p n hp hl => q H1 _ n (sl_ow.mpr ⟨p, _, rfl, fun z => tk p z hp, hl, p2.new n⟩) fun _ => ⟨p, rfl, hp⟩⟩
      · cases he
  | set =>
    have key : ∀ {ds : List D} {xs : List V} {l : Addr}, FrL g F H ds xs → SqT g.K H l xs → setN ds = some rv → rLenSet g.K [.ref l] H Q := by
      intro ds xs l h2 hq he
      unfold setN at he
      cases hb : strsD ds with
      | none => rw [hb] at he; cases he
      | some ss =>
        rw [hb] at he
        simp only [Option.bind_some] at he
        split at he
        · rename_i c
          cases he
          have ex := frL_strs h2 hb
          subst ex
          exact ⟨l, ss, rfl, hq, c, q _ _ .refl sl_int fun z => by cases z⟩
        · cases he
    cases d <;> first | (cases he; done) | skip
    obtain ⟨a, xs, rfl, h1, h2⟩ := bor_tup hx
    exact key h2 h1 he
end Ev
/-! Snd5: arguments and calls. -/
namespace Ev
open PySem L2

section
variable {g : Gx} {F F' F0 F1 : Addr → Prop} {H H' H0 H1 : Hp} {env env' env0 env1 : Ev} {σ : L2.St}
/-- items of a display, frozen -/
def SndF (g : Gx) (t : TA) (m : Ev → Out (List D)) : Prop := ∀ (F : Addr → Prop) (H : Hp) (env : Ev) (σ : L2.St) (Q : List V → Hp → Prop) (ds : List D) (env' : Ev), Rel g F H env σ → m env = .ok ds env' →
  (∀ F' H' vs, Step g σ F H env F' H' env' → FrL g F' H' ds vs → Q vs H') → t σ H Q
def OpsAll (g : Gx) (F : Addr → Prop) (H : Hp) (env : Ev) (σ : L2.St) : List Opd → List V → Prop
  | [], vs => vs = []
  | o :: os, vs => ∃ v r, vs = v :: r ∧ OpAt g F H env σ o v ∧ OpsAll g F H env σ os r
def tempsOf : List Opd → List V → List V
  | .v (true, _) :: os, v :: vs => v :: tempsOf os vs
  | _ :: os, _ :: vs => tempsOf os vs
  | _, _ => []
theorem OpsAll.step : ∀ {os : List Opd} {vs : List V}, OpsAll g F H env σ os vs → Rel g F H env σ → Step g σ F H env F' H' env' → OpsAll g F' H' env' σ os vs
  | [], vs, h, _, _ => h
  | o :: os, vs, h, R, s => by
    obtain ⟨v, r, e, h1, h2⟩ := h
    exact ⟨v, r, e, h1.step R s, h2.step R s⟩
/-- arguments -/
def SndA (g : Gx) (t : TA) (m : Ev → Out (List Opd)) : Prop := ∀ (F : Addr → Prop) (H : Hp) (env : Ev) (σ : L2.St) (Q : List V → Hp → Prop) (os : List Opd) (env' : Ev), Rel g F H env σ → m env = .ok os env' →
  (∀ F' H' vs, Step g σ F H env F' H' env' → OpsAll g F' H' env' σ os vs → (tempsOf os vs).Nodup → (∀ v ∈ tempsOf os vs, Fresh H v) → Q vs H') → t σ H Q
theorem bind_ok {α β : Type} {o : Out α} {f : α → Ev → Out β} {b : β} {e' : Ev} (h : o.bind f = .ok b e') : ∃ a e, o = .ok a e ∧ f a e = .ok b e' := by
  cases o with
  | ok a e => exact ⟨a, e, rfl, h⟩
  | exc x e => cases h
  | stuck => cases h
theorem lift_ok {α : Type} {o : Option α} {e e' : Ev} {a : α} (h : lift o e = .ok a e') : o = some a ∧ e' = e := by
  cases o with
  | none => cases h
  | some b => cases h; exact ⟨rfl, rfl⟩
theorem sndF_nil {m : Ev → Out (List D)} (hm : ∀ env, m env = .ok [] env) : SndF g tNil m := by
  intro F H env σ Q ds env' R e q
  rw [hm] at e
  cases e
  exact q F H [] (.refl R) FrL.nil
theorem sndF_cons {ta : TE} {tr : TA} {ma : Ev → Out Rv} {mr m : Ev → Out (List D)} (ha : SndE g ta ma) (hr : SndF g tr mr)
    (hm : ∀ env, m env = (ma env).bind fun x e1 => (mr e1).bind fun xs e2 => .ok (x.2 :: xs) e2) : SndF g (tCons ta tr) m := by
  intro F H env σ Q ds env' R e q
  rw [hm] at e
  obtain ⟨x, e1, h1, e⟩ := bind_ok e
  obtain ⟨xs, e2, h2, e⟩ := bind_ok e
  cases e
  refine ha.frz R h1 fun F1 H1 v s1 f1 => ?_
  refine hr F1 H1 e1 σ _ xs env' s1.rel h2 fun F2 H2 vs s2 f2 => ?_
  exact q F2 H2 _ (s1.trans s2) (.cons (s2.fr s1.rel f1) f2)
theorem seq_of {d : D} {v : V} {ys : List D} (h : Bor g F H d v) (e : seqD d = some ys) : ∃ p xs, v = .ref p ∧ (SqT g.K H p xs ∨ SqL g.K H p xs) ∧ FrL g F H ys xs := by
  unfold seqD at e
  split at e
  · cases e
    obtain ⟨a, xs, rfl, h1, h2⟩ := h
    exact ⟨a, xs, rfl, .inr (SqL.of h1), h2⟩
  · cases e
    obtain ⟨a, xs, rfl, h1, h2⟩ := bor_tup h
    exact ⟨a, xs, rfl, .inl h1, h2⟩
  · cases e
theorem sndA_nil {m : Ev → Out (List Opd)} (hm : ∀ env, m env = .ok [] env) : SndA g tNil m := by
  intro F H env σ Q ds env' R e q
  rw [hm] at e
  cases e
  exact q F H [] (.refl R) rfl .nil fun v z => by cases z
theorem sndA_cons {ta : TE} {tr : TA} {ma : Ev → Out Opd} {mr m : Ev → Out (List Opd)} (ha : SndO g ta ma) (hr : SndA g tr mr)
    (hm : ∀ env, m env = (ma env).bind fun x e1 => (mr e1).bind fun xs e2 => .ok (x :: xs) e2) : SndA g (tCons ta tr) m := by
  intro F H env σ Q ds env' R e q
  rw [hm] at e
  obtain ⟨x, e1, h1, e⟩ := bind_ok e
  obtain ⟨xs, e2, h2, e⟩ := bind_ok e
  cases e
  refine ha F H env σ _ x e1 R h1 fun F1 H1 v s1 o1 fr => ?_
  refine hr F1 H1 e1 σ _ xs env' s1.rel h2 fun F2 H2 vs s2 o2 nd fr2 => ?_
  have fr3 : ∀ w ∈ tempsOf xs vs, Fresh H w := fun w hw => (fr2 w hw).back s1.ext.stay
  refine q F2 H2 (v :: vs) (s1.trans s2) ⟨v, vs, rfl, o1.step s1.rel s2, o2⟩ ?_ ?_
  · match x, o1, fr with
    | .v (true, d), o1, fr =>
      show (v :: tempsOf xs vs).Nodup
      refine List.nodup_cons.mpr ⟨fun hv => ?_, nd⟩
      obtain ⟨a, ea, na⟩ := fr2 v hv
      obtain ⟨b, eb, _, ho⟩ := (sl_ow.mp o1.1).at
      rw [ea] at eb; cases eb
      rcases ho with ⟨ys, z⟩ | ⟨ws, z⟩ <;> rw [na] at z <;> cases z
    | .v (false, d), _, _ => exact nd
    | .s i, _, _ => exact nd
  · match x, fr with
    | .v (true, d), fr =>
      intro w hw
      have hw : w ∈ v :: tempsOf xs vs := hw
      rcases List.mem_cons.mp hw with rfl | hw
      · exact fr d rfl
      · exact fr3 w hw
    | .v (false, d), _ => exact fr3
    | .s i, _ => exact fr3

/-! ### what a def promises, by the evaluator -/
def OwnArg (rs : List Rv) (vs : List V) (a : Addr) : Prop := ∃ (i : Nat) (d : D), rs[i]? = some (true, d) ∧ vs[i]? = some (.ref a)
structure ArgsOk (g : Gx) (F : Addr → Prop) (H : Hp) (rs : List Rv) (vs : List V) : Prop where
  len : rs.length = vs.length
  item : ∀ (i : Nat) r v, rs[i]? = some r → vs[i]? = some v → Sl g F H r v
  inj : ∀ (i j : Nat) d d' a, rs[i]? = some (true, d) → rs[j]? = some (true, d') → vs[i]? = some (.ref a) → vs[j]? = some (.ref a) → i = j
  trk : ∀ a, F a → H a ≠ none
def spOf (g : Gx) (cf : Nat → List Rv → COut) (keep : Nat → Nat) (f : Nat) : Sp := fun vs H Q _ => ∃ (F : Addr → Prop) (rs : List Rv) (r : Rv) (outs : List Slot), ArgsOk g F H rs vs ∧ cf f rs = .ok r outs ∧
  ∀ F' H' v, Ext (OwnArg rs vs) F H F' H' → (∀ a, F' a → H' a ≠ none) → Sl g F' H' r v →
    (r.1 = true → ∃ a, v = .ref a ∧ (H a = none ∨ ∃ (j : Nat) (d : D), keep f ≤ j ∧ rs[j]? = some (true, d) ∧ vs[j]? = some (.ref a))) →
    (∀ (j : Nat) (d : D) (a : Addr), j < keep f → rs[j]? = some (true, d) → vs[j]? = some (.ref a) → ∃ r', outs[j]? = some (some r') ∧ Sl g F' H' r' (.ref a) ∧ (r'.1 = true ∨ F' a)) → Q v H'
theorem ArgsOk.wk {rs : List Rv} {vs : List V} (A : ArgsOk g F H rs vs) : Wk (OwnArg rs vs) F H := fun a ⟨i, d, h1, h2⟩ => by
  have s := sl_ow.mp (A.item i _ _ h1 h2)
  obtain ⟨b, e, nf, ho⟩ := s.at
  cases e
  exact ⟨nf, ho⟩

/-! ### lending -/
theorem set_same {env : Ev} {i : Nat} {r : Rv} (h : getS env i = some r) : env.set i (some r) = env := by
  have hi := getS_lt h
  apply List.ext_getElem?
  intro j
  by_cases e : i = j
  · subst e
    rw [List.getElem?_set_self hi]
    unfold getS at h
    rw [List.getElem?_eq_getElem hi] at h ⊢
    have h' : env[i] = some r := h
    rw [h']
  · rw [List.getElem?_set_ne e]
/-- the arguments as they are handed, beside the operands -/
def ArgsAt (g : Gx) (F : Addr → Prop) (H : Hp) (e : Ev) (σ : L2.St) (keep : Nat) : Nat → List Opd → List Rv → List V → Prop
  | _, [], rs, vs => rs = [] ∧ vs = []
  | j, o :: os, rs, vs => ∃ r v rs' vs', rs = r :: rs' ∧ vs = v :: vs' ∧ Sl g F H r v ∧
      (r.1 = true → (∃ i, o = .s i ∧ getS e i = some r ∧ σ[i]? = some (some v) ∧ j < keep) ∨ (∃ d, o = .v (true, d) ∧ ∀ a, v = .ref a → ¬ OwnAt e σ a)) ∧ ArgsAt g F H e σ keep (j + 1) os rs' vs'
theorem lend_ok {keep : Nat} : ∀ {os : List Opd} {j : Nat} {env e : Ev} {F : Addr → Prop} {vs : List V} {rs : List Rv}, Rel g F H env σ → OpsAll g F H env σ os vs → (slotsOf os).Nodup → lendAll keep j os env = some (rs, e) →
    ∃ F1, Step g σ F H env F1 H e ∧ (∀ i, i ∉ slotsOf os → getS e i = getS env i) ∧ ArgsAt g F1 H e σ keep j os rs vs
  | [], j, env, e, F, vs, rs, R, h, nd, hl => by
    have h : vs = [] := h
    subst h
    rw [lendAll] at hl
    cases hl
    exact ⟨F, .refl R, fun _ _ => rfl, rfl, rfl⟩
  | .v r :: os, j, env, e, F, vs, rs, R, h, nd, hl => by
    obtain ⟨v, vr, rfl, h1, h2⟩ := h
    rw [lendAll] at hl
    cases hr : lendAll keep (j + 1) os env with
    | none => rw [hr] at hl; cases hl
    | some p =>
      obtain ⟨rs', e'⟩ := p
      rw [hr] at hl
      cases hl
      obtain ⟨F1, s, hk, hA⟩ := lend_ok R h2 nd hr
      have h3 := h1.step R s
      refine ⟨F1, s, hk, r, v, rs', vr, rfl, rfl, h3.1, fun hr => .inr ?_, hA⟩
      obtain ⟨b, d⟩ := r
      have hr : b = true := hr
      subst hr
      exact ⟨d, rfl, h3.2 rfl⟩
  | .s i :: os, j, env, e, F, vs, rs, R, h, nd, hl => by
    obtain ⟨v, vr, rfl, ⟨h1, r0, h1'⟩, h2⟩ := h
    obtain ⟨b, d⟩ := r0
    have nd' : i ∉ slotsOf os ∧ (slotsOf os).Nodup := List.nodup_cons.mp nd
    rw [lendAll, h1'] at hl
    simp only at hl
    cases hr : lendAll keep (j + 1) os (env.set i (some (b && decide (j < keep), d))) with
    | none => rw [hr] at hl; cases hl
    | some p =>
      obtain ⟨rs', e'⟩ := p
      rw [hr] at hl
      cases hl
      by_cases hc : b = true ∧ ¬ j < keep
      · obtain ⟨hb, hj⟩ := hc
        subst hb
        rw [show (true && decide (j < keep)) = false by simp [hj]] at hr ⊢
        obtain ⟨a, e1, s1, oa⟩ := R.own h1'
        rw [h1] at e1; cases e1
        obtain ⟨s, f⟩ := stepFreezeVar R h1' h1
        obtain ⟨F1, s2, hk, hA⟩ := lend_ok s.rel (h2.step R s) nd'.2 hr
        refine ⟨F1, s.trans s2, fun k hk' => ?_, (false, d), _, rs', vr, rfl, rfl, sl_fz.mpr (s2.fr s.rel f), (fun z => by cases z), hA⟩
        have hk1 : k ∉ slotsOf os := fun z => hk' (List.mem_cons_of_mem _ z)
        have hk2 : i ≠ k := fun z => hk' (z ▸ List.mem_cons_self)
        rw [hk k hk1, getS_set_ne hk2]
      · have eb : (b && decide (j < keep)) = b := by
          cases b with
          | false => rfl
          | true =>
            have : j < keep := Classical.byContradiction fun z => hc ⟨rfl, z⟩
            simp [this]
        rw [eb] at hr ⊢
        rw [set_same h1'] at hr
        obtain ⟨F1, s2, hk, hA⟩ := lend_ok R h2 nd'.2 hr
        have hi : getS e i = some (b, d) := (hk i nd'.1).trans h1'
        obtain ⟨v', e1, sl⟩ := s2.rel.slot i _ hi
        rw [h1] at e1; cases e1
        refine ⟨F1, s2, fun k hk' => hk k fun z => hk' (List.mem_cons_of_mem _ z), (b, d), _, rs', vr, rfl, rfl, sl, fun z => .inl ⟨i, rfl, hi, h1, ?_⟩, hA⟩
        exact Classical.byContradiction fun q => hc ⟨z, q⟩
theorem ArgsAt.len {keep : Nat} : ∀ {os : List Opd} {j : Nat} {rs : List Rv} {vs : List V}, ArgsAt g F H env σ keep j os rs vs → rs.length = os.length ∧ vs.length = os.length
  | [], j, rs, vs, h => by
    obtain ⟨rfl, rfl⟩ := h
    exact ⟨rfl, rfl⟩
  | o :: os, j, rs, vs, h => by
    obtain ⟨r, v, rs', vs', rfl, rfl, _, _, h2⟩ := h
    obtain ⟨a, b⟩ := h2.len
    simp [a, b]
theorem ArgsAt.get {keep : Nat} : ∀ {os : List Opd} {j : Nat} {rs : List Rv} {vs : List V} {k : Nat} {r : Rv} {v : V}, ArgsAt g F H env σ keep j os rs vs → rs[k]? = some r → vs[k]? = some v →
    ∃ o, os[k]? = some o ∧ Sl g F H r v ∧ (r.1 = true → (∃ i, o = .s i ∧ getS env i = some r ∧ σ[i]? = some (some v) ∧ j + k < keep) ∨ (∃ d, o = .v (true, d) ∧ ∀ a, v = .ref a → ¬ OwnAt env σ a))
  | [], j, rs, vs, k, r, v, h, e1, e2 => by
    obtain ⟨rfl, rfl⟩ := h
    simp at e1
  | o :: os, j, rs, vs, k, r, v, h, e1, e2 => by
    obtain ⟨r', v', rs', vs', rfl, rfl, h1, h2, h3⟩ := h
    cases k with
    | zero =>
      simp at e1 e2
      subst e1; subst e2
      exact ⟨o, rfl, h1, h2⟩
    | succ k =>
      obtain ⟨o', a, b, c⟩ := h3.get (k := k) (by simpa using e1) (by simpa using e2)
      refine ⟨o', by simpa using a, b, fun z => ?_⟩
      rcases c z with ⟨i, q1, q2, q3, q4⟩ | q
      · exact .inl ⟨i, q1, q2, q3, by omega⟩
      · exact .inr q
theorem slotsOf_get : ∀ {os : List Opd} {k i : Nat}, os[k]? = some (.s i) → i ∈ slotsOf os
  | [], k, i, h => by simp at h
  | o :: os, k, i, h => by
    cases k with
    | zero =>
      simp at h; subst h
      exact List.mem_cons_self
    | succ k =>
      have q := slotsOf_get (os := os) (k := k) (i := i) (by simpa using h)
      cases o with
      | v r => exact q
      | s j => exact List.mem_cons_of_mem _ q
theorem slotsOf_inj : ∀ {os : List Opd} {k l i : Nat}, (slotsOf os).Nodup → os[k]? = some (.s i) → os[l]? = some (.s i) → k = l
  | [], k, l, i, nd, h, h' => by simp at h
  | o :: os, k, l, i, nd, h, h' => by
    cases k with
    | zero =>
      simp at h; subst h
      cases l with
      | zero => rfl
      | succ l => exact absurd (slotsOf_get (by simpa using h')) (List.nodup_cons.mp nd).1
    | succ k =>
      cases l with
      | zero =>
        simp at h'; subst h'
        exact absurd (slotsOf_get (by simpa using h)) (List.nodup_cons.mp nd).1
      | succ l =>
        have nd' : (slotsOf os).Nodup := by
          cases o with
          | v r => exact nd
          | s j => exact (List.nodup_cons.mp nd).2
        have hh : os[k]? = some (.s i) := by simpa using h
        have hh' : os[l]? = some (.s i) := by simpa using h'
        rw [slotsOf_inj nd' hh hh']
theorem tempsOf_get : ∀ {os : List Opd} {vs : List V} {k : Nat} {d : D} {v : V}, os[k]? = some (.v (true, d)) → vs[k]? = some v → v ∈ tempsOf os vs
  | [], vs, k, d, v, h, _ => by simp at h
  | o :: os, [], k, d, v, _, h => by simp at h
  | o :: os, w :: vs, k, d, v, h, h' => by
    cases k with
    | zero =>
      simp at h h'; subst h; subst h'
      exact List.mem_cons_self
    | succ k =>
      have q := tempsOf_get (os := os) (vs := vs) (k := k) (d := d) (v := v) (by simpa using h) (by simpa using h')
      match o with
      | .v (true, _) => exact List.mem_cons_of_mem _ q
      | .v (false, _) => exact q
      | .s _ => exact q
theorem tempsOf_inj : ∀ {os : List Opd} {vs : List V} {k l : Nat} {d d' : D} {v : V}, (tempsOf os vs).Nodup → os[k]? = some (.v (true, d)) → vs[k]? = some v → os[l]? = some (.v (true, d')) → vs[l]? = some v → k = l
  | [], vs, k, l, d, d', v, _, h, _, _, _ => by simp at h
  | o :: os, [], k, l, d, d', v, _, _, h, _, _ => by simp at h
  | o :: os, w :: vs, k, l, d, d', v, nd, h1, h2, h3, h4 => by
    cases k with
    | zero =>
      simp at h1 h2; subst h1; subst h2
      cases l with
      | zero => rfl
      | succ l => exact absurd (tempsOf_get (by simpa using h3) (by simpa using h4)) (List.nodup_cons.mp nd).1
    | succ k =>
      cases l with
      | zero =>
        simp at h3 h4; subst h3; subst h4
        exact absurd (tempsOf_get (by simpa using h1) (by simpa using h2)) (List.nodup_cons.mp nd).1
      | succ l =>
        have nd' : (tempsOf os vs).Nodup := by
          match o with
          | .v (true, _) => exact (List.nodup_cons.mp nd).2
          | .v (false, _) => exact nd
          | .s _ => exact nd
        have q1 : os[k]? = some (.v (true, d)) := by simpa using h1
        have q2 : vs[k]? = some v := by simpa using h2
        have q3 : os[l]? = some (.v (true, d')) := by simpa using h3
        have q4 : vs[l]? = some v := by simpa using h4
        rw [tempsOf_inj nd' q1 q2 q3 q4]
theorem backOne_len (o : Opd) (r : Rv) (s : Slot) (env : Ev) : (backOne o r s env).length = env.length := by
  unfold backOne
  split
  · rw [List.length_set]
  · rfl
theorem back_len : ∀ (os : List Opd) (rs : List Rv) (outs : List Slot) (env : Ev), (giveBack os rs outs env).length = env.length
  | o :: os, r :: rs, s :: ss, env => by rw [giveBack, back_len os rs ss, backOne_len]
  | [], _, _, env => by rw [giveBack]; intro _ _ _ _ _ _ h; cases h
  | _ :: _, [], _, env => by rw [giveBack]; intro _ _ _ _ _ _ _ h; cases h
  | _ :: _, _ :: _, [], env => by rw [giveBack]; intro _ _ _ _ _ _ _ _ h; cases h
theorem back_nil1 (rs : List Rv) (outs : List Slot) (env : Ev) : giveBack [] rs outs env = env := by rw [giveBack]; intro _ _ _ _ _ _ h; cases h
theorem back_nil2 (os : List Opd) (outs : List Slot) (env : Ev) : giveBack os [] outs env = env := by rw [giveBack]; intro _ _ _ _ _ _ _ h; cases h
theorem back_nil3 (os : List Opd) (rs : List Rv) (env : Ev) : giveBack os rs [] env = env := by rw [giveBack]; intro _ _ _ _ _ _ _ _ h; cases h
/-- a slot that isn't lent stays; a lent one gets what comes back -/
theorem back_get : ∀ (os : List Opd) (rs : List Rv) (outs : List Slot) (env : Ev) (i : Nat), (slotsOf os).Nodup →
    ((∀ (k : Nat) (d : D), os[k]? = some (Opd.s i) → rs[k]? = some (true, d) → outs[k]? = none) → getS (giveBack os rs outs env) i = getS env i) ∧
    (∀ (k : Nat) (d : D) (s : Slot), os[k]? = some (Opd.s i) → rs[k]? = some (true, d) → outs[k]? = some s → i < env.length → getS (giveBack os rs outs env) i = s)
  | [], rs, outs, env, i, nd => by
    rw [back_nil1]
    exact ⟨fun _ => rfl, fun k d s e => by simp at e⟩
  | o :: os, [], outs, env, i, nd => by
    rw [back_nil2]
    exact ⟨fun _ => rfl, fun k d s _ e => by simp at e⟩
  | o :: os, r :: rs, [], env, i, nd => by
    rw [back_nil3]
    exact ⟨fun _ => rfl, fun k d s _ _ e => by simp at e⟩
  | o :: os, r :: rs, s :: ss, env, i, nd => by
    rw [giveBack]
    have nd1 : (slotsOf os).Nodup := by
      cases o with
      | v r => exact nd
      | s j => exact (List.nodup_cons.mp nd).2
    obtain ⟨h1, h2⟩ := back_get os rs ss (backOne o r s env) i nd1
    refine ⟨fun h => ?_, fun k d' s' e1 e2 e3 hi => ?_⟩
    · rw [h1 fun k d' e1 e2 => by simpa using h (k + 1) d' (by simpa using e1) (by simpa using e2)]
      unfold backOne
      split
      · rename_i j hr
        obtain ⟨b, d⟩ := r
        have hr : b = true := hr
        subst hr
        have ne : j ≠ i := fun z => by
          subst z
          have := h 0 d rfl rfl
          simp at this
        rw [getS_set_ne ne]
      · rfl
    · cases k with
      | zero =>
        simp at e1 e2 e3
        subst e1; subst e2; subst e3
        have nd2 : i ∉ slotsOf os := (List.nodup_cons.mp nd).1
        rw [h1 fun k d' e1 _ => absurd (slotsOf_get e1) nd2]
        show getS (env.set i s) i = s
        rw [getS_set_self hi]
      | succ k => exact h2 k d' s' (by simpa using e1) (by simpa using e2) (by simpa using e3) (by rw [backOne_len]; exact hi)
/-- a call, from the arguments as they stand -/
theorem snd_doCall {pg : Pg} {cf : Nat → List Rv → COut} {f : Nat} {os : List Opd} {vs : List V} {r : Rv} {Q : VK} {E : XK} (R0 : Rel g F0 H0 env0 σ) (s0 : Step g σ F0 H0 env0 F H env) (hO : OpsAll g F H env σ os vs)
    (nd : (tempsOf os vs).Nodup) (fr : ∀ v ∈ tempsOf os vs, Fresh H0 v) (e : doCall pg cf f os env = .ok r env')
    (q : ∀ F' H' v, Step g σ F0 H0 env0 F' H' env' → Sl g F' H' r v → (r.1 = true → Fresh H0 v) → Q v H') : spOf g cf pg.keeps f vs H Q E := by
  unfold doCall at e
  split at e
  · rename_i hnd
    cases hl : lendAll (pg.keeps f) 0 os env with
    | none => rw [hl] at e; cases e
    | some p =>
      obtain ⟨rs, en⟩ := p
      rw [hl] at e
      simp only at e
      cases hc : cf f rs with
      | exc x o => rw [hc] at e; cases e
      | stuck => rw [hc] at e; cases e
      | ok r' outs =>
        rw [hc] at e
        cases e
        obtain ⟨F1, s1, hk, hA⟩ := lend_ok s0.rel hO hnd hl
        have s := s0.trans s1
        obtain ⟨l1, l2⟩ := hA.len
        have inj : ∀ (i j : Nat) d d' a, rs[i]? = some (true, d) → rs[j]? = some (true, d') → vs[i]? = some (.ref a) → vs[j]? = some (.ref a) → i = j := by
          intro i j d d' a e1 e2 e3 e4
          obtain ⟨o1, q1, _, q2⟩ := hA.get e1 e3
          obtain ⟨o2, p1, _, p2⟩ := hA.get e2 e4
          rcases q2 rfl with ⟨x, rfl, x1, x2, _⟩ | ⟨x, rfl, x1⟩ <;> rcases p2 rfl with ⟨y, rfl, y1, y2, _⟩ | ⟨y, rfl, y1⟩
          · have exy := s1.rel.inj x y d d' a x1 y1 x2 y2
            subst exy
            exact slotsOf_inj hnd q1 p1
          · exact absurd ⟨x, d, x1, x2⟩ (y1 a rfl)
          · exact absurd ⟨y, d', y1, y2⟩ (x1 a rfl)
          · exact tempsOf_inj nd q1 e3 p1 e4
        have A : ArgsOk g F1 H rs vs := ⟨by omega, fun i r v e1 e2 => let ⟨_, _, h, _⟩ := hA.get e1 e2; h, inj, s1.rel.trk⟩
        refine ⟨F1, rs, r, outs, A, hc, fun F' H' v x tk sl fv ho => q F' H' v ?_ sl fun z => ?_⟩
        · -- the frame behind the call
          have hW : ∀ a, OwnArg rs vs a → OwnAt env0 σ a ∨ H0 a = none := fun a ⟨i, d, h1, h2⟩ => by
            obtain ⟨o1, q1, _, q2⟩ := hA.get h1 h2
            rcases q2 rfl with ⟨x, rfl, x1, x2, _⟩ | ⟨y, rfl, y1⟩
            · exact .inl (s.sub a ⟨x, d, x1, x2⟩)
            · obtain ⟨b, eb, nb⟩ := fr _ (tempsOf_get q1 h2)
              cases eb
              exact .inr nb
          have hlen : (giveBack os rs outs en).length = en.length := back_len _ _ _ _
          -- a slot: lent or not
          have lent : ∀ i r1, getS en i = some r1 → (∃ (k : Nat) (d : D) (a : Addr), os[k]? = some (Opd.s i) ∧ rs[k]? = some (true, d) ∧ r1 = (true, d) ∧ σ[i]? = some (some (.ref a)) ∧ vs[k]? = some (.ref a) ∧ k < pg.keeps f) ∨
              (getS (giveBack os rs outs en) i = some r1 ∧ ∀ a, σ[i]? = some (some (.ref a)) → r1.1 = true → ¬ OwnArg rs vs a) := by
            intro i r1 h1
            by_cases hx : ∃ (k : Nat) (d : D), os[k]? = some (Opd.s i) ∧ rs[k]? = some (true, d)
            · obtain ⟨k, d, h2, h3⟩ := hx
              have hkv : k < vs.length := by
                have : k < os.length := (List.getElem?_eq_some_iff.mp h2).1
                omega
              obtain ⟨o1, q1, q0, q2⟩ := hA.get h3 (List.getElem?_eq_getElem hkv)
              rw [h2] at q1; cases q1
              rcases q2 rfl with ⟨x', ex, x1, x2, x3⟩ | ⟨y, ey, _⟩
              · cases ex
                rw [h1] at x1; cases x1
                obtain ⟨a, ea, _, _⟩ := (sl_ow.mp q0).at
                rw [ea] at x2
                exact .inl ⟨k, d, a, h2, h3, rfl, x2, by rw [List.getElem?_eq_getElem hkv, ea], by simpa using x3⟩
              · cases ey
            · refine .inr ⟨?_, fun a h2 h3 ⟨k, d, h4, h5⟩ => ?_⟩
              · rw [(back_get os rs outs en i hnd).1 fun k d h2 h3 => absurd ⟨k, d, h2, h3⟩ hx]
                exact h1
              · obtain ⟨b, d1⟩ := r1
                have h3 : b = true := h3
                subst h3
                obtain ⟨o1, q1, _, q2⟩ := hA.get h4 h5
                rcases q2 rfl with ⟨y, rfl, y1, y2, _⟩ | ⟨y, rfl, y1⟩
                · have eiy := s1.rel.inj i y d1 d a h1 y1 h2 y2
                  subst eiy
                  exact hx ⟨k, d, q1, h4⟩
                · exact y1 a rfl ⟨i, d1, h1, h2⟩
          have got : ∀ (i k : Nat) (d : D) (a : Addr), os[k]? = some (Opd.s i) → rs[k]? = some (true, d) → vs[k]? = some (.ref a) → k < pg.keeps f → i < en.length → ∃ r', getS (giveBack os rs outs en) i = some r' ∧ Sl g F' H' r' (.ref a) ∧ (r'.1 = true ∨ F' a) := by
            intro i k d a h1 h2 h3 h4 h5
            obtain ⟨r', h6, h7, h8⟩ := ho k d a h4 h2 h3
            exact ⟨r', (back_get os rs outs en i hnd).2 k d _ h1 h2 h6 h5, h7, h8⟩
          have slots : ∀ i r', getS (giveBack os rs outs en) i = some r' → ∃ r1, getS en i = some r1 := by
            intro i r' h
            cases h1 : getS en i with
            | some r1 => exact ⟨r1, rfl⟩
            | none =>
              have : getS (giveBack os rs outs en) i = getS en i := (back_get os rs outs en i hnd).1 fun k d h2 h3 => by
                have hkv : k < vs.length := by
                  have : k < os.length := (List.getElem?_eq_some_iff.mp h2).1
                  omega
                obtain ⟨o1, q1, q0, q2⟩ := hA.get h3 (List.getElem?_eq_getElem hkv)
                rw [h2] at q1; cases q1
                rcases q2 rfl with ⟨x', ex, x1, _⟩ | ⟨y, ey, _⟩
                · cases ex; rw [h1] at x1; cases x1
                · cases ey
              rw [this, h1] at h; cases h
          have rel' : Rel g F' H' (giveBack os rs outs en) σ := by
            refine ⟨by rw [hlen]; exact s.rel.len, fun i r' h => ?_, fun i j d d' a h1 h2 h3 h4 => ?_, tk⟩
            · obtain ⟨r1, h1⟩ := slots i r' h
              rcases lent i r1 h1 with ⟨k, d, a, h2, h3, _, h4, h5, h6⟩ | ⟨h2, h3⟩
              · obtain ⟨r2, e1, e2, _⟩ := got i k d a h2 h3 h5 h6 (getS_lt h1)
                rw [h] at e1; cases e1
                exact ⟨_, h4, e2⟩
              · rw [h] at h2; cases h2
                obtain ⟨v', e1, sl'⟩ := s.rel.slot i _ h1
                refine ⟨v', e1, ?_⟩
                obtain ⟨b, d⟩ := r'
                cases b with
                | false => exact sl_fz.mpr ((sl_fz.mp sl').ext x A.wk)
                | true =>
                  obtain ⟨a, rfl, _, _⟩ := (sl_ow.mp sl').at
                  have nw := h3 a e1 rfl
                  refine sl_ow.mpr ((sl_ow.mp sl').ext x A.wk nw fun ff => ?_)
                  obtain ⟨b, eb, nf, hob⟩ := (sl_ow.mp sl').at
                  cases eb
                  rcases x.new a ff with z | z | z
                  · exact nf z
                  · exact nw z
                  · rcases hob with ⟨ys, y⟩ | ⟨ws, y⟩ <;> rw [z] at y <;> cases y
            · have own1 : ∀ i d a, getS (giveBack os rs outs en) i = some (true, d) → σ[i]? = some (some (.ref a)) → ∃ d1, getS en i = some (true, d1) := by
                intro i d a h1 h3
                obtain ⟨r1, q1⟩ := slots i _ h1
                rcases lent i r1 q1 with ⟨k, d1, a', h2, h3', e, h4, h5, h6⟩ | ⟨h2, _⟩
                · subst e
                  exact ⟨d1, q1⟩
                · rw [h1] at h2; cases h2
                  exact ⟨d, q1⟩
              obtain ⟨d1, q1⟩ := own1 i d a h1 h3
              obtain ⟨d2, q2⟩ := own1 j d' a h2 h4
              exact s.rel.inj i j d1 d2 a q1 q2 h3 h4
          refine ⟨rel', s.ext.trans x hW, fun a ⟨i, d, h1, h2⟩ => ?_, fun i r0 h => ?_, fun i d a h1 h2 => ?_⟩
          · obtain ⟨r1, q1⟩ := slots i _ h1
            rcases lent i r1 q1 with ⟨k, d1, a', h2', h3', e, h4, h5, h6⟩ | ⟨h3, _⟩
            · subst e
              rw [h2] at h4; cases h4
              exact s.sub a ⟨i, d1, q1, h2⟩
            · rw [h1] at h3; cases h3
              exact s.sub a ⟨i, d, q1, h2⟩
          · obtain ⟨r1, q1⟩ := s.live i r0 h
            rcases lent i r1 q1 with ⟨k, d1, a', h2', h3', e, h4, h5, h6⟩ | ⟨h3, _⟩
            · obtain ⟨r2, e1, _⟩ := got i k d1 a' h2' h3' h5 h6 (getS_lt q1)
              exact ⟨r2, e1⟩
            · exact ⟨r1, h3⟩
          · rcases s.ownk i d a h1 h2 with ⟨d1, q1⟩ | q1
            · rcases lent i _ q1 with ⟨k, d2, a', h2', h3', e, h4, h5, h6⟩ | ⟨h3, _⟩
              · rw [h2] at h4; cases h4
                obtain ⟨r2, e1, e2, e3⟩ := got i k d2 a h2' h3' h5 h6 (getS_lt q1)
                rcases e3 with e3 | e3
                · obtain ⟨b, d3⟩ := r2
                  have e3 : b = true := e3
                  subst e3
                  exact .inl ⟨d3, e1⟩
                · exact .inr e3
              · exact .inl ⟨d1, h3⟩
            · exact .inr (x.mono a q1)
        · obtain ⟨a, ea, na | ⟨j, d, hj, h1, h2⟩⟩ := fv z
          · exact ⟨a, ea, s.ext.stay a na⟩
          · obtain ⟨o1, q1, _, q2⟩ := hA.get h1 h2
            rcases q2 rfl with ⟨y, rfl, y1, y2, y3⟩ | ⟨y, rfl, y1⟩
            · omega
            · obtain ⟨b, eb, nb⟩ := fr _ (tempsOf_get q1 h2)
              cases eb
              exact ⟨a, ea, nb⟩
  · cases e
/-! ### a call whose list is new: what is handed has no lists, what is in the list neither -/
mutual
theorem Fr.pure : ∀ {d : D} {v : V} {F' : Addr → Prop}, pureD d = true → Fr g F H d v → Fr g F' H d v
  | .non, v, F', _, h => by rw [Fr] at h ⊢; exact h
  | .bl _, v, F', _, h => by rw [Fr] at h ⊢; exact h
  | .int _, v, F', _, h => by rw [Fr] at h ⊢; exact h
  | .str _, v, F', _, h => by rw [Fr] at h ⊢; exact h
  | .tup ds, v, F', p, h => by
    rw [pureD] at p
    rw [Fr] at h ⊢
    obtain ⟨a, xs, e, h1, h2⟩ := h
    exact ⟨a, xs, e, h1, FrL.pure p h2⟩
  | .lst _, v, F', p, h => by simp [pureD] at p
  | .dct _, v, F', p, h => by simp [pureD] at p
  | .fn _, v, F', p, h => by simp [pureD] at p
  | .scr _, v, F', p, h => by simp [pureD] at p
  | .er _ _, v, F', p, h => by simp [pureD] at p
theorem FrL.pure : ∀ {ds : List D} {xs : List V} {F' : Addr → Prop}, pureDs ds = true → FrL g F H ds xs → FrL g F' H ds xs
  | [], xs, F', _, h => by rw [FrL] at h ⊢; exact h
  | d :: ds, xs, F', p, h => by
    rw [pureDs, Bool.and_eq_true] at p
    rw [FrL] at h ⊢
    obtain ⟨y, r, e, h1, h2⟩ := h
    exact ⟨y, r, e, Fr.pure p.1 h1, FrL.pure p.2 h2⟩
end
theorem frzs_ok : ∀ {os : List Opd} {vs : List V} {rs : List Rv}, OpsAll g F H env σ os vs → frzs os = some rs → rs.length = vs.length ∧ (∀ (i : Nat) r, rs[i]? = some r → r.1 = false) ∧ ∀ (i : Nat) r v, rs[i]? = some r → vs[i]? = some v → Fr g (fun _ => False) H r.2 v
  | [], vs, rs, h, e => by
    have h : vs = [] := h
    subst h
    cases e
    exact ⟨rfl, fun i r e => by simp at e, fun i r v e => by simp at e⟩
  | o :: os, vs, rs, h, e => by
    obtain ⟨v, vr, rfl, h1, h2⟩ := h
    match o, e, h1 with
    | .s _, e, _ => cases e
    | .v (true, _), e, _ => cases e
    | .v (false, d), e, h1 =>
      unfold frzs at e
      split at e
      · rename_i p
        cases hr : frzs os with
        | none => rw [hr] at e; cases e
        | some rr =>
          rw [hr] at e
          cases e
          obtain ⟨l, k1, k2⟩ := frzs_ok h2 hr
          refine ⟨by simp [l], fun i r e => ?_, fun i r w e1 e2 => ?_⟩
          · cases i with
            | zero => cases e; rfl
            | succ i => exact k1 i r (by simpa using e)
          · cases i with
            | zero => cases e1; cases e2; exact Fr.pure p (sl_fz.mp h1.1)
            | succ i => exact k2 i r w (by simpa using e1) (by simpa using e2)
      · cases e
theorem snd_ncall {cf : Nat → List Rv → COut} {keep : Nat → Nat} {f : Nat} {os : List Opd} {vs : List V} {rs : List Rv} {ds : List D} {outs : List Slot} {Q : VK} {E : XK} (R0 : Rel g F0 H0 env0 σ) (s0 : Step g σ F0 H0 env0 F H env) (hO : OpsAll g F H env σ os vs)
    (hr : frzs os = some rs) (hc : cf f rs = .ok (false, .lst ds) outs) (hp : pureDs ds = true)
    (q : ∀ F' H' v, Step g σ F0 H0 env0 F' H' env → Sl g F' H' (ow (.lst ds)) v → Fresh H0 v → Q v H') : spOf g cf keep f vs H Q E := by
  obtain ⟨hl, hf, hi⟩ := frzs_ok hO hr
  refine ⟨fun _ => False, rs, _, outs, ⟨hl, fun i r v e1 e2 => ?_, fun i j d d' a e1 => ?_, fun a h => h.elim⟩, hc, fun F' H' v x tk sl _ _ => ?_⟩
  · obtain ⟨b, d⟩ := r
    have hb : b = false := hf i _ e1
    subst hb
    exact sl_fz.mpr (hi i _ v e1 e2)
  · exact absurd (hf i _ e1) (by simp)
  · have nw : ∀ a, ¬ OwnArg rs vs a := fun a ⟨i, d, h1, _⟩ => absurd (hf i _ h1) (by simp)
    have n : New H H' := fun a o e => by
      rcases x.keep a o e (nw a) with h | ⟨h, _⟩
      · exact h
      · exact h.elim
    have h1 := sl_fz.mp sl
    rw [Fr] at h1
    obtain ⟨a, xs, rfl, fa, ha, hx⟩ := h1
    have na : H a = none := by
      rcases x.new a fa with h | h | h
      · exact h.elim
      · exact absurd h (nw a)
      · exact h
    refine q F H' _ (s0.trans (.new s0.rel n)) (sl_ow.mpr ⟨a, xs, rfl, fun z => s0.rel.trk a z na, ha, FrL.pure hp hx⟩) ⟨a, rfl, s0.ext.stay a na⟩
end
end Ev
/-! Snd6: constants, tests, joined expressions, displays. -/
namespace Ev
open PySem L2

section
variable {g : Gx} {F F' F0 F1 : Addr → Prop} {H H' H0 H1 : Hp} {env env' env0 env1 : Ev} {σ : L2.St}
theorem snd_const {v : V} {d : D} {m : Ev → Out Rv} (hm : ∀ env r env', m env = .ok r env' → r = fz d ∧ env' = env) (hf : ∀ F H, Fr g F H d v) : SndE g (tC v) m := by
  intro F H env σ Q r env' R e q
  obtain ⟨rfl, rfl⟩ := hm _ _ _ e
  exact q F H v (.refl R) (sl_fz.mpr (hf F H)) fun z => by cases z
/-- a test -/
def SndC (g : Gx) (t : TT) (m : Ev → Out Bool) : Prop := ∀ (F : Addr → Prop) (H : Hp) (env : Ev) (σ : L2.St) (Q : Bool → Hp → Prop) (b : Bool) (env' : Ev), Rel g F H env σ → m env = .ok b env' →
  (∀ F' H', Step g σ F H env F' H' env' → Q b H') → t σ H Q
def SndT (g : Gx) (t : TO) (m : Ev → Out (Option Int)) : Prop := ∀ (F : Addr → Prop) (H : Hp) (env : Ev) (σ : L2.St) (Q : Option Int → Hp → Prop) (b : Option Int) (env' : Ev), Rel g F H env σ → m env = .ok b env' →
  (∀ F' H', Step g σ F H env F' H' env' → Q b H') → t σ H Q
theorem snd_chain {o p : COp} {a b c : Tm} {ta tb tc : TE} {ma mb mc m : Ev → Out Rv} (ha : SndO g ta (opd a ma)) (hb : SndO g tb (opd b mb)) (hc : SndO g tc (opd c mc))
    (hm : ∀ env, m env = (opd a ma env).bind fun x e1 => (opd b mb e1).bind fun y e2 => match rdO e2 x, rdO e2 y with
      | some d, some d' => match cmpD o d d' with
        | some true => (opd c mc e2).bind fun z e3 => match rdO e3 y, rdO e3 z with
          | some u, some u' => lift ((cmpD p u u').map fun k => fz (.bl k)) e3
          | _, _ => .stuck
        | some false => .ok (fz (.bl false)) e2
        | none => .stuck
      | _, _ => .stuck) : SndE g (tChain (rCmp g.K o) (rCmp g.K p) ta tb tc) m := by
  intro F H env σ Q r env' R e q
  rw [hm] at e
  obtain ⟨x, e1, h1, e⟩ := bind_ok e
  obtain ⟨y, e2, h2, e⟩ := bind_ok e
  refine ha F H env σ _ x e1 R h1 fun F1 H1 vx s1 ox _ => ?_
  refine hb F1 H1 e1 σ _ y e2 s1.rel h2 fun F2 H2 vy s2 oy _ => ?_
  have s := s1.trans s2
  cases h3 : rdO e2 x with
  | none => rw [h3] at e; cases e
  | some d =>
    cases h4 : rdO e2 y with
    | none => rw [h3, h4] at e; cases e
    | some d' =>
      rw [h3, h4] at e
      simp only at e
      cases h5 : cmpD o d d' with
      | none => rw [h5] at e; cases e
      | some k =>
        rw [h5] at e
        refine p2_cmp o F2 H2 vx vy d d' (fz (.bl k)) _ s.rel.trk ((ox.step s1.rel s2).bor s.rel h3) (oy.bor s.rel h4) (by simp only [h5]; rfl) fun H3 v n sl _ => ?_
        have ev : v = .bl k := by
          have f := sl_fz.mp sl
          rw [Fr] at f
          exact f
        refine ⟨k, ev, ?_⟩
        have s3 := s.trans (.new s.rel n)
        cases k with
        | false =>
          rw [if_neg (by decide)]
          simp only at e
          cases e
          exact q F2 H3 _ s3 sl_bl fun z => by cases z
        | true =>
          rw [if_pos rfl]
          simp only at e
          obtain ⟨z, e3, h6, e⟩ := bind_ok e
          refine hc F2 H3 e2 σ _ z e3 s3.rel h6 fun F4 H4 vz s4 oz _ => ?_
          have s5 := s3.trans s4
          cases h7 : rdO e3 y with
          | none => rw [h7] at e; cases e
          | some u =>
            cases h8 : rdO e3 z with
            | none => rw [h7, h8] at e; cases e
            | some u' =>
              rw [h7, h8] at e
              simp only at e
              obtain ⟨h9, rfl⟩ := lift_ok e
              refine p2_cmp p F4 H4 vy vz u u' r Q s5.rel.trk (((oy.step s.rel (.new s.rel n)).step s3.rel s4).bor s5.rel h7) (oz.bor s5.rel h8) h9 fun H5 v' n' sl' fr' => ?_
              exact q F4 H5 v' (s5.trans (.new s5.rel n')) sl' fun z => (fr' z).back s5.ext.stay
theorem snd_and {ta tb : TE} {ma mb m : Ev → Out Rv} (ha : SndE g ta ma) (hb : SndE g tb mb)
    (hm : ∀ env, m env = (ma env).bind fun r e1 => match truD r.2 with
      | some true => mb e1
      | some false => .ok r e1
      | none => .stuck) : SndE g (tAndT g.K ta tb) m := by
  intro F H env σ Q r env' R e q
  rw [hm] at e
  obtain ⟨x, e1, h1, e⟩ := bind_ok e
  refine ha F H env σ _ x e1 R h1 fun F1 H1 v s1 sl fr => ?_
  cases ht : truD x.2 with
  | none => rw [ht] at e; cases e
  | some k =>
    rw [ht] at e
    refine ⟨k, tru_of sl.bor ht, ?_⟩
    cases k with
    | true =>
      rw [if_pos rfl]
      exact hb F1 H1 e1 σ Q r env' s1.rel e fun F2 H2 v2 s2 sl2 fr2 => q F2 H2 v2 (s1.trans s2) sl2 fun z => (fr2 z).back s1.ext.stay
    | false =>
      rw [if_neg (by decide)]
      simp only at e
      cases e
      exact q F1 H1 v s1 sl fr
theorem snd_or {ta tb : TE} {ma mb m : Ev → Out Rv} (ha : SndE g ta ma) (hb : SndE g tb mb)
    (hm : ∀ env, m env = (ma env).bind fun r e1 => match truD r.2 with
      | some true => .ok r e1
      | some false => mb e1
      | none => .stuck) : SndE g (tOrT g.K ta tb) m := by
  intro F H env σ Q r env' R e q
  rw [hm] at e
  obtain ⟨x, e1, h1, e⟩ := bind_ok e
  refine ha F H env σ _ x e1 R h1 fun F1 H1 v s1 sl fr => ?_
  cases ht : truD x.2 with
  | none => rw [ht] at e; cases e
  | some k =>
    rw [ht] at e
    refine ⟨k, tru_of sl.bor ht, ?_⟩
    cases k with
    | false =>
      rw [if_neg (by decide)]
      exact hb F1 H1 e1 σ Q r env' s1.rel e fun F2 H2 v2 s2 sl2 fr2 => q F2 H2 v2 (s1.trans s2) sl2 fun z => (fr2 z).back s1.ext.stay
    | true =>
      rw [if_pos rfl]
      simp only at e
      cases e
      exact q F1 H1 v s1 sl fr
theorem snd_ife {tc : TT} {ta tb : TE} {mc : Ev → Out Bool} {ma mb m : Ev → Out Rv} (hc : SndC g tc mc) (ha : SndE g ta ma) (hb : SndE g tb mb)
    (hm : ∀ env, m env = (mc env).bind fun t e1 => if t then ma e1 else mb e1) : SndE g (tIf tc ta tb) m := by
  intro F H env σ Q r env' R e q
  rw [hm] at e
  obtain ⟨x, e1, h1, e⟩ := bind_ok e
  refine hc F H env σ _ x e1 R h1 fun F1 H1 s1 => ?_
  cases x with
  | true =>
    rw [if_pos rfl] at e ⊢
    exact ha F1 H1 e1 σ Q r env' s1.rel e fun F2 H2 v2 s2 sl2 fr2 => q F2 H2 v2 (s1.trans s2) sl2 fun z => (fr2 z).back s1.ext.stay
  | false =>
    rw [if_neg (by decide)] at e ⊢
    exact hb F1 H1 e1 σ Q r env' s1.rel e fun F2 H2 v2 s2 sl2 fr2 => q F2 H2 v2 (s1.trans s2) sl2 fun z => (fr2 z).back s1.ext.stay

/-! ### tests -/
def tVal (K : PySem.W.Frag) (te : TE) : TT := fun σ H Q => te σ H fun x H1 => ∃ k, TruV K x H1 k ∧ Q k H1
theorem sndC_val {a : Tm} {ta : TE} {ma : Ev → Out Rv} {m : Ev → Out Bool} (ha : SndO g ta (opd a ma)) (hm : ∀ env, m env = (opd a ma env).bind fun x e1 => match (rdO e1 x).bind truD with
    | some k => .ok k e1
    | none => .stuck) : SndC g (tVal g.K ta) m := by
  intro F H env σ Q b env' R e q
  rw [hm] at e
  obtain ⟨x, e1, h1, e⟩ := bind_ok e
  refine ha F H env σ _ x e1 R h1 fun F1 H1 v s1 o1 _ => ?_
  cases h2 : rdO e1 x with
  | none => rw [h2] at e; cases e
  | some d =>
    rw [h2] at e
    cases h3 : truD d with
    | none => simp [h3] at e
    | some k =>
      simp only [Option.bind_some, h3] at e
      cases e
      exact ⟨b, tru_of (o1.bor s1.rel h2) h3, q F1 H1 s1⟩
theorem sndC_cmp {ta : TE} {ma : Ev → Out Rv} {m : Ev → Out Bool} (ha : SndE g ta ma) (hm : ∀ env, m env = (ma env).bind fun r e1 => match r.2 with
    | .bl k => .ok k e1
    | _ => .stuck) : SndC g (tTest ta) m := by
  intro F H env σ Q b env' R e q
  rw [hm] at e
  obtain ⟨x, e1, h1, e⟩ := bind_ok e
  refine ha F H env σ _ x e1 R h1 fun F1 H1 v s1 sl _ => ?_
  obtain ⟨o, d⟩ := x
  cases d <;> first | (cases e; done) | skip
  simp only at e
  cases e
  have hv := bor_bl sl.bor
  exact ⟨b, hv, q F1 H1 s1⟩
theorem sndC_and {ta tb : TT} {ma mb m : Ev → Out Bool} (ha : SndC g ta ma) (hb : SndC g tb mb) (hm : ∀ env, m env = (ma env).bind fun t e1 => if t then mb e1 else .ok false e1) : SndC g (tAnd ta tb) m := by
  intro F H env σ Q b env' R e q
  rw [hm] at e
  obtain ⟨x, e1, h1, e⟩ := bind_ok e
  refine ha F H env σ _ x e1 R h1 fun F1 H1 s1 => ?_
  cases x with
  | true =>
    rw [if_pos rfl] at e ⊢
    exact hb F1 H1 e1 σ Q b env' s1.rel e fun F2 H2 s2 => q F2 H2 (s1.trans s2)
  | false =>
    rw [if_neg (by decide)] at e ⊢
    cases e
    exact q F1 H1 s1
theorem sndC_or {ta tb : TT} {ma mb m : Ev → Out Bool} (ha : SndC g ta ma) (hb : SndC g tb mb) (hm : ∀ env, m env = (ma env).bind fun t e1 => if t then .ok true e1 else mb e1) : SndC g (tOr ta tb) m := by
  intro F H env σ Q b env' R e q
  rw [hm] at e
  obtain ⟨x, e1, h1, e⟩ := bind_ok e
  refine ha F H env σ _ x e1 R h1 fun F1 H1 s1 => ?_
  cases x with
  | false =>
    rw [if_neg (by decide)] at e ⊢
    exact hb F1 H1 e1 σ Q b env' s1.rel e fun F2 H2 s2 => q F2 H2 (s1.trans s2)
  | true =>
    rw [if_pos rfl] at e ⊢
    cases e
    exact q F1 H1 s1
theorem sndC_not {ta : TT} {ma m : Ev → Out Bool} (ha : SndC g ta ma) (hm : ∀ env, m env = (ma env).bind fun t e1 => .ok (!t) e1) : SndC g (tNot ta) m := by
  intro F H env σ Q b env' R e q
  rw [hm] at e
  obtain ⟨x, e1, h1, e⟩ := bind_ok e
  cases e
  exact ha F H env σ _ x env' R h1 fun F1 H1 s1 => q F1 H1 s1

/-! ### parts of slices, slices -/
theorem sndT_no {m : Ev → Out (Option Int)} (hm : ∀ env, m env = .ok none env) : SndT g tNoPart m := by
  intro F H env σ Q b env' R e q
  rw [hm] at e
  cases e
  exact q F H (.refl R)
theorem sndT_yes {ta : TE} {ma : Ev → Out Rv} {m : Ev → Out (Option Int)} (ha : SndE g ta ma) (hm : ∀ env, m env = (ma env).bind fun r e1 => match r.2 with
    | .int i => .ok (some i) e1
    | _ => .stuck) : SndT g (tPart ta) m := by
  intro F H env σ Q b env' R e q
  rw [hm] at e
  obtain ⟨x, e1, h1, e⟩ := bind_ok e
  refine ha F H env σ _ x e1 R h1 fun F1 H1 v s1 sl _ => ?_
  obtain ⟨o, d⟩ := x
  cases d <;> first | (cases e; done) | skip
  simp only at e
  cases e
  exact ⟨_, bor_int sl.bor, q F1 H1 s1⟩
theorem snd_slc {a : Tm} {ta : TE} {tl th : TO} {ma m : Ev → Out Rv} {ml mh : Ev → Out (Option Int)} (ha : SndO g ta (opd a ma)) (hl : SndT g tl ml) (hh : SndT g th mh)
    (hm : ∀ env, m env = (opd a ma env).bind fun x e1 => (ml e1).bind fun l e2 => (mh e2).bind fun h e3 => match rdO e3 x with
      | some d => lift (slcD l h d) e3
      | none => .stuck) : SndE g (tSl (rSlc g.K) ta tl th) m := by
  intro F H env σ Q r env' R e q
  rw [hm] at e
  obtain ⟨x, e1, h1, e⟩ := bind_ok e
  obtain ⟨l, e2, h2, e⟩ := bind_ok e
  obtain ⟨h, e3, h3, e⟩ := bind_ok e
  refine ha F H env σ _ x e1 R h1 fun F1 H1 v s1 o1 _ => ?_
  refine hl F1 H1 e1 σ _ l e2 s1.rel h2 fun F2 H2 s2 => ?_
  refine hh F2 H2 e2 σ _ h e3 s2.rel h3 fun F3 H3 s3 => ?_
  have s := (s1.trans s2).trans s3
  cases h4 : rdO e3 x with
  | none => rw [h4] at e; cases e
  | some d =>
    rw [h4] at e
    obtain ⟨h5, rfl⟩ := lift_ok e
    exact p1_slc l h F3 H3 v d r Q s.rel.trk (((o1.step s1.rel s2).step s2.rel s3).bor s.rel h4) h5 fun H4 w n sl fr => q F3 H4 w (s.trans (.new s.rel n)) sl fun z => (fr z).back s.ext.stay
def tEvn (K : PySem.W.Frag) (te : TE) (tl : TO) : TE := fun σ H Q => te σ H fun x H1 => tl σ H1 fun l H2 => rEvn K l x H2 Q
theorem snd_evn {a : Tm} {ta : TE} {tl : TO} {ma m : Ev → Out Rv} {ml : Ev → Out (Option Int)} (ha : SndO g ta (opd a ma)) (hl : SndT g tl ml)
    (hm : ∀ env, m env = (opd a ma env).bind fun x e1 => (ml e1).bind fun l e2 => match rdO e2 x with
      | some (.lst xs) => lift (match l with
        | none => some (ow (.lst (evens xs)))
        | some 1 => some (ow (.lst (evens (xs.drop 1))))
        | _ => none) e2
      | _ => .stuck) : SndE g (tEvn g.K ta tl) m := by
  intro F H env σ Q r env' R e q
  rw [hm] at e
  obtain ⟨x, e1, h1, e⟩ := bind_ok e
  obtain ⟨l, e2, h2, e⟩ := bind_ok e
  refine ha F H env σ _ x e1 R h1 fun F1 H1 v s1 o1 _ => ?_
  refine hl F1 H1 e1 σ _ l e2 s1.rel h2 fun F2 H2 s2 => ?_
  have s := s1.trans s2
  cases h4 : rdO e2 x with
  | none => rw [h4] at e; cases e
  | some d =>
    rw [h4] at e
    cases d <;> first | (cases e; done) | skip
    rename_i xs
    simp only at e
    obtain ⟨h5, rfl⟩ := lift_ok e
    exact p1_evn l F2 H2 v (.lst xs) r Q s.rel.trk ((o1.step s1.rel s2).bor s.rel h4) h5 fun H4 w n sl fr => q F2 H4 w (s.trans (.new s.rel n)) sl fun z => (fr z).back s.ext.stay

/-! ### methods -/
def rJoin (K : PySem.W.Frag) : V → List V → Hp → VK → Prop := fun x xs H Q => ∃ a p, ∃ ys : List Str, x = .str a ∧ xs = [.ref p] ∧ (SqL K H p (ys.map V.str) ∨ SqT K H p (ys.map V.str)) ∧
    (ys.map (·.length)).sum + ys.length * a.length ≤ 16777216 ∧ Q (.str (Txt.join a ys)) H
theorem snd_join {a : Tm} {ts ta : TE} {ms ma m : Ev → Out Rv} (hs : SndE g ts ms) (ha : SndO g ta (opd a ma))
    (hm : ∀ env, m env = (ms env).bind fun x e1 => match x.2 with
      | .str z => op1 a ma (fun y => match y with
        | .lst ys => (strsD ys).bind fun ss => if (ss.map (·.length)).sum + ss.length * z.length ≤ 16777216 then some (fz (.str (Txt.join z ss))) else none
        | _ => none) e1
      | _ => .stuck) : SndE g (tM1 (rJoin g.K) ts ta) m := by
  intro F H env σ Q r env' R e q
  rw [hm] at e
  obtain ⟨x, e1, h1, e⟩ := bind_ok e
  refine hs F H env σ _ x e1 R h1 fun F1 H1 v s1 sl z0 => ?_
  clear z0
  obtain ⟨o, d⟩ := x
  cases d <;> first | (cases e; done) | skip
  rename_i z
  simp only at e
  have ev := bor_str sl.bor
  subst ev
  refine ⟨⟨z, rfl⟩, ?_⟩
  have P : P1 g (fun y H Q => rJoin g.K (.str z) [y] H Q) (fun y => match y with
      | .lst ys => (strsD ys).bind fun ss => if (ss.map (·.length)).sum + ss.length * z.length ≤ 16777216 then some (fz (.str (Txt.join z ss))) else none
      | _ => none) := by
    intro F H x d rv Q tk hx he q
    simp only at he
    split at he
    · rename_i ys
      cases hb : strsD ys with
      | none => rw [hb] at he; cases he
      | some ss =>
        rw [hb] at he
        simp only [Option.bind_some] at he
        split at he
        · rename_i hz
          cases he
          obtain ⟨a, xs, rfl, h1, h2⟩ := hx
          have e := frL_strs h2 hb
          subst e
          exact ⟨z, a, ss, rfl, rfl, .inl (SqL.of h1), hz, q _ _ .refl sl_str fun z => by cases z⟩
        · cases he
    · cases he
  exact snd_op1 ha P F1 H1 e1 σ Q r env' s1.rel e fun F2 H2 v2 s2 sl2 fr2 => q F2 H2 v2 (s1.trans s2) sl2 fun z => (fr2 z).back s1.ext.stay
theorem snd_dget {d k : Tm} {td tk tx : TE} {md mk mx m : Ev → Out Rv} (hd : SndO g td (opd d md)) (hk : SndO g tk (opd k mk)) (hx : SndE g tx mx)
    (hm : ∀ env, m env = (opd d md env).bind fun x1 e1 => match rdO e1 x1 with
      | some (.dct _) => (opd k mk e1).bind fun y e2 => (mx e2).bind fun z e3 => match rdO e3 x1, rdO e3 y with
        | some (.dct kvs), some u => match keyD u with
          | some key => .ok (fz ((valD kvs key).getD z.2)) e3
          | none => .stuck
        | _, _ => .stuck
      | _ => .stuck) : SndE g (tDGet2 td tk tx) m := by
  intro F H env σ Q r env' R e q
  rw [hm] at e
  obtain ⟨x1, e1, h1, e⟩ := bind_ok e
  refine hd F H env σ _ x1 e1 R h1 fun F1 H1 v s1 o1 _ => ?_
  cases h2 : rdO e1 x1 with
  | none => rw [h2] at e; cases e
  | some d0 =>
    rw [h2] at e
    cases d0 <;> first | (cases e; done) | skip
    simp only at e
    obtain ⟨a, ws, rfl, b1, _⟩ := o1.bor s1.rel h2
    refine ⟨a, rfl, .inl ⟨ws, b1⟩, ?_⟩
    obtain ⟨y, e2, h3, e⟩ := bind_ok e
    obtain ⟨z, e3, h4, e⟩ := bind_ok e
    refine hk F1 H1 e1 σ _ y e2 s1.rel h3 fun F2 H2 vy s2 o2 _ => ?_
    refine hx.frz s2.rel h4 fun F3 H3 vz s3 fz' => ?_
    have s := (s1.trans s2).trans s3
    cases h5 : rdO e3 x1 with
    | none => rw [h5] at e; cases e
    | some d1 =>
      cases h6 : rdO e3 y with
      | none => rw [h5, h6] at e; cases d1 <;> cases e
      | some u =>
        rw [h5, h6] at e
        cases d1 <;> first | (cases e; done) | skip
        rename_i kvs
        simp only at e
        cases h7 : keyD u with
        | none => rw [h7] at e; cases e
        | some key =>
          rw [h7] at e
          simp only at e
          cases e
          obtain ⟨a', ws', ea, b3, b4⟩ := ((o1.step s1.rel s2).step s2.rel s3).bor s.rel h5
          cases ea
          have ek := keyD_kV ((o2.step s2.rel s3).bor s.rel h6) h7
          subst ek
          refine ⟨valV ws' key, .inl ⟨ws', key, b3, rfl, rfl⟩, q F3 H3 _ s (sl_fz.mpr ?_) fun z => by cases z⟩
          rcases frK_val key b4 with ⟨q1, q2⟩ | ⟨d2, v2, q1, q2, q3⟩
          · rw [q1, q2]; exact fz'
          · rw [q1, q2]; exact q3

/-! ### displays -/
theorem snd_tup {t : TA} {ms : Ev → Out (List D)} {m : Ev → Out Rv} (h : SndF g t ms) (hm : ∀ env, m env = (ms env).bind fun ds e1 => if ds.length ≤ sizeLine then .ok (fz (.tup ds)) e1 else .stuck) : SndE g (tTup t) m := by
  intro F H env σ Q r env' R e q
  rw [hm] at e
  obtain ⟨ds, e1, h1, e⟩ := bind_ok e
  split at e
  · rename_i hl
    cases e
    refine h F H env σ _ ds env' R h1 fun F1 H1 vs s1 f1 => ⟨by rw [← f1.length]; exact hl, fun p hp => ?_⟩
    exact newT hp f1 fun H2 v n sl fr => q F1 H2 v (s1.trans (.new s1.rel n)) sl fun z => (fr z).back s1.ext.stay
  · cases e
theorem snd_lst {t : TA} {ms : Ev → Out (List D)} {m : Ev → Out Rv} (h : SndF g t ms) (hm : ∀ env, m env = (ms env).bind fun ds e1 => if ds.length ≤ sizeLine then .ok (ow (.lst ds)) e1 else .stuck) : SndE g (tLst t) m := by
  intro F H env σ Q r env' R e q
  rw [hm] at e
  obtain ⟨ds, e1, h1, e⟩ := bind_ok e
  split at e
  · rename_i hl
    cases e
    refine h F H env σ _ ds env' R h1 fun F1 H1 vs s1 f1 => ⟨by rw [← f1.length]; exact hl, fun p hp => ?_⟩
    exact newL s1.rel.trk hp f1 fun H2 v n sl fr => q F1 H2 v (s1.trans (.new s1.rel n)) sl fun z => (fr z).back s1.ext.stay
  · cases e
/-- a new thing that no slot holds is written -/
theorem Step.put (R : Rel g F H env σ) (s : Step g σ F H env F' H' env') {a : Addr} {o : HO} (na : H a = none) (nf : ¬ F' a) (ho : (∃ xs, H' a = some (.lst xs)) ∨ ∃ ws, H' a = some (.dK ws)) : Step g σ F H env F' (upd H' a o) env' := by
  have x : Ext (fun b => b = a) F' H' F' (upd H' a o) := ⟨fun b u e n => .inl (by rw [upd_ne n]; exact e), fun b e => by
    by_cases z : b = a
    · subst z; rw [upd_same] at e; cases e
    · rw [upd_ne z] at e; exact e, fun _ e => e, fun _ e => .inl e⟩
  have hw : Wk (fun b => b = a) F' H' := fun b e => by subst e; exact ⟨nf, ho⟩
  have ne : ∀ b, OwnAt env' σ b → b ≠ a := fun b q z => by subst z; exact R.ownTrk (s.sub b q) na
  refine ⟨s.rel.go x hw (fun b q => ⟨ne b q, (s.rel.wk b q).1⟩) fun b f z => s.rel.trk b f (x.stay b z), s.ext.trans x fun b e => ?_, s.sub, s.live, s.ownk⟩
  subst e
  exact .inr na
theorem Step.wroteL (R : Rel g F H env σ) (s : Step g σ F H env F' H' env') {a : Addr} {o : HO} (na : H a = none) (nf : ¬ F' a) (ho : (∃ xs, H' a = some (.lst xs)) ∨ ∃ ws, H' a = some (.dK ws)) {ds : List D} {xs : List V} (h : FrL g F' H' ds xs) : FrL g F' (upd H' a o) ds xs := by
  have x : Ext (fun b => b = a) F' H' F' (upd H' a o) := ⟨fun b u e n => .inl (by rw [upd_ne n]; exact e), fun b e => by
    by_cases z : b = a
    · subst z; rw [upd_same] at e; cases e
    · rw [upd_ne z] at e; exact e, fun _ e => e, fun _ e => .inl e⟩
  exact h.ext x fun b e => by subst e; exact ⟨nf, ho⟩
theorem Step.wroteK (R : Rel g F H env σ) (s : Step g σ F H env F' H' env') {a : Addr} {o : HO} (na : H a = none) (nf : ¬ F' a) (ho : (∃ xs, H' a = some (.lst xs)) ∨ ∃ ws, H' a = some (.dK ws)) {ds : List (Key × D)} {xs : List (Key × V)} (h : FrK g F' H' ds xs) : FrK g F' (upd H' a o) ds xs := by
  have x : Ext (fun b => b = a) F' H' F' (upd H' a o) := ⟨fun b u e n => .inl (by rw [upd_ne n]; exact e), fun b e => by
    by_cases z : b = a
    · subst z; rw [upd_same] at e; cases e
    · rw [upd_ne z] at e; exact e, fun _ e => e, fun _ e => .inl e⟩
  exact h.ext x fun b e => by subst e; exact ⟨nf, ho⟩
def SndP (g : Gx) (t : List (TE × TE)) (m : Ev → Out (List (Key × D))) : Prop := ∀ (F : Addr → Prop) (H : Hp) (env : Ev) (σ : L2.St) (Q : List (V × V) → Hp → Prop) (kvs : List (Key × D)) (env' : Ev), Rel g F H env σ → m env = .ok kvs env' →
  (∀ F' H' ws, Step g σ F H env F' H' env' → FrK g F' H' kvs ws → Q (ws.map fun kv => (kV kv.1, kv.2)) H') → tPairs t σ H Q
theorem sndP_nil {m : Ev → Out (List (Key × D))} (hm : ∀ env, m env = .ok [] env) : SndP g [] m := by
  intro F H env σ Q kvs env' R e q
  rw [hm] at e
  cases e
  exact q F H [] (.refl R) frK_nil
theorem sndP_cons {tk tv : TE} {tr : List (TE × TE)} {mk mv : Ev → Out Rv} {mr m : Ev → Out (List (Key × D))} (hk : SndE g tk mk) (hv : SndE g tv mv) (hr : SndP g tr mr)
    (hm : ∀ env, m env = (mk env).bind fun x e1 => (mv e1).bind fun y e2 => match keyD x.2 with
      | some key => (mr e2).bind fun xs e3 => .ok ((key, y.2) :: xs) e3
      | none => .stuck) : SndP g ((tk, tv) :: tr) m := by
  intro F H env σ Q kvs env' R e q
  rw [hm] at e
  obtain ⟨x, e1, h1, e⟩ := bind_ok e
  obtain ⟨y, e2, h2, e⟩ := bind_ok e
  cases h3 : keyD x.2 with
  | none => rw [h3] at e; cases e
  | some key =>
    rw [h3] at e
    simp only at e
    obtain ⟨xs, e3, h4, e⟩ := bind_ok e
    cases e
    refine hk.frz R h1 fun F1 H1 vx s1 f1 => ?_
    refine hv.frz s1.rel h2 fun F2 H2 vy s2 f2 => ?_
    refine hr F2 H2 e2 σ _ xs env' s2.rel h4 fun F3 H3 ws s3 f3 => ?_
    have ek := keyD_kV f1.bor h3
    subst ek
    exact q F3 H3 ((key, vy) :: ws) ((s1.trans s2).trans s3) (frK_cons (s3.fr s2.rel f2) f3)
theorem snd_dct0 {m : Ev → Out Rv} (hm : ∀ env, m env = .ok (ow (.dct [])) env) : SndE g tDNewK m := by
  intro F H env σ Q r env' R e q p hp
  rw [hm] at e
  cases e
  exact newD R.trk hp frK_nil fun H2 v n sl fr => q F H2 v (.new R n) sl fr
theorem snd_dct {trs : List (TE × TE)} {ms : Ev → Out (List (Key × D))} {m : Ev → Out Rv} (h : SndP g trs ms)
    (hm : ∀ env, m env = (ms env).bind fun kvs e1 => if kvs.length ≤ 15 then .ok (ow (.dct (kvs.foldl (fun acc kv => putD acc kv.1 kv.2) []))) e1 else .stuck) : SndE g (tDisp trs) m := by
  intro F H env σ Q r env' R e q p hp
  rw [hm] at e
  obtain ⟨kvs, e1, h1, e⟩ := bind_ok e
  split at e
  · rename_i hl
    cases e
    have n1 : New H (upd H p (.dK [])) := New.upd hp
    have s0 := Step.new R n1
    refine h F _ env σ _ kvs env' s0.rel h1 fun F2 H2 ws s2 f2 => ?_
    have np : ¬ OwnAt env σ p := fun z => R.ownTrk z hp
    have nf : ¬ F p := fun z => R.trk p z hp
    have hp2 : H2 p = some (.dK []) := by
      rcases s2.ext.keep p _ upd_same np with z | ⟨z, _⟩
      · exact z
      · exact absurd z nf
    have nf2 : ¬ F2 p := fun z => by
      rcases s2.ext.new p z with y | y | y
      · exact nf y
      · exact np y
      · rw [upd_same] at y; cases y
    refine ⟨hp2, ws, rfl, by rw [← f2.length]; exact hl, ?_⟩
    have s := s0.trans s2
    refine q F2 _ _ (s.put R hp nf2 (.inr ⟨_, hp2⟩)) (sl_ow.mpr ⟨p, _, rfl, nf2, upd_same, s.wroteK R hp nf2 (.inr ⟨_, hp2⟩) (frK_merge frK_nil f2)⟩) fun _ => ⟨p, rfl, hp⟩
  · cases e
end
end Ev
/-! Snd7: what is walked, targets, comprehensions. -/
namespace Ev
open PySem L2 RZ

structure Walk (g : Gx) (J : L2.It) (S : (Addr → Prop) → Hp → Prop) (ds : List D) : Prop where
  stab : ∀ (W F : Addr → Prop) (H : Hp) (F' : Addr → Prop) (H' : Hp), Ext W F H F' H' → Wk W F H → S F H → S F' H'
  go : ∀ (F : Addr → Prop) (H : Hp) (i : Nat) (d : D), S F H → ds[i]? = some d → J.go i H
  yld : ∀ (F : Addr → Prop) (H : Hp) (i : Nat) (d : D) (x : V) (H' : Hp), S F H → ds[i]? = some d → J.yld i H x H' → New H H' ∧ Fr g F H' d x
  stop : ∀ (F : Addr → Prop) (H : Hp), S F H → J.stop ds.length H
def SndI (g : Gx) (t : TI) (m : Ev → Out (List D)) : Prop := ∀ (F : Addr → Prop) (H : Hp) (env : Ev) (σ : L2.St) (R : L2.It → Hp → Prop) (ds : List D) (env' : Ev), Rel g F H env σ → m env = .ok ds env' →
  (∀ F' H' J S, Step g σ F H env F' H' env' → S F' H' → Walk g J S ds → R J H') → t σ H R
section
variable {g : Gx} {F F' F0 F1 : Addr → Prop} {H H' H0 H1 : Hp} {env env' env0 env1 : Ev} {σ : L2.St}
theorem walk_list {a : Addr} {ds : List D} : Walk g (Itl g.K a) (fun F H => ∃ xs, F a ∧ H a = some (.lst xs) ∧ FrL g F H ds xs) ds where
  stab := fun W F H F' H' x hw ⟨xs, f, h1, h2⟩ => ⟨xs, x.mono a f, x.lst hw f h1, h2.ext x hw⟩
  go := fun F H i d ⟨xs, f, h1, h2⟩ e => by
    obtain ⟨x, e1, _⟩ := h2.get e
    exact ⟨xs, x, SqL.of h1, e1⟩
  yld := fun F H i d x H' ⟨xs, f, h1, h2⟩ e ⟨eh, hy⟩ => by
    subst eh
    obtain ⟨y, e1, f1⟩ := h2.get e
    rw [hy xs (SqL.of h1)] at e1
    cases e1
    exact ⟨.refl, f1⟩
  stop := fun F H ⟨xs, f, h1, h2⟩ => ⟨xs, SqL.of h1, by rw [h2.length]; exact Nat.le_refl _⟩
theorem walk_scr {a : Addr} {ns : List Int} : Walk g (Itl g.K a) (fun F H => Fr g F H (.scr ns) (.ref a)) (ns.map D.int) where
  stab := fun W F H F' H' x hw h => h.ext x hw
  go := fun F H i d h e => by
    obtain ⟨b, eb, h1⟩ := bor_scr (F := F) h.bor
    cases eb
    obtain ⟨x, e1, _⟩ := (frL_ints (g := g) (F := F) (H := H) ns).get e
    exact ⟨_, x, h1, e1⟩
  yld := fun F H i d x H' h e ⟨eh, hy⟩ => by
    subst eh
    obtain ⟨b, eb, h1⟩ := bor_scr (F := F) h.bor
    cases eb
    obtain ⟨y, e1, f1⟩ := (frL_ints (g := g) (F := F) (H := H') ns).get e
    rw [hy _ h1] at e1
    cases e1
    exact ⟨.refl, f1⟩
  stop := fun F H h => by
    obtain ⟨b, eb, h1⟩ := bor_scr (F := F) h.bor
    cases eb
    exact ⟨_, h1, by simp⟩
theorem walk_tup {a : Addr} {ds : List D} {xs : List V} : Walk g (Itt g.K a) (fun F H => SqT g.K H a xs ∧ FrL g F H ds xs) ds where
  stab := fun W F H F' H' x hw ⟨h1, h2⟩ => ⟨x.tup hw h1, h2.ext x hw⟩
  go := fun F H i d ⟨h1, h2⟩ e => by
    obtain ⟨x, e1, _⟩ := h2.get e
    exact ⟨xs, x, h1, e1⟩
  yld := fun F H i d x H' ⟨h1, h2⟩ e ⟨eh, hy⟩ => by
    subst eh
    obtain ⟨y, e1, f1⟩ := h2.get e
    rw [hy xs h1] at e1
    cases e1
    exact ⟨.refl, f1⟩
  stop := fun F H ⟨h1, h2⟩ => ⟨xs, h1, by rw [h2.length]; exact Nat.le_refl _⟩
theorem walk_keys {a : Addr} {o : Obj} {ws : List (Key × V)} : Walk g (Itk a o ws) (fun _ H => H a = some (.frz o (.dK ws))) (ws.map fun kv => kD kv.1) where
  stab := fun W F H F' H' x hw h => by
    have nw : ¬ W a := fun w => by
      rcases (hw a w).2 with ⟨ys, q⟩ | ⟨ws, q⟩ <;> rw [h] at q <;> cases q
    rcases x.keep a _ h nw with q | ⟨_, _, _, q, _⟩
    · exact q
    · cases q
  go := fun F H i d h e => ⟨h, by
    have := (List.getElem?_eq_some_iff.mp e).1
    simpa using this⟩
  yld := fun F H i d x H' h e ⟨eh, k, v, hy, hx⟩ => by
    subst eh; subst hx
    refine ⟨.refl, ?_⟩
    rw [List.getElem?_map, hy] at e
    cases e
    exact fr_key k
  stop := fun F H h => ⟨h, by simp⟩
theorem walk_str {s : Str} : Walk g (Its s) (fun _ _ => True) (s.cps.toList.map fun c => .str ⟨#[c]⟩) where
  stab := fun _ _ _ _ _ _ _ _ => trivial
  go := fun F H i d _ e => by
    have := (List.getElem?_eq_some_iff.mp e).1
    show i < s.cps.size
    simpa using this
  yld := fun F H i d x H' _ e ⟨eh, c, hy, hx⟩ => by
    subst eh; subst hx
    refine ⟨.refl, ?_⟩
    rw [List.getElem?_map, Array.getElem?_toList, hy] at e
    cases e
    exact fr_str
  stop := fun F H _ => by show _ ≤ _; simp
theorem walk_rng {lo : Int} {n : Nat} : Walk g (Itr lo n) (fun _ _ => True) (rngD lo n) where
  stab := fun _ _ _ _ _ _ _ _ => trivial
  go := fun F H i d _ e => by
    have := (List.getElem?_eq_some_iff.mp e).1
    unfold rngD at this
    show i < n
    simpa using this
  yld := fun F H i d x H' _ e ⟨eh, hx⟩ => by
    subst eh; subst hx
    refine ⟨.refl, ?_⟩
    unfold rngD at e
    rw [List.getElem?_map] at e
    have hi : i < n := by
      cases q : (List.range n)[i]? with
      | none => rw [q] at e; cases e
      | some j => simpa using (List.getElem?_eq_some_iff.mp q).1
    rw [List.getElem?_range hi] at e
    cases e
    exact fr_int
  stop := fun F H _ => by show n ≤ _; unfold rngD; simp
theorem enumD_get : ∀ (ds : List D) (k i : Nat) (e : D), (enumD k ds)[i]? = some e → ∃ d, ds[i]? = some d ∧ e = .tup [.int ((k + i : Nat) : Int), d]
  | [], k, i, e, h => by simp [enumD] at h
  | d :: ds, k, 0, e, h => by
    simp [enumD] at h
    exact ⟨d, rfl, by simp [h]⟩
  | d :: ds, k, i + 1, e, h => by
    simp only [enumD, List.getElem?_cons_succ] at h
    obtain ⟨d', h1, h2⟩ := enumD_get ds (k + 1) i e h
    exact ⟨d', by simpa using h1, by rw [h2]; congr 3; omega⟩
theorem enumD_length : ∀ (ds : List D) (k : Nat), (enumD k ds).length = ds.length
  | [], _ => rfl
  | d :: ds, k => by simp [enumD, enumD_length ds]
theorem fr_tup {ds : List D} {xs : List V} {T : Addr} (h : H T = some (.tup xs)) (f : FrL g F H ds xs) : Fr g F H (.tup ds) (.ref T) := by
  rw [Fr]; exact ⟨T, xs, rfl, SqT.of h, f⟩
theorem walk_enum {a : Addr} {ds : List D} : Walk g (Ite g.K a) (fun F H => ∃ xs, F a ∧ H a = some (.lst xs) ∧ FrL g F H ds xs) (enumD 0 ds) where
  stab := walk_list.stab
  go := fun F H i d ⟨xs, f, h1, h2⟩ e => by
    obtain ⟨d', e', _⟩ := enumD_get ds 0 i d e
    obtain ⟨x, e1, _⟩ := h2.get e'
    exact ⟨xs, x, SqL.of h1, e1⟩
  yld := fun F H i d x H' ⟨xs, f, h1, h2⟩ e ⟨T, y, hx, hT, eh, hy⟩ => by
    subst eh; subst hx
    obtain ⟨d', e', rfl⟩ := enumD_get ds 0 i d e
    obtain ⟨z, e1, f1⟩ := h2.get e'
    rw [hy xs (SqL.of h1)] at e1
    cases e1
    refine ⟨New.upd hT, fr_tup upd_same (.cons ?_ (.cons (f1.new (New.upd hT)) .nil))⟩
    rw [Nat.zero_add]
    exact fr_int
  stop := fun F H ⟨xs, f, h1, h2⟩ => ⟨xs, SqL.of h1, by rw [enumD_length, h2.length]; exact Nat.le_refl _⟩
/-- a tuple's items, each in a new pair with its place -/
def IteT (K : PySem.W.Frag) (a : Addr) : L2.It :=
  ⟨fun i H => ∃ (xs : List V) (x : V), SqT K H a xs ∧ xs[i]? = some x, fun i H v H' => ∃ T x, v = .ref T ∧ H T = none ∧ H' = upd H T (.tup [.int (i : Nat), x]) ∧ ∀ xs, SqT K H a xs → xs[i]? = some x, fun i H => ∃ xs : List V, SqT K H a xs ∧ xs.length ≤ i⟩
theorem walk_enumT {a : Addr} {ds : List D} {xs : List V} : Walk g (IteT g.K a) (fun F H => SqT g.K H a xs ∧ FrL g F H ds xs) (enumD 0 ds) where
  stab := walk_tup.stab
  go := fun F H i d ⟨h1, h2⟩ e => by
    obtain ⟨d', e', _⟩ := enumD_get ds 0 i d e
    obtain ⟨x, e1, _⟩ := h2.get e'
    exact ⟨xs, x, h1, e1⟩
  yld := fun F H i d x H' ⟨h1, h2⟩ e ⟨T, y, hx, hT, eh, hy⟩ => by
    subst eh; subst hx
    obtain ⟨d', e', rfl⟩ := enumD_get ds 0 i d e
    obtain ⟨z, e1, f1⟩ := h2.get e'
    rw [hy xs h1] at e1
    cases e1
    refine ⟨New.upd hT, fr_tup upd_same (.cons ?_ (.cons (f1.new (New.upd hT)) .nil))⟩
    rw [Nat.zero_add]
    exact fr_int
  stop := fun F H ⟨h1, h2⟩ => ⟨xs, h1, by rw [enumD_length, h2.length]; exact Nat.le_refl _⟩
theorem zipD_get : ∀ (ds es : List D) (i : Nat) (e : D), (zipD ds es)[i]? = some e → ∃ x y, ds[i]? = some x ∧ es[i]? = some y ∧ e = .tup [x, y]
  | [], es, i, e, h => by simp [zipD] at h
  | d :: ds, [], i, e, h => by simp [zipD] at h
  | d :: ds, x :: es, 0, e, h => by
    simp [zipD] at h
    exact ⟨d, x, rfl, rfl, by simp [h]⟩
  | d :: ds, x :: es, i + 1, e, h => by
    simp only [zipD, List.getElem?_cons_succ] at h
    obtain ⟨a, b, h1, h2, h3⟩ := zipD_get ds es i e h
    exact ⟨a, b, by simpa using h1, by simpa using h2, h3⟩
theorem zipD_length : ∀ (ds es : List D), (zipD ds es).length = min ds.length es.length
  | [], es => by simp [zipD]
  | d :: ds, [] => by simp [zipD]
  | d :: ds, x :: es => by simp [zipD, zipD_length ds es]
theorem walk_zip {a b : Addr} {ds es : List D} : Walk g (Itz g.K a b) (fun F H => (∃ xs, F a ∧ H a = some (.lst xs) ∧ FrL g F H ds xs) ∧ ∃ ys, F b ∧ H b = some (.lst ys) ∧ FrL g F H es ys) (zipD ds es) where
  stab := fun W F H F' H' x hw ⟨h1, h2⟩ => ⟨walk_list.stab W F H F' H' x hw h1, walk_list.stab W F H F' H' x hw h2⟩
  go := fun F H i d ⟨⟨xs, _, h1, h2⟩, ys, _, h3, h4⟩ e => by
    obtain ⟨x, y, e1, e2, _⟩ := zipD_get ds es i d e
    obtain ⟨v, q1, _⟩ := h2.get e1
    obtain ⟨w, q2, _⟩ := h4.get e2
    exact ⟨xs, ys, v, w, SqL.of h1, SqL.of h3, q1, q2⟩
  yld := fun F H i d x H' ⟨⟨xs, _, h1, h2⟩, ys, _, h3, h4⟩ e ⟨T, v, w, hx, hT, eh, hv, hw⟩ => by
    subst eh; subst hx
    obtain ⟨x, y, e1, e2, rfl⟩ := zipD_get ds es i d e
    obtain ⟨v', q1, f1⟩ := h2.get e1
    obtain ⟨w', q2, f2⟩ := h4.get e2
    rw [hv xs (SqL.of h1)] at q1; cases q1
    rw [hw ys (SqL.of h3)] at q2; cases q2
    exact ⟨New.upd hT, fr_tup upd_same (.cons (f1.new (New.upd hT)) (.cons (f2.new (New.upd hT)) .nil))⟩
  stop := fun F H ⟨⟨xs, _, h1, h2⟩, ys, _, h3, h4⟩ => ⟨xs, ys, SqL.of h1, SqL.of h3, by rw [zipD_length, h2.length, h4.length]; omega⟩
theorem walk_zipT {a b : Addr} {ds es : List D} {xs ys : List V} : Walk g (ItzT g.K a b) (fun F H => (SqT g.K H a xs ∧ FrL g F H ds xs) ∧ SqT g.K H b ys ∧ FrL g F H es ys) (zipD ds es) where
  stab := fun W F H F' H' x hw ⟨⟨h1, h2⟩, h3, h4⟩ => ⟨⟨x.tup hw h1, h2.ext x hw⟩, x.tup hw h3, h4.ext x hw⟩
  go := fun F H i d ⟨⟨h1, h2⟩, h3, h4⟩ e => by
    obtain ⟨x, y, e1, e2, _⟩ := zipD_get ds es i d e
    obtain ⟨v, q1, _⟩ := h2.get e1
    obtain ⟨w, q2, _⟩ := h4.get e2
    exact ⟨xs, ys, v, w, h1, h3, q1, q2⟩
  yld := fun F H i d x H' ⟨⟨h1, h2⟩, h3, h4⟩ e ⟨T, v, w, hx, hT, eh, hv, hw⟩ => by
    subst eh; subst hx
    obtain ⟨x, y, e1, e2, rfl⟩ := zipD_get ds es i d e
    obtain ⟨v', q1, f1⟩ := h2.get e1
    obtain ⟨w', q2, f2⟩ := h4.get e2
    rw [hv xs h1] at q1; cases q1
    rw [hw ys h3] at q2; cases q2
    exact ⟨New.upd hT, fr_tup upd_same (.cons (f1.new (New.upd hT)) (.cons (f2.new (New.upd hT)) .nil))⟩
  stop := fun F H ⟨⟨h1, h2⟩, h3, h4⟩ => ⟨xs, ys, h1, h3, by rw [zipD_length, h2.length, h4.length]; omega⟩

/-! ### iterables -/
def iKeysL (te : TE) : TI := fun σ H R => te σ H fun x H1 => ∃ a kvs, x = .ref a ∧ ((H1 a = some (.dK kvs) ∧ ∀ o, R (Itk a o kvs) (upd H1 a (.frz o (.dK kvs)))) ∨ ∃ o, H1 a = some (.frz o (.dK kvs)) ∧ R (Itk a o kvs) H1)
def iSeq (K : PySem.W.Frag) (te : TE) : TI := fun σ H R => iList K te σ H R ∨ iTup K te σ H R ∨ iKeysL te σ H R ∨ iStr te σ H R
theorem Step.lock (R : Rel g F H env σ) (s : Step g σ F H env F' H' env') {a : Addr} {kvs : List (Key × V)} {o : Obj} (f : F' a) (h : H' a = some (.dK kvs)) : Step g σ F H env F' (upd H' a (.frz o (.dK kvs))) env' := by
  have x : Ext (fun _ => False) F' H' F' (upd H' a (.frz o (.dK kvs))) := ⟨fun b u e _ => by
      by_cases z : b = a
      · subst z; rw [h] at e; cases e
        exact .inr ⟨f, kvs, o, rfl, upd_same⟩
      · exact .inl (by rw [upd_ne z]; exact e), fun b e => by
      by_cases z : b = a
      · subst z; rw [upd_same] at e; cases e
      · rw [upd_ne z] at e; exact e, fun _ e => e, fun _ e => .inl e⟩
  exact ⟨s.rel.go x (fun _ z => z.elim) (fun b q => ⟨fun z => z, (s.rel.wk b q).1⟩) fun b f z => s.rel.trk b f (x.stay b z), s.ext.trans x fun _ z => z.elim, s.sub, s.live, s.ownk⟩
theorem frK_same : ∀ {kvs : List (Key × D)} {ws : List (Key × V)}, FrK g F H kvs ws → (kvs.map fun kv => kD kv.1) = ws.map fun kv => kD kv.1
  | [], ws, h => by rw [FrK] at h; subst h; rfl
  | (k, d) :: r, ws, h => by
    rw [FrK] at h
    obtain ⟨x, s, rfl, _, h2⟩ := h
    simp only [List.map_cons]
    rw [frK_same h2]
theorem sndI_seq {te : TE} {me : Ev → Out Rv} {m : Ev → Out (List D)} (h : SndE g te me) (hm : ∀ env, m env = (me env).bind fun r e1 => lift (itemsD r.2) e1) : SndI g (iSeq g.K te) m := by
  intro F H env σ R ds env' Rl e q
  rw [hm] at e
  obtain ⟨r, e1, h1, e⟩ := bind_ok e
  obtain ⟨h2, rfl⟩ := lift_ok e
  obtain ⟨o, d⟩ := r
  cases d <;> first | (cases h2; done) | skip
  · cases h2
    refine .inr (.inr (.inr ?_))
    refine h.frz Rl h1 fun F1 H1 v s1 f1 => ?_
    rw [Fr] at f1
    exact ⟨_, f1, q F1 H1 _ _ s1 trivial walk_str⟩
  · cases h2
    refine .inl ?_
    refine h.frz Rl h1 fun F1 H1 v s1 f1 => ?_
    rw [Fr] at f1
    obtain ⟨a, xs, rfl, f, hl, hf⟩ := f1
    exact ⟨a, rfl, ⟨xs, SqL.of hl⟩, q F1 H1 _ _ s1 ⟨xs, f, hl, hf⟩ walk_list⟩
  · cases h2
    refine .inr (.inl ?_)
    refine h.frz Rl h1 fun F1 H1 v s1 f1 => ?_
    rw [Fr] at f1
    obtain ⟨a, xs, rfl, hl, hf⟩ := f1
    exact ⟨a, rfl, ⟨xs, hl⟩, q F1 H1 _ _ s1 ⟨hl, hf⟩ walk_tup⟩
  · rename_i kvs
    refine .inr (.inr (.inl ?_))
    refine h.frz Rl h1 fun F1 H1 v s1 f1 => ?_
    rw [Fr] at f1
    obtain ⟨a, ws, rfl, f, hl, hf⟩ := f1
    have ed : ds = ws.map fun kv => kD kv.1 := by
      have h2' : some (kvs.map fun kv => kD kv.1) = some ds := h2
      rw [← frK_same hf]
      exact (Option.some.inj h2').symm
    subst ed
    rcases hl with hl | ⟨o, hl⟩
    · exact ⟨a, ws, rfl, .inl ⟨hl, fun o => q F1 _ _ _ (s1.lock Rl f hl) upd_same walk_keys⟩⟩
    · exact ⟨a, ws, rfl, .inr ⟨o, hl, q F1 _ _ _ s1 hl walk_keys⟩⟩
  · cases h2
    refine .inl ?_
    refine h.frz Rl h1 fun F1 H1 v s1 f1 => ?_
    have f2 := f1
    rw [Fr] at f2
    obtain ⟨a, rfl, _⟩ := f2
    obtain ⟨b, eb, hl⟩ := bor_scr f1.bor
    cases eb
    exact ⟨a, rfl, ⟨_, hl⟩, q F1 H1 _ _ s1 f1 walk_scr⟩
theorem sndI_rng1 {te : TE} {me : Ev → Out Rv} {m : Ev → Out (List D)} (h : SndE g te me) (hm : ∀ env, m env = (me env).bind fun r e1 => match r.2 with
    | .int n => if rngOk n then .ok (rngD 0 n.toNat) e1 else .stuck
    | _ => .stuck) : SndI g (iRng1 (tCons te tNil)) m := by
  intro F H env σ R ds env' Rl e q
  rw [hm] at e
  obtain ⟨r, e1, h1, e⟩ := bind_ok e
  obtain ⟨o, d⟩ := r
  cases d <;> first | (cases e; done) | skip
  simp only at e
  split at e
  · rename_i i hr
    cases e
    refine h.frz Rl h1 fun F1 H1 v s1 f1 => ?_
    rw [Fr] at f1
    subst f1
    unfold rngOk at hr
    simp only [Bool.and_eq_true, decide_eq_true_eq] at hr
    exact ⟨i, rfl, hr.1, hr.2, q F1 H1 _ _ s1 trivial walk_rng⟩
  · cases e
theorem sndI_rng2 {ta tb : TE} {ma mb : Ev → Out Rv} {m : Ev → Out (List D)} (ha : SndE g ta ma) (hb : SndE g tb mb) (hm : ∀ env, m env = (ma env).bind fun r e1 => (mb e1).bind fun r' e2 => match r.2, r'.2 with
    | .int i, .int j => if rngOk i && rngOk j then .ok (rngD i (j - i).toNat) e2 else .stuck
    | _, _ => .stuck) : SndI g (iRng2 (tCons ta (tCons tb tNil))) m := by
  intro F H env σ R ds env' Rl e q
  rw [hm] at e
  obtain ⟨r, e1, h1, e⟩ := bind_ok e
  obtain ⟨r', e2, h2, e⟩ := bind_ok e
  obtain ⟨o, d⟩ := r
  obtain ⟨o', d'⟩ := r'
  cases d <;> first | (cases e; done) | skip
  cases d' <;> first | (cases e; done) | skip
  simp only at e
  split at e
  · rename_i hr
    cases e
    refine ha.frz Rl h1 fun F1 H1 v s1 f1 => ?_
    refine hb.frz s1.rel h2 fun F2 H2 v' s2 f2 => ?_
    rw [Fr] at f1 f2
    subst f1; subst f2
    unfold rngOk at hr
    simp only [Bool.and_eq_true, decide_eq_true_eq] at hr
    exact ⟨_, _, rfl, ⟨hr.1.1, hr.1.2, hr.2.1, hr.2.2⟩, q F2 H2 _ _ (s1.trans s2) trivial walk_rng⟩
  · cases e
def iEnumA (K : PySem.W.Frag) (te : TE) : TI := fun σ H R => te σ H fun x H1 => ∃ a xs, x = .ref a ∧ ((SqL K H1 a xs ∧ R (Ite K a) H1) ∨ (SqT K H1 a xs ∧ R (IteT K a) H1))
theorem sndI_enum {te : TE} {me : Ev → Out Rv} {m : Ev → Out (List D)} (h : SndE g te me) (hm : ∀ env, m env = (me env).bind fun r e1 => match seqD r.2 with
    | some xs => .ok (enumD 0 xs) e1
    | none => .stuck) : SndI g (iEnumA g.K te) m := by
  intro F H env σ R ds env' Rl e q
  rw [hm] at e
  obtain ⟨r, e1, h1, e⟩ := bind_ok e
  obtain ⟨o, d⟩ := r
  cases d <;> first | (cases e; done) | skip
  · simp only [seqD] at e
    cases e
    refine h.frz Rl h1 fun F1 H1 v s1 f1 => ?_
    rw [Fr] at f1
    obtain ⟨a, xs, rfl, f, hl, hf⟩ := f1
    exact ⟨a, xs, rfl, .inl ⟨SqL.of hl, q F1 H1 _ _ s1 ⟨xs, f, hl, hf⟩ walk_enum⟩⟩
  · simp only [seqD] at e
    cases e
    refine h.frz Rl h1 fun F1 H1 v s1 f1 => ?_
    rw [Fr] at f1
    obtain ⟨a, xs, rfl, hl, hf⟩ := f1
    exact ⟨a, xs, rfl, .inr ⟨hl, q F1 H1 _ _ s1 ⟨hl, hf⟩ walk_enumT⟩⟩
theorem sndI_zip {ta tb : TE} {ma mb : Ev → Out Rv} {m : Ev → Out (List D)} (ha : SndE g ta ma) (hb : SndE g tb mb) (hm : ∀ env, m env = (ma env).bind fun r e1 => (mb e1).bind fun r' e2 => match r.2, r'.2 with
    | .lst xs, .lst ys => .ok (zipD xs ys) e2
    | .tup xs, .tup ys => .ok (zipD xs ys) e2
    | _, _ => .stuck) : SndI g (iZipA g.K (tCons ta (tCons tb tNil))) m := by
  intro F H env σ R ds env' Rl e q
  rw [hm] at e
  obtain ⟨r, e1, h1, e⟩ := bind_ok e
  obtain ⟨r', e2, h2, e⟩ := bind_ok e
  obtain ⟨o, d⟩ := r
  obtain ⟨o', d'⟩ := r'
  cases d <;> first | (cases e; done) | skip
  all_goals (cases d' <;> first | (cases e; done) | skip)
  · simp only at e
    cases e
    refine ha.frz Rl h1 fun F1 H1 v s1 f1 => ?_
    refine hb.frz s1.rel h2 fun F2 H2 v' s2 f2 => ?_
    have f1 := s2.fr s1.rel f1
    rw [Fr] at f1 f2
    obtain ⟨a, xs, rfl, f, hl, hf⟩ := f1
    obtain ⟨b, ys, rfl, f', hl', hf'⟩ := f2
    exact ⟨a, b, xs, ys, rfl, .inl ⟨SqL.of hl, SqL.of hl', q F2 H2 _ _ (s1.trans s2) ⟨⟨xs, f, hl, hf⟩, ys, f', hl', hf'⟩ walk_zip⟩⟩
  · simp only at e
    cases e
    refine ha.frz Rl h1 fun F1 H1 v s1 f1 => ?_
    refine hb.frz s1.rel h2 fun F2 H2 v' s2 f2 => ?_
    have f1 := s2.fr s1.rel f1
    rw [Fr] at f1 f2
    obtain ⟨a, xs, rfl, hl, hf⟩ := f1
    obtain ⟨b, ys, rfl, hl', hf'⟩ := f2
    exact ⟨a, b, xs, ys, rfl, .inr ⟨hl, hl', q F2 H2 _ _ (s1.trans s2) ⟨⟨hl, hf⟩, hl', hf'⟩ walk_zipT⟩⟩
end
end Ev
/-! Snd8: targets, comprehensions. -/
namespace Ev
open PySem L2 RZ

def gNames : List Nat → TGs
  | [] => gNil
  | i :: r => gCons (gName i) (gNames r)
def denTg (K : PySem.W.Frag) (tg : List Nat) (one : Bool) : TG :=
  match one, tg with
  | true, [i] => gName i
  | _, is => gTup K is.length (gNames is)
section
variable {g : Gx} {F F' F0 F1 : Addr → Prop} {H H' H0 H1 : Hp} {env env' env0 env1 : Ev} {σ σ' : L2.St}
theorem set_get {α : Type} {l : List α} {i j : Nat} {x : α} (h : i < l.length) : (l.set i x)[j]? = if i = j then some x else l[j]? := by
  by_cases e : i = j
  · subst e; rw [List.getElem?_set_self h, if_pos rfl]
  · rw [List.getElem?_set_ne e, if_neg e]
theorem Rel.assign (R : Rel g F H env σ) {i : Nat} {r : Rv} {x : V} (hi : i < env.length) (sl : Sl g F H r x) (na : r.1 = true → ∀ a, x = .ref a → ¬ OwnAt env σ a) : Rel g F H (env.set i (some r)) (σ.set i (some x)) := by
  have hσ : i < σ.length := by rw [← R.len]; exact hi
  refine ⟨by simpa using R.len, fun j r' h => ?_, fun j k d d' a h1 h2 h3 h4 => ?_, R.trk⟩
  · rw [getS_set hi] at h
    rw [set_get hσ]
    split at h
    · rename_i e
      cases h
      rw [if_pos e]
      exact ⟨x, rfl, sl⟩
    · rename_i e
      rw [if_neg e]
      exact R.slot j r' h
  · rw [getS_set hi] at h1 h2
    rw [set_get hσ] at h3 h4
    split at h1
    · rename_i e1
      split at h2
      · rename_i e2
        omega
      · rename_i e2
        rw [if_pos e1] at h3
        rw [if_neg e2] at h4
        cases h1; cases h3
        exact absurd ⟨k, d', h2, h4⟩ (na rfl a rfl)
    · rename_i e1
      split at h2
      · rename_i e2
        rw [if_neg e1] at h3
        rw [if_pos e2] at h4
        cases h2; cases h4
        exact absurd ⟨j, d, h1, h3⟩ (na rfl a rfl)
      · rename_i e2
        rw [if_neg e1] at h3
        rw [if_neg e2] at h4
        exact R.inj j k d d' a h1 h2 h3 h4
/-- behind a target -/
structure TgF (keep : Nat) (tg : List Nat) (env env2 : Ev) (σ σ2 : L2.St) : Prop where
  len : σ2.length = σ.length
  out : ∀ i, i ∉ tg → σ2[i]? = σ[i]? ∧ getS env2 i = getS env i
  mem : ∀ i, i ∈ tg → keep ≤ i ∧ ∃ d, getS env2 i = some (false, d)
theorem putE_ok {keep i : Nat} {r : Rv} {env env2 : Ev} (h : putE keep i r env = some env2) : keep ≤ i ∧ i < env.length ∧ env2 = env.set i (some r) := by
  unfold putE at h
  split at h
  · rename_i c
    cases h
    exact ⟨c.1, c.2, rfl⟩
  · cases h
theorem tg_one {keep i : Nat} {d : D} {x : V} {env2 : Ev} (h : putE keep i (fz d) env = some env2) (R : Rel g F H env σ) (f : Fr g F H d x) : Rel g F H env2 (σ.set i (some x)) ∧ TgF keep [i] env env2 σ (σ.set i (some x)) := by
  obtain ⟨hk, hi, rfl⟩ := putE_ok h
  have hσ : i < σ.length := by rw [← R.len]; exact hi
  refine ⟨R.assign hi (sl_fz.mpr f) (fun z => by cases z), by simp, fun j hj => ?_, fun j hj => ?_⟩
  · have ne : i ≠ j := fun e => hj (by simp [e])
    exact ⟨by rw [List.getElem?_set_ne ne], getS_set_ne ne⟩
  · have e : j = i := by simpa using hj
    subst e
    exact ⟨hk, d, getS_set_self hi⟩
theorem tg_all {keep : Nat} : ∀ {is : List Nat} {ds : List D} {xs : List V} {env env2 : Ev} {σ : L2.St} {Q : L2.St → Hp → Prop}, putAll keep is ds env = some env2 → Rel g F H env σ → FrL g F H ds xs →
    (∀ σ2, Rel g F H env2 σ2 → TgF keep is env env2 σ σ2 → Q σ2 H) → xs.length = is.length ∧ gNames is xs σ H Q
  | [], [], xs, env, env2, σ, Q, h, R, f, q => by
    rw [FrL] at f
    subst f
    rw [putAll] at h
    cases h
    exact ⟨rfl, rfl, q σ R ⟨rfl, fun _ _ => ⟨rfl, rfl⟩, fun i hi => by simp at hi⟩⟩
  | i :: is, d :: ds, xs, env, env2, σ, Q, h, R, f, q => by
    rw [FrL] at f
    obtain ⟨x, r, rfl, f1, f2⟩ := f
    rw [putAll] at h
    cases hp : putE keep i (fz d) env with
    | none => rw [hp] at h; cases h
    | some e1 =>
      rw [hp] at h
      obtain ⟨R1, T1⟩ := tg_one hp R f1
      have := tg_all (Q := Q) h R1 f2 fun σ2 R2 T2 => q σ2 R2 ⟨by rw [T2.len, T1.len], fun j hj => ?_, fun j hj => ?_⟩
      · exact ⟨by simp [this.1], x, r, rfl, this.2⟩
      · have h1 : j ∉ [i] := fun z => hj (by simp at z; simp [z])
        have h2 : j ∉ is := fun z => hj (List.mem_cons_of_mem _ z)
        exact ⟨(T2.out j h2).1.trans (T1.out j h1).1, (T2.out j h2).2.trans (T1.out j h1).2⟩
      · by_cases h2 : j ∈ is
        · exact T2.mem j h2
        · have h1 : j ∈ [i] := by
            rcases List.mem_cons.mp hj with z | z
            · simp [z]
            · exact absurd z h2
          obtain ⟨k, d', e⟩ := T1.mem j h1
          exact ⟨k, d', by rw [(T2.out j h2).2]; exact e⟩
  | [], _ :: _, xs, env, env2, σ, Q, h, R, f, q => by rw [putAll] at h; cases h; all_goals (intros; simp_all)
  | _ :: _, [], xs, env, env2, σ, Q, h, R, f, q => by rw [putAll] at h; cases h; all_goals (intros; simp_all)
theorem tg_ok {keep : Nat} {tg : List Nat} {one : Bool} {d : D} {x : V} {env2 : Ev} {Q : L2.St → Hp → Prop} (h : target keep tg one d env = some env2) (R : Rel g F H env σ) (f : Fr g F H d x)
    (q : ∀ σ2, Rel g F H env2 σ2 → TgF keep tg env env2 σ σ2 → Q σ2 H) : denTg g.K tg one x σ H Q := by
  unfold target at h
  split at h
  · rename_i i
    obtain ⟨R1, T1⟩ := tg_one h R f
    exact q _ R1 T1
  · split at h
    · rename_i ds
      rw [Fr] at f
      obtain ⟨a, xs, rfl, h1, h2⟩ := f
      obtain ⟨hl, hq⟩ := tg_all h R h2 q
      exact ⟨a, xs, rfl, h1, hl, hq⟩
    · cases h
  · cases h

/-! ### a comprehension's block -/
theorem wipeE_len (env : Ev) : ∀ own : List Nat, (wipeE env own).length = env.length
  | [] => rfl
  | i :: r => by rw [wipeE, List.length_set, wipeE_len env r]
theorem getS_none {env : Ev} {i : Nat} (h : ¬ i < env.length) : getS env i = none := by
  unfold getS
  rw [List.getElem?_eq_none (by omega)]
  rfl
theorem getS_wipe (env : Ev) (i : Nat) : ∀ own : List Nat, getS (wipeE env own) i = if i ∈ own then none else getS env i
  | [] => by simp [wipeE]
  | j :: r => by
    rw [wipeE]
    by_cases hj : j < (wipeE env r).length
    · rw [getS_set hj]
      by_cases e : j = i
      · subst e; simp
      · rw [if_neg e, getS_wipe env i r]
        have : i ≠ j := fun z => e z.symm
        simp [this]
    · rw [List.set_eq_of_length_le (by omega), getS_wipe env i r]
      by_cases e : i = j
      · subst e
        have hn : getS env i = none := getS_none (by rw [wipeE_len] at hj; exact hj)
        simp [hn]
      · simp [e]
theorem restE_len (env old : Ev) : ∀ own : List Nat, (restE env old own).length = env.length
  | [] => rfl
  | i :: r => by rw [restE, List.length_set, restE_len env old r]
theorem getS_rest (env old : Ev) (hl : env.length = old.length) (i : Nat) : ∀ own : List Nat, getS (restE env old own) i = if i ∈ own then getS old i else getS env i
  | [] => by simp [restE]
  | j :: r => by
    rw [restE]
    by_cases hj : j < (restE env old r).length
    · rw [getS_set hj]
      by_cases e : j = i
      · subst e; simp
      · rw [if_neg e, getS_rest env old hl i r]
        have : i ≠ j := fun z => e z.symm
        simp [this]
    · rw [List.set_eq_of_length_le (by omega), getS_rest env old hl i r]
      by_cases e : i = j
      · subst e
        rw [restE_len] at hj
        have hn : getS env i = none := getS_none hj
        have hn' : getS old i = none := getS_none (by rw [← hl]; exact hj)
        simp [hn, hn']
      · simp [e]
theorem wipe_in {σ : L2.St} {i : Nat} : ∀ {own : List Nat}, i ∈ own → i < σ.length → (wipe σ own)[i]? = some none
  | [], h, _ => by simp at h
  | j :: r, h, hi => by
    unfold wipe
    by_cases e : j = i
    · subst e
      rw [List.getElem?_set_self (by rw [wipe_length]; exact hi)]
    · rw [List.getElem?_set_ne e]
      rcases List.mem_cons.mp h with z | z
      · exact absurd z.symm e
      · exact wipe_in z hi
theorem wipe_congr {σ σ2 : L2.St} {own : List Nat} (hl : σ2.length = σ.length) (h : ∀ i, i ∉ own → σ2[i]? = σ[i]?) : wipe σ2 own = wipe σ own := by
  apply List.ext_getElem?
  intro i
  by_cases hi : i ∈ own
  · by_cases hi2 : i < σ.length
    · rw [wipe_in hi hi2, wipe_in hi (by rw [hl]; exact hi2)]
    · rw [List.getElem?_eq_none (by rw [wipe_length]; omega), List.getElem?_eq_none (by rw [wipe_length]; omega)]
  · rw [wipe_out hi, wipe_out hi, h i hi]
theorem Rel.wipe (R : Rel g F H env σ) (own : List Nat) : Rel g F H (wipeE env own) (L2.wipe σ own) := by
  have one : ∀ i r, getS (wipeE env own) i = some r → i ∉ own ∧ getS env i = some r := fun i r h => by
    rw [getS_wipe] at h
    split at h
    · cases h
    · exact ⟨by assumption, h⟩
  refine ⟨by rw [wipeE_len, wipe_length]; exact R.len, fun i r h => ?_, fun i j d d' a h1 h2 h3 h4 => ?_, R.trk⟩
  · obtain ⟨n, h⟩ := one i r h
    obtain ⟨v, e, s⟩ := R.slot i r h
    exact ⟨v, by rw [wipe_out n]; exact e, s⟩
  · obtain ⟨n1, h1⟩ := one i _ h1
    obtain ⟨n2, h2⟩ := one j _ h2
    rw [wipe_out n1] at h3
    rw [wipe_out n2] at h4
    exact R.inj i j d d' a h1 h2 h3 h4
theorem ownAt_wipe {own : List Nat} {a : Addr} (h : OwnAt (wipeE env own) (wipe σ own) a) : ∃ i d, i ∉ own ∧ getS env i = some (true, d) ∧ σ[i]? = some (some (.ref a)) := by
  obtain ⟨i, d, h1, h2⟩ := h
  rw [getS_wipe] at h1
  split at h1
  · cases h1
  · rename_i n
    rw [wipe_out n] at h2
    exact ⟨i, d, n, h1, h2⟩
theorem Step.unblock {own : List Nat} {en : Ev} (R : Rel g F H env σ) (s : Step g (L2.wipe σ own) F H (wipeE env own) F' H' en) : Step g σ F H env F' H' (restE en env own) := by
  have hl : en.length = env.length := by rw [s.rel.len, wipe_length, R.len]
  have gr : ∀ i, getS (restE en env own) i = if i ∈ own then getS env i else getS en i := fun i => getS_rest en env hl i own
  have w0 : ∀ a, OwnAt (wipeE env own) (L2.wipe σ own) a → OwnAt env σ a := fun a h => by
    obtain ⟨i, d, _, h1, h2⟩ := ownAt_wipe h
    exact ⟨i, d, h1, h2⟩
  -- what a shadowed name owns is not touched
  have shadow : ∀ i d a, i ∈ own → getS env i = some (true, d) → σ[i]? = some (some (.ref a)) → ¬ OwnAt (wipeE env own) (L2.wipe σ own) a := fun i d a hi h1 h2 h => by
    obtain ⟨j, d', nj, h3, h4⟩ := ownAt_wipe h
    have e := R.inj i j d d' a h1 h3 h2 h4
    subst e
    exact nj hi
  have wk := (R.wipe own).wk
  have nf : ∀ a, ¬ F a → ¬ OwnAt (wipeE env own) (L2.wipe σ own) a → H a ≠ none → ¬ F' a := fun a h1 h2 h3 z => by
    rcases s.ext.new a z with q | q | q
    · exact h1 q
    · exact h2 q
    · exact h3 q
  refine ⟨⟨by rw [restE_len, hl]; exact R.len, fun i r h => ?_, fun i j d d' a h1 h2 h3 h4 => ?_, s.rel.trk⟩, s.ext.wider fun a h => .inl (w0 a h), fun a ⟨i, d, h1, h2⟩ => ?_, fun i r h => ?_, fun i d a h1 h2 => ?_⟩
  · rw [gr] at h
    split at h
    · rename_i hi
      obtain ⟨o, d⟩ := r
      cases o with
      | false =>
        obtain ⟨v, e, f⟩ := R.fz h
        exact ⟨v, e, sl_fz.mpr (f.ext s.ext wk)⟩
      | true =>
        obtain ⟨a, e, f, oa⟩ := R.own h
        have sh := shadow i d a hi h e
        exact ⟨_, e, sl_ow.mpr (f.ext s.ext wk sh (nf a (R.wk a oa).1 sh (R.ownTrk oa)))⟩
    · rename_i hi
      obtain ⟨v, e, f⟩ := s.rel.slot i r h
      rw [wipe_out hi] at e
      exact ⟨v, e, f⟩
  · have key : ∀ i j d d' a, i ∈ own → j ∉ own → getS env i = some (true, d) → getS en j = some (true, d') → σ[i]? = some (some (.ref a)) → σ[j]? = some (some (.ref a)) → False := fun i j d d' a hi hj h1 h2 h3 h4 =>
      shadow i d a hi h1 h3 (s.sub a ⟨j, d', h2, by rw [wipe_out hj]; exact h4⟩)
    rw [gr] at h1 h2
    split at h1
    · rename_i hi
      split at h2
      · exact R.inj i j d d' a h1 h2 h3 h4
      · rename_i hj
        exact (key i j d d' a hi hj h1 h2 h3 h4).elim
    · rename_i hi
      split at h2
      · rename_i hj
        exact (key j i d' d a hj hi h2 h1 h4 h3).elim
      · rename_i hj
        exact s.rel.inj i j d d' a h1 h2 (by rw [wipe_out hi]; exact h3) (by rw [wipe_out hj]; exact h4)
  · rw [gr] at h1
    split at h1
    · exact ⟨i, d, h1, h2⟩
    · rename_i hi
      exact w0 a (s.sub a ⟨i, d, h1, by rw [wipe_out hi]; exact h2⟩)
  · rw [gr]
    split
    · exact ⟨r, h⟩
    · rename_i hi
      exact s.live i r (by rw [getS_wipe, if_neg hi]; exact h)
  · rw [gr]
    split
    · exact .inl ⟨d, h1⟩
    · rename_i hi
      exact s.ownk i d a (by rw [getS_wipe, if_neg hi]; exact h1) (by rw [wipe_out hi]; exact h2)
theorem Step.turn {own tg : List Nat} {keep : Nat} {en env2 env3 : Ev} {σw σ2 : L2.St} {F3 : Addr → Prop} {H3 : Hp} (R : Rel g F H en σw) (hw : ∀ i, i ∈ own → getS en i = none) (n : New H H') (T : TgF keep tg en env2 σw σ2) (ht : ∀ i, i ∈ tg → i ∈ own)
    (s : Step g σ2 F H' env2 F3 H3 env3) (hσ : L2.wipe σ2 own = σw) : Step g σw F H en F3 H3 (wipeE env3 own) := by
  have off : ∀ i, i ∉ own → i ∉ tg := fun i h z => h (ht i z)
  have w2 : ∀ a, OwnAt env2 σ2 a → OwnAt en σw a := fun a ⟨i, d, h1, h2⟩ => by
    by_cases hi : i ∈ tg
    · obtain ⟨_, d', e⟩ := T.mem i hi
      rw [h1] at e; cases e
    · obtain ⟨e1, e2⟩ := T.out i hi
      exact ⟨i, d, by rw [← e2]; exact h1, by rw [← e1]; exact h2⟩
  have inown : ∀ i r, getS en i = some r → i ∉ own := fun i r h z => by rw [hw i z] at h; cases h
  refine ⟨hσ ▸ s.rel.wipe own, n.ext.trans s.ext fun a h => .inl (w2 a h), fun a h => ?_, fun i r h => ?_, fun i d a h1 h2 => ?_⟩
  · rw [← hσ] at h
    obtain ⟨i, d, hi, h1, h2⟩ := ownAt_wipe h
    exact w2 a (s.sub a ⟨i, d, h1, h2⟩)
  · have hi := inown i r h
    obtain ⟨e1, e2⟩ := T.out i (off i hi)
    rw [getS_wipe, if_neg hi]
    exact s.live i r (by rw [e2]; exact h)
  · have hi := inown i _ h1
    obtain ⟨e1, e2⟩ := T.out i (off i hi)
    rw [getS_wipe, if_neg hi]
    exact s.ownk i d a (by rw [e2]; exact h1) (by rw [e1]; exact h2)
theorem wiped_wipe (env : Ev) (own : List Nat) : ∀ i, i ∈ own → getS (wipeE env own) i = none := fun i h => by rw [getS_wipe, if_pos h]
/-- what stands at a new address that no slot holds stands behind a step -/
theorem Step.stays (R : Rel g F H env σ) (s : Step g σ F H env F' H' env') {a : Addr} {o : HO} (h : H a = some o) (nf : ¬ F a) (no : ¬ OwnAt env σ a) : H' a = some o ∧ ¬ F' a := by
  refine ⟨?_, fun z => ?_⟩
  · rcases s.ext.keep a o h no with q | ⟨q, _⟩
    · exact q
    · exact absurd q nf
  · rcases s.ext.new a z with q | q | q
    · exact nf q
    · exact no q
    · rw [h] at q; cases q
def compFn (keep : Nat) (tg : List Nat) (one : Bool) (own : List Nat) (mt : Ev → Out Bool) (me : Ev → Out Rv) (d : D) (en : Ev) : Out (Option D) :=
  match target keep tg one d en with
  | none => .stuck
  | some en1 => (mt en1).bind fun t en2 => if t then (me en2).bind fun r en3 => .ok (some r.2) (wipeE en3 own) else .ok none (wipeE en2 own)
theorem snd_comp {wi : TI} {mi : Ev → Out (List D)} {tg own : List Nat} {one : Bool} {keep : Nat} {tt : TT} {mt : Ev → Out Bool} {te : TE} {me m : Ev → Out Rv} (hi : SndI g wi mi) (ht : SndC g tt mt) (he : SndE g te me)
    (hm : ∀ env, m env = (mi env).bind fun items e1 => if items.length ≤ sizeLine ∧ tg.all own.contains = true then (compLoop (compFn keep tg one own mt me) items (wipeE e1 own)).bind fun r e2 => .ok (ow (.lst r)) (restE e2 e1 own) else .stuck) :
    SndE g (tLc wi (denTg g.K tg one) tt te own) m := by
  intro F H env σ Q r env' R e q
  rw [hm] at e
  obtain ⟨items, e1, h1, e⟩ := bind_ok e
  split at e
  · rename_i hc
    obtain ⟨rs, e2, h2, e⟩ := bind_ok e
    cases e
    have htg : ∀ i, i ∈ tg → i ∈ own := fun i hi => by
      have := List.all_eq_true.mp hc.2 i hi
      simpa using this
    refine hi F H env σ _ items e1 R h1 fun F1 H1 J S s1 hS wk => ?_
    intro D hD
    have R1 := s1.rel
    have Rw := R1.wipe own
    refine ⟨fun i m Hc => ∃ (Fc : Addr → Prop) (en : Ev) (acc : List Ev.D) (accV : List V) (rest : List Ev.D), Step g (wipe σ own) F1 H1 (wipeE e1 own) Fc Hc en ∧ (∀ i, i ∈ own → getS en i = none) ∧ S Fc Hc ∧ Hc D = some (.lst accV) ∧ ¬ Fc D ∧ FrL g Fc Hc acc accV ∧
      compLoop (compFn keep tg one own mt me) (items.drop i) en = .ok rest e2 ∧ acc ++ rest = rs ∧ acc.length ≤ i ∧ i ≤ items.length ∧ m = items.length - i, ?_, ?_⟩
    · refine ⟨items.length, F1, wipeE e1 own, [], [], rs, .new Rw (New.upd hD), wiped_wipe e1 own, wk.stab (fun _ => False) F1 H1 F1 _ (New.upd hD).ext (fun _ z => z.elim) hS, upd_same, fun z => R1.trk D z hD, FrL.nil, h2, rfl, Nat.zero_le _, Nat.zero_le _, by simp⟩
    · rintro i m Hc ⟨Fc, en, acc, accV, rest, sc, hw, hSc, hDc, nfD, fa, hl, er, hai, hil, rfl⟩
      have nD : ¬ OwnAt en (wipe σ own) D := fun z => Rw.ownTrk (sc.sub D z) hD
      by_cases hlt : i < items.length
      · refine .inr ⟨wk.go Fc Hc i items[i] hSc (List.getElem?_eq_getElem hlt), fun H' => ∃ m', m' < items.length - i ∧ ∃ (Fc : Addr → Prop) (en : Ev) (acc : List Ev.D) (accV : List V) (rest : List Ev.D), Step g (wipe σ own) F1 H1 (wipeE e1 own) Fc H' en ∧ (∀ i, i ∈ own → getS en i = none) ∧ S Fc H' ∧ H' D = some (.lst accV) ∧ ¬ Fc D ∧ FrL g Fc H' acc accV ∧
          compLoop (compFn keep tg one own mt me) (items.drop (i + 1)) en = .ok rest e2 ∧ acc ++ rest = rs ∧ acc.length ≤ i + 1 ∧ i + 1 ≤ items.length ∧ m' = items.length - (i + 1), fun H' h => h, fun x H' hy => ?_⟩
        obtain ⟨nw, fx⟩ := wk.yld Fc Hc i items[i] x H' hSc (List.getElem?_eq_getElem hlt) hy
        rw [List.drop_eq_getElem_cons hlt, compLoop] at hl
        obtain ⟨o, en1, k1, hl1⟩ := bind_ok hl
        obtain ⟨rest', en2, k2, hl2⟩ := bind_ok hl1
        clear hl1 hl
        have er2 : en2 = e2 := by cases hl2; rfl
        subst er2
        unfold compFn at k1
        cases k3 : target keep tg one items[i] en with
        | none => rw [k3] at k1; cases k1
        | some env2 =>
          rw [k3] at k1
          simp only at k1
          obtain ⟨t, en3, k4, k1⟩ := bind_ok k1
          refine tg_ok k3 (sc.rel.new nw) fx fun σ2 R2 T => ⟨?_, ?_⟩
          · rw [wipe_congr (σ := wipe σ own) T.len fun j hj => (T.out j fun z => hj (htg j z)).1]
            exact wipe_congr (wipe_length _ _) fun j hj => wipe_out hj
          · have hσ : wipe σ2 own = wipe σ own := by
              rw [wipe_congr (σ := wipe σ own) T.len fun j hj => (T.out j fun z => hj (htg j z)).1]
              exact wipe_congr (wipe_length _ _) fun j hj => wipe_out hj
            have S1 : S Fc H' := wk.stab (fun _ => False) Fc Hc Fc H' nw.ext (fun _ z => z.elim) hSc
            have nD2 : ¬ OwnAt env2 σ2 D := fun z => by
              obtain ⟨j, d, q1, q2⟩ := z
              by_cases hj : j ∈ tg
              · obtain ⟨_, d', q3⟩ := T.mem j hj
                rw [q1] at q3; cases q3
              · obtain ⟨q3, q4⟩ := T.out j hj
                exact nD ⟨j, d, by rw [← q4]; exact q1, by rw [← q3]; exact q2⟩
            have hD1 : H' D = some (.lst accV) := nw _ _ hDc
            refine ht Fc H' env2 σ2 _ t en3 R2 k4 fun F3 H3 s3 => ?_
            have S3 := wk.stab _ _ _ _ _ s3.ext R2.wk S1
            obtain ⟨hD3, nf3⟩ := s3.stays R2 hD1 nfD nD2
            have fa3 : FrL g F3 H3 acc accV := s3.frL R2 (fa.new nw)
            cases t with
            | false =>
              rw [if_neg (by decide)] at k1 ⊢
              cases k1
              have er3 : rest = rest' := by cases hl2; rfl
              subst er3
              have tn := Step.turn sc.rel hw nw T htg s3 hσ
              exact ⟨items.length - (i + 1), by omega, F3, _, acc, accV, rest, sc.trans tn, wiped_wipe _ own, S3, hD3, nf3, fa3, k2, er, by omega, hlt, rfl⟩
            | true =>
              rw [if_pos rfl] at k1 ⊢
              obtain ⟨y, en4, k5, k1⟩ := bind_ok k1
              cases k1
              have er3 : rest = y.2 :: rest' := by cases hl2; rfl
              subst er3
              refine he.frz s3.rel k5 fun F4 H4 v s4 f4 => ?_
              have S4 := wk.stab _ _ _ _ _ s4.ext s3.rel.wk S3
              have nD3 : ¬ OwnAt en3 σ2 D := fun z => nD2 (s3.sub D z)
              obtain ⟨hD4, nf4⟩ := s4.stays s3.rel hD3 nf3 nD3
              have fa4 : FrL g F4 H4 acc accV := s4.frL s3.rel fa3
              have s34 := s3.trans s4
              have tn := Step.turn sc.rel hw nw T htg s34 hσ
              have sn := sc.trans tn
              have ho : (∃ xs, H4 D = some (.lst xs)) ∨ ∃ ws, H4 D = some (.dK ws) := .inl ⟨_, hD4⟩
              have xw : Ext (fun b => b = D) F4 H4 F4 (upd H4 D (.lst (accV ++ [v]))) := ⟨fun b u e n => .inl (by rw [upd_ne n]; exact e), fun b e => by
                by_cases z : b = D
                · subst z; rw [upd_same] at e; cases e
                · rw [upd_ne z] at e; exact e, fun _ e => e, fun _ e => .inl e⟩
              have hwk : Wk (fun b => b = D) F4 H4 := fun b e => by subst e; exact ⟨nf4, ho⟩
              refine ⟨accV, hD4, by rw [← fa4.length]; have := hc.1; omega, items.length - (i + 1), by omega, F4, _, acc ++ [y.2], accV ++ [v], rest', sn.put Rw hD nf4 ho, wiped_wipe _ own, wk.stab _ _ _ _ _ xw hwk S4, upd_same, nf4, ?_, k2, by rw [← er]; simp, by simp; omega, hlt, rfl⟩
              exact (fa4.app (.cons f4 .nil)).ext xw hwk
      · have ei : i = items.length := by omega
        subst ei
        rw [List.drop_length, compLoop] at hl
        have er1 : rest = [] ∧ en = e2 := by cases hl; exact ⟨rfl, rfl⟩
        obtain ⟨rfl, rfl⟩ := er1
        rw [List.append_nil] at er
        subst er
        refine .inl ⟨wk.stop Fc Hc hSc, q Fc Hc _ (s1.trans (sc.unblock R1)) (sl_ow.mpr ⟨D, accV, rfl, nfD, hDc, fa⟩) fun _ => ⟨D, rfl, s1.ext.stay D hD⟩⟩
  · cases e
end
end Ev
/-! Lk: a comprehension that only looks at a list that its own name owns: the name is hidden while it runs. -/
namespace Ev
open PySem L2
section
variable {g : Gx} {F F' F0 F1 : Addr → Prop} {H H' H0 H1 : Hp} {env env' env0 env1 : Ev} {σ : L2.St}
theorem getS_hide (env : Ev) (i j : Nat) : getS (env.set i none) j = if i = j then none else getS env j := by
  by_cases h : i < env.length
  · exact getS_set h
  · rw [List.set_eq_of_length_le (by omega)]
    split
    · rename_i e
      subst e
      exact getS_none h
    · rfl
theorem hide_some {i j : Nat} {r : Rv} (h : getS (env.set i none) j = some r) : i ≠ j ∧ getS env j = some r := by
  rw [getS_hide] at h
  split at h
  · cases h
  · exact ⟨by assumption, h⟩
theorem Rel.hide (R : Rel g F H env σ) (i : Nat) : Rel g F H (env.set i none) σ :=
  ⟨by rw [List.length_set]; exact R.len, fun j r h => R.slot j r (hide_some h).2, fun j k d d' a h1 h2 h3 h4 => R.inj j k d d' a (hide_some h1).2 (hide_some h2).2 h3 h4, R.trk⟩
theorem own_hide {i : Nat} {a : Addr} (h : OwnAt (env.set i none) σ a) : ∃ j d, i ≠ j ∧ getS env j = some (true, d) ∧ σ[j]? = some (some (.ref a)) := by
  obtain ⟨j, d, h1, h2⟩ := h
  exact ⟨j, d, (hide_some h1).1, (hide_some h1).2, h2⟩
/-- what the hidden name owns, no other name owns -/
theorem Rel.shadow (R : Rel g F H env σ) {i : Nat} {d : D} {a : Addr} (h1 : getS env i = some (true, d)) (h2 : σ[i]? = some (some (.ref a))) : ¬ OwnAt (env.set i none) σ a := fun h => by
  obtain ⟨j, d', n, h3, h4⟩ := own_hide h
  exact n (R.inj i j d d' a h1 h3 h2 h4)
theorem Step.unhide {i : Nat} {d : D} {en : Ev} (R : Rel g F H env σ) (hs : getS env i = some (true, d)) (s : Step g σ F H (env.set i none) F' H' en) : Step g σ F H env F' H' (en.set i (some (true, d))) := by
  have hl : en.length = env.length := by rw [s.rel.len, R.len]
  have hi : i < en.length := by rw [hl]; exact getS_lt hs
  have gr : ∀ j, getS (en.set i (some (true, d))) j = if i = j then some (true, d) else getS en j := fun j => getS_set hi
  have w0 : ∀ a, OwnAt (env.set i none) σ a → OwnAt env σ a := fun a h => by
    obtain ⟨j, d', _, h1, h2⟩ := own_hide h
    exact ⟨j, d', h1, h2⟩
  obtain ⟨a, ea, fo, oa⟩ := R.own hs
  have sh := R.shadow hs ea
  have wk := (R.hide i).wk
  have nf : ¬ F' a := fun z => by
    rcases s.ext.new a z with q | q | q
    · exact (R.wk a oa).1 q
    · exact sh q
    · exact R.ownTrk oa q
  refine ⟨⟨by rw [List.length_set, hl]; exact R.len, fun j r h => ?_, fun j k d1 d2 b h1 h2 h3 h4 => ?_, s.rel.trk⟩, s.ext.wider fun a h => .inl (w0 a h), fun b ⟨j, d', h1, h2⟩ => ?_, fun j r h => ?_, fun j d' b h1 h2 => ?_⟩
  · rw [gr] at h
    split at h
    · rename_i e
      subst e
      cases h
      exact ⟨_, ea, sl_ow.mpr (fo.ext s.ext wk sh nf)⟩
    · exact s.rel.slot j r h
  · have key : ∀ k d2 b, i ≠ k → getS en k = some (true, d2) → σ[i]? = some (some (.ref b)) → σ[k]? = some (some (.ref b)) → False := fun k d2 b n h2 h3 h4 => by
      rw [ea] at h3
      cases h3
      exact sh (s.sub a ⟨k, d2, h2, h4⟩)
    rw [gr] at h1 h2
    split at h1
    · rename_i e
      subst e
      split at h2
      · assumption
      · rename_i n
        exact (key k d2 b n h2 h3 h4).elim
    · rename_i n
      split at h2
      · rename_i e
        subst e
        exact (key j d1 b n h1 h4 h3).elim
      · exact s.rel.inj j k d1 d2 b h1 h2 h3 h4
  · rw [gr] at h1
    split at h1
    · rename_i e
      subst e
      exact ⟨i, d, hs, h2⟩
    · exact w0 b (s.sub b ⟨j, d', h1, h2⟩)
  · rw [gr]
    split
    · exact ⟨_, rfl⟩
    · rename_i n
      exact s.live j r (by rw [getS_hide, if_neg n]; exact h)
  · rw [gr]
    split
    · exact .inl ⟨_, rfl⟩
    · rename_i n
      exact s.ownk j d' b (by rw [getS_hide, if_neg n]; exact h1) h2
theorem look_core {i0 : Nat} {tg own : List Nat} {one : Bool} {keep : Nat} {tt : TT} {mt : Ev → Out Bool} {te : TE} {me : Ev → Out Rv} {items rs : List Ev.D} {e2 : Ev} {Q : V → Hp → Prop} (ht : SndC g tt mt) (he : SndE g te me) (R : Rel g F H env σ) (hs : getS env i0 = some (true, .lst items))
    (hc : items.length ≤ sizeLine ∧ tg.all own.contains = true ∧ own.contains i0 = false) (h2 : compLoop (compFn keep tg one own mt me) items (wipeE (env.set i0 none) own) = .ok rs e2)
    (q : ∀ F' H' v, Step g σ F H env F' H' ((restE e2 (env.set i0 none) own).set i0 (some (true, .lst items))) → Sl g F' H' (ow (.lst rs)) v → ((ow (.lst rs)).1 = true → ∃ a, v = .ref a ∧ H a = none) → Q v H') :
    tLc (iSeq g.K (tVar i0)) (denTg g.K tg one) tt te own σ H Q := by
    have htg : ∀ i, i ∈ tg → i ∈ own := fun i hi => by
      have := List.all_eq_true.mp hc.2.1 i hi
      simpa using this
    obtain ⟨a, ea, fo, oa⟩ := R.own hs
    obtain ⟨a', xv, e', fa0, ha, fx0⟩ := fo
    cases e'
    have go : ∀ (F : Addr → Prop) (H : Hp) (i : Nat) (d : Ev.D), (H a = some (.lst xv) ∧ ¬ F a ∧ FrL g F H items xv) → items[i]? = some d → (Itl g.K a).go i H := fun F H i d ⟨h1, _, h2⟩ e => by
      obtain ⟨x, e1, _⟩ := h2.get e
      exact ⟨xv, x, SqL.of h1, e1⟩
    have yld : ∀ (F : Addr → Prop) (H : Hp) (i : Nat) (d : Ev.D) (x : V) (H' : Hp), (H a = some (.lst xv) ∧ ¬ F a ∧ FrL g F H items xv) → items[i]? = some d → (Itl g.K a).yld i H x H' → New H H' ∧ Fr g F H' d x := fun F H i d x H' ⟨h1, _, h2⟩ e ⟨eh, hy⟩ => by
      subst eh
      obtain ⟨y, e1, f1⟩ := h2.get e
      rw [hy xv (SqL.of h1)] at e1
      cases e1
      exact ⟨.refl, f1⟩
    have stp : ∀ (F : Addr → Prop) (H : Hp), (H a = some (.lst xv) ∧ ¬ F a ∧ FrL g F H items xv) → (Itl g.K a).stop items.length H := fun F H ⟨h1, _, h2⟩ => ⟨xv, SqL.of h1, by rw [h2.length]; exact Nat.le_refl _⟩
    refine .inl ⟨_, ea, a, rfl, ⟨xv, SqL.of ha⟩, ?_⟩
    intro D hD
    have aD : a ≠ D := fun z => by subst z; rw [ha] at hD; cases hD
    have R1 := R.hide i0
    have na0 : ¬ OwnAt (wipeE (env.set i0 none) own) (wipe σ own) a := fun z => by
      obtain ⟨j, d, _, h1, h2⟩ := ownAt_wipe z
      exact R.shadow hs ea ⟨j, d, h1, h2⟩
    have Rw := R1.wipe own
    refine ⟨fun i m Hc => ∃ (Fc : Addr → Prop) (en : Ev) (acc : List Ev.D) (accV : List V) (rest : List Ev.D), Step g (wipe σ own) F H (wipeE (env.set i0 none) own) Fc Hc en ∧ (∀ i, i ∈ own → getS en i = none) ∧ (Hc a = some (.lst xv) ∧ ¬ Fc a ∧ FrL g Fc Hc items xv) ∧ Hc D = some (.lst accV) ∧ ¬ Fc D ∧ FrL g Fc Hc acc accV ∧
      compLoop (compFn keep tg one own mt me) (items.drop i) en = .ok rest e2 ∧ acc ++ rest = rs ∧ acc.length ≤ i ∧ i ≤ items.length ∧ m = items.length - i, ?_, ?_⟩
    · refine ⟨items.length, F, wipeE (env.set i0 none) own, [], [], rs, .new Rw (New.upd hD), wiped_wipe (env.set i0 none) own, ⟨(New.upd hD) _ _ ha, fa0, fx0.new (New.upd hD)⟩, upd_same, fun z => R.trk D z hD, FrL.nil, h2, rfl, Nat.zero_le _, Nat.zero_le _, by simp⟩
    · rintro i m Hc ⟨Fc, en, acc, accV, rest, sc, hw, hSc, hDc, nfD, fa, hl, er, hai, hil, rfl⟩
      have nD : ¬ OwnAt en (wipe σ own) D := fun z => Rw.ownTrk (sc.sub D z) hD
      have nA : ¬ OwnAt en (wipe σ own) a := fun z => na0 (sc.sub a z)
      by_cases hlt : i < items.length
      · refine .inr ⟨go Fc Hc i items[i] hSc (List.getElem?_eq_getElem hlt), fun H' => ∃ m', m' < items.length - i ∧ ∃ (Fc : Addr → Prop) (en : Ev) (acc : List Ev.D) (accV : List V) (rest : List Ev.D), Step g (wipe σ own) F H (wipeE (env.set i0 none) own) Fc H' en ∧ (∀ i, i ∈ own → getS en i = none) ∧ (H' a = some (.lst xv) ∧ ¬ Fc a ∧ FrL g Fc H' items xv) ∧ H' D = some (.lst accV) ∧ ¬ Fc D ∧ FrL g Fc H' acc accV ∧
          compLoop (compFn keep tg one own mt me) (items.drop (i + 1)) en = .ok rest e2 ∧ acc ++ rest = rs ∧ acc.length ≤ i + 1 ∧ i + 1 ≤ items.length ∧ m' = items.length - (i + 1), fun H' h => h, fun x H' hy => ?_⟩
        obtain ⟨nw, fx⟩ := yld Fc Hc i items[i] x H' hSc (List.getElem?_eq_getElem hlt) hy
        rw [List.drop_eq_getElem_cons hlt, compLoop] at hl
        obtain ⟨o, en1, k1, hl1⟩ := bind_ok hl
        obtain ⟨rest', en2, k2, hl2⟩ := bind_ok hl1
        clear hl1 hl
        have er2 : en2 = e2 := by cases hl2; rfl
        subst er2
        unfold compFn at k1
        cases k3 : target keep tg one items[i] en with
        | none => rw [k3] at k1; cases k1
        | some env2 =>
          rw [k3] at k1
          simp only at k1
          obtain ⟨t, en3, k4, k1⟩ := bind_ok k1
          refine tg_ok k3 (sc.rel.new nw) fx fun σ2 R2 T => ⟨?_, ?_⟩
          · rw [wipe_congr (σ := wipe σ own) T.len fun j hj => (T.out j fun z => hj (htg j z)).1]
            exact wipe_congr (wipe_length _ _) fun j hj => wipe_out hj
          · have hσ : wipe σ2 own = wipe σ own := by
              rw [wipe_congr (σ := wipe σ own) T.len fun j hj => (T.out j fun z => hj (htg j z)).1]
              exact wipe_congr (wipe_length _ _) fun j hj => wipe_out hj
            have S1 : H' a = some (.lst xv) ∧ ¬ Fc a ∧ FrL g Fc H' items xv := ⟨nw _ _ hSc.1, hSc.2.1, hSc.2.2.new nw⟩
            have nD2 : ¬ OwnAt env2 σ2 D := fun z => by
              obtain ⟨j, d, q1, q2⟩ := z
              by_cases hj : j ∈ tg
              · obtain ⟨_, d', q3⟩ := T.mem j hj
                rw [q1] at q3; cases q3
              · obtain ⟨q3, q4⟩ := T.out j hj
                exact nD ⟨j, d, by rw [← q4]; exact q1, by rw [← q3]; exact q2⟩
            have nA2 : ¬ OwnAt env2 σ2 a := fun z => by
              obtain ⟨j, d, q1, q2⟩ := z
              by_cases hj : j ∈ tg
              · obtain ⟨_, d', q3⟩ := T.mem j hj
                rw [q1] at q3; cases q3
              · obtain ⟨q3, q4⟩ := T.out j hj
                exact nA ⟨j, d, by rw [← q4]; exact q1, by rw [← q3]; exact q2⟩
            have hD1 : H' D = some (.lst accV) := nw _ _ hDc
            refine ht Fc H' env2 σ2 _ t en3 R2 k4 fun F3 H3 s3 => ?_
            have S3 : H3 a = some (.lst xv) ∧ ¬ F3 a ∧ FrL g F3 H3 items xv := ⟨(s3.stays R2 S1.1 S1.2.1 nA2).1, (s3.stays R2 S1.1 S1.2.1 nA2).2, s3.frL R2 S1.2.2⟩
            obtain ⟨hD3, nf3⟩ := s3.stays R2 hD1 nfD nD2
            have fa3 : FrL g F3 H3 acc accV := s3.frL R2 (fa.new nw)
            cases t with
            | false =>
              rw [if_neg (by decide)] at k1 ⊢
              cases k1
              have er3 : rest = rest' := by cases hl2; rfl
              subst er3
              have tn := Step.turn sc.rel hw nw T htg s3 hσ
              exact ⟨items.length - (i + 1), by omega, F3, _, acc, accV, rest, sc.trans tn, wiped_wipe _ own, S3, hD3, nf3, fa3, k2, er, by omega, hlt, rfl⟩
            | true =>
              rw [if_pos rfl] at k1 ⊢
              obtain ⟨y, en4, k5, k1⟩ := bind_ok k1
              cases k1
              have er3 : rest = y.2 :: rest' := by cases hl2; rfl
              subst er3
              refine he.frz s3.rel k5 fun F4 H4 v s4 f4 => ?_
              have nA3 : ¬ OwnAt en3 σ2 a := fun z => nA2 (s3.sub a z)
              have S4 : H4 a = some (.lst xv) ∧ ¬ F4 a ∧ FrL g F4 H4 items xv := ⟨(s4.stays s3.rel S3.1 S3.2.1 nA3).1, (s4.stays s3.rel S3.1 S3.2.1 nA3).2, s4.frL s3.rel S3.2.2⟩
              have nD3 : ¬ OwnAt en3 σ2 D := fun z => nD2 (s3.sub D z)
              obtain ⟨hD4, nf4⟩ := s4.stays s3.rel hD3 nf3 nD3
              have fa4 : FrL g F4 H4 acc accV := s4.frL s3.rel fa3
              have s34 := s3.trans s4
              have tn := Step.turn sc.rel hw nw T htg s34 hσ
              have sn := sc.trans tn
              have ho : (∃ xs, H4 D = some (.lst xs)) ∨ ∃ ws, H4 D = some (.dK ws) := .inl ⟨_, hD4⟩
              have xw : Ext (fun b => b = D) F4 H4 F4 (upd H4 D (.lst (accV ++ [v]))) := ⟨fun b u e n => .inl (by rw [upd_ne n]; exact e), fun b e => by
                by_cases z : b = D
                · subst z; rw [upd_same] at e; cases e
                · rw [upd_ne z] at e; exact e, fun _ e => e, fun _ e => .inl e⟩
              have hwk : Wk (fun b => b = D) F4 H4 := fun b e => by subst e; exact ⟨nf4, ho⟩
              refine ⟨accV, hD4, by rw [← fa4.length]; have := hc.1; omega, items.length - (i + 1), by omega, F4, _, acc ++ [y.2], accV ++ [v], rest', sn.put Rw hD nf4 ho, wiped_wipe _ own, ⟨by rw [upd_ne aD]; exact S4.1, S4.2.1, S4.2.2.ext xw hwk⟩, upd_same, nf4, ?_, k2, by rw [← er]; simp, by simp; omega, hlt, rfl⟩
              exact (fa4.app (.cons f4 .nil)).ext xw hwk
      · have ei : i = items.length := by omega
        subst ei
        rw [List.drop_length, compLoop] at hl
        have er1 : rest = [] ∧ en = e2 := by cases hl; exact ⟨rfl, rfl⟩
        obtain ⟨rfl, rfl⟩ := er1
        rw [List.append_nil] at er
        subst er
        refine .inl ⟨stp Fc Hc hSc, q Fc Hc _ ((sc.unblock R1).unhide R hs) (sl_ow.mpr ⟨D, accV, rfl, nfD, hDc, fa⟩) fun _ => ⟨D, rfl, hD⟩⟩
theorem snd_look {i0 : Nat} {tg own : List Nat} {one : Bool} {keep : Nat} {tt : TT} {mt : Ev → Out Bool} {te : TE} {me m : Ev → Out Rv} (ht : SndC g tt mt) (he : SndE g te me)
    (hm : ∀ env, m env = match getS env i0 with
      | some (true, .lst items) => if items.length ≤ sizeLine ∧ tg.all own.contains = true ∧ own.contains i0 = false then (compLoop (compFn keep tg one own mt me) items (wipeE (env.set i0 none) own)).bind fun r e2 => .ok (ow (.lst r)) ((restE e2 (env.set i0 none) own).set i0 (some (true, .lst items))) else .stuck
      | _ => .stuck) :
    SndE g (tLc (iSeq g.K (tVar i0)) (denTg g.K tg one) tt te own) m := by
  intro F H env σ Q r env' R e q
  rw [hm] at e
  split at e
  · rename_i items hs
    split at e
    · rename_i hc
      obtain ⟨rs, e2, h2, e⟩ := bind_ok e
      cases e
      exact look_core ht he R hs hc h2 q
    · cases e
  · cases e
end
end Ev
/-! Snd9: dict comprehensions, methods that write, statements, loops. -/
namespace Ev
open PySem L2 RZ
section
variable {g : Gx} {F F' F0 F1 : Addr → Prop} {H H' H0 H1 : Hp} {env env' env0 env1 : Ev} {σ σ' : L2.St}
theorem putD_length (kvs : List (Key × D)) (k : Key) (d : D) : (putD kvs k d).length ≤ kvs.length + 1 := by
  unfold putD
  split <;> simp
def dcompFn (keep : Nat) (tg : List Nat) (one : Bool) (own : List Nat) (mk mv : Ev → Out Rv) (d : D) (en : Ev) : Out (Key × D) :=
  match target keep tg one d en with
  | none => .stuck
  | some en1 => (mk en1).bind fun r en2 => (mv en2).bind fun r' en3 => match keyD r.2 with
    | some key => .ok (key, r'.2) (wipeE en3 own)
    | none => .stuck
theorem snd_dcomp {wi : TI} {mi : Ev → Out (List D)} {tg own : List Nat} {one : Bool} {keep : Nat} {tk tv : TE} {mk mv m : Ev → Out Rv} (hi : SndI g wi mi) (hk : SndE g tk mk) (hv : SndE g tv mv)
    (hm : ∀ env, m env = (mi env).bind fun items e1 => if items.length ≤ sizeLine ∧ tg.all own.contains = true then (dcompLoop (dcompFn keep tg one own mk mv) items [] (wipeE e1 own)).bind fun r e2 => .ok (ow (.dct r)) (restE e2 e1 own) else .stuck) :
    SndE g (tDc wi (denTg g.K tg one) tYes tk tv own) m := by
  intro F H env σ Q r env' R e q
  rw [hm] at e
  obtain ⟨items, e1, h1, e⟩ := bind_ok e
  split at e
  · rename_i hc
    obtain ⟨rs, e2, h2, e⟩ := bind_ok e
    cases e
    have htg : ∀ i, i ∈ tg → i ∈ own := fun i hi => by
      have := List.all_eq_true.mp hc.2 i hi
      simpa using this
    refine hi F H env σ _ items e1 R h1 fun F1 H1 J S s1 hS wk => ?_
    intro D hD
    have R1 := s1.rel
    have Rw := R1.wipe own
    refine ⟨fun i m Hc => ∃ (Fc : Addr → Prop) (en : Ev) (acc : List (Key × Ev.D)) (accV : List (Key × V)), Step g (wipe σ own) F1 H1 (wipeE e1 own) Fc Hc en ∧ (∀ i, i ∈ own → getS en i = none) ∧ S Fc Hc ∧ Hc D = some (.dK accV) ∧ ¬ Fc D ∧ FrK g Fc Hc acc accV ∧
      dcompLoop (dcompFn keep tg one own mk mv) (items.drop i) acc en = .ok rs e2 ∧ acc.length ≤ i ∧ i ≤ items.length ∧ m = items.length - i, ?_, ?_⟩
    · refine ⟨items.length, F1, wipeE e1 own, [], [], .new Rw (New.upd hD), wiped_wipe e1 own, wk.stab (fun _ => False) F1 H1 F1 _ (New.upd hD).ext (fun _ z => z.elim) hS, upd_same, fun z => R1.trk D z hD, frK_nil, h2, Nat.zero_le _, Nat.zero_le _, by simp⟩
    · rintro i m Hc ⟨Fc, en, acc, accV, sc, hw, hSc, hDc, nfD, fa, hl, hai, hil, rfl⟩
      have nD : ¬ OwnAt en (wipe σ own) D := fun z => Rw.ownTrk (sc.sub D z) hD
      by_cases hlt : i < items.length
      · refine .inr ⟨wk.go Fc Hc i items[i] hSc (List.getElem?_eq_getElem hlt), fun H' => ∃ m', m' < items.length - i ∧ ∃ (Fc : Addr → Prop) (en : Ev) (acc : List (Key × Ev.D)) (accV : List (Key × V)), Step g (wipe σ own) F1 H1 (wipeE e1 own) Fc H' en ∧ (∀ i, i ∈ own → getS en i = none) ∧ S Fc H' ∧ H' D = some (.dK accV) ∧ ¬ Fc D ∧ FrK g Fc H' acc accV ∧
          dcompLoop (dcompFn keep tg one own mk mv) (items.drop (i + 1)) acc en = .ok rs e2 ∧ acc.length ≤ i + 1 ∧ i + 1 ≤ items.length ∧ m' = items.length - (i + 1), fun H' h => h, fun x H' hy => ?_⟩
        obtain ⟨nw, fx⟩ := wk.yld Fc Hc i items[i] x H' hSc (List.getElem?_eq_getElem hlt) hy
        rw [List.drop_eq_getElem_cons hlt, dcompLoop] at hl
        obtain ⟨kd, en1, k1, hl1⟩ := bind_ok hl
        clear hl
        unfold dcompFn at k1
        cases k3 : target keep tg one items[i] en with
        | none => rw [k3] at k1; cases k1
        | some env2 =>
          rw [k3] at k1
          simp only at k1
          obtain ⟨rk, en3, k4, k5⟩ := bind_ok k1
          obtain ⟨rv, en4, k6, k7⟩ := bind_ok k5
          clear k1 k5
          refine tg_ok k3 (sc.rel.new nw) fx fun σ2 R2 T => ?_
          have hσ : wipe σ2 own = wipe σ own := by
            rw [wipe_congr (σ := wipe σ own) T.len fun j hj => (T.out j fun z => hj (htg j z)).1]
            exact wipe_congr (wipe_length _ _) fun j hj => wipe_out hj
          refine ⟨hσ.trans (wipe_congr rfl fun _ _ => rfl), ?_⟩
          dsimp only [tYes]
          rw [if_pos rfl]
          have S1 : S Fc H' := wk.stab (fun _ => False) Fc Hc Fc H' nw.ext (fun _ z => z.elim) hSc
          have nD2 : ¬ OwnAt env2 σ2 D := fun z => by
            obtain ⟨j, d, q1, q2⟩ := z
            by_cases hj : j ∈ tg
            · obtain ⟨_, d', q3⟩ := T.mem j hj
              rw [q1] at q3; cases q3
            · obtain ⟨q3, q4⟩ := T.out j hj
              exact nD ⟨j, d, by rw [← q4]; exact q1, by rw [← q3]; exact q2⟩
          have hD1 : H' D = some (.dK accV) := nw _ _ hDc
          refine hk.frz R2 k4 fun F3 H3 y s3 f3 => ?_
          refine hv.frz s3.rel k6 fun F4 H4 z s4 f4 => ?_
          have s34 := s3.trans s4
          have S4 := wk.stab _ _ _ _ _ s34.ext R2.wk S1
          obtain ⟨hD4, nf4⟩ := s34.stays R2 hD1 nfD nD2
          have fa4 : FrK g F4 H4 acc accV := s34.frK R2 (fa.new nw)
          cases k8 : keyD rk.2 with
          | none => rw [k8] at k7; cases k7
          | some key =>
            rw [k8] at k7
            simp only at k7
            cases k7
            have ek := keyD_kV f3.bor k8
            subst ek
            have tn := Step.turn sc.rel hw nw T htg s34 hσ
            have sn := sc.trans tn
            have ho : (∃ xs, H4 D = some (.lst xs)) ∨ ∃ ws, H4 D = some (.dK ws) := .inr ⟨_, hD4⟩
            have xw : Ext (fun b => b = D) F4 H4 F4 (upd H4 D (.dK (putK accV key z))) := ⟨fun b u e n => .inl (by rw [upd_ne n]; exact e), fun b e => by
              by_cases z : b = D
              · subst z; rw [upd_same] at e; cases e
              · rw [upd_ne z] at e; exact e, fun _ e => e, fun _ e => .inl e⟩
            have hwk : Wk (fun b => b = D) F4 H4 := fun b e => by subst e; exact ⟨nf4, ho⟩
            have hpl := putD_length acc key rv.2
            refine ⟨accV, key, rfl, hD4, by rw [← fa4.length]; have := hc.1; omega, items.length - (i + 1), by omega, F4, _, putD acc key rv.2, putK accV key z, sn.put Rw hD nf4 ho, wiped_wipe _ own, wk.stab _ _ _ _ _ xw hwk S4, upd_same, nf4, ?_, hl1, by omega, hlt, rfl⟩
            exact (frK_put f4 fa4).ext xw hwk
      · have ei : i = items.length := by omega
        subst ei
        rw [List.drop_length, dcompLoop] at hl
        have er1 : acc = rs ∧ en = e2 := by cases hl; exact ⟨rfl, rfl⟩
        obtain ⟨rfl, rfl⟩ := er1
        refine .inl ⟨wk.stop Fc Hc hSc, q Fc Hc _ (s1.trans (sc.unblock R1)) (sl_ow.mpr ⟨D, accV, rfl, nfD, hDc, fa⟩) fun _ => ⟨D, rfl, s1.ext.stay D hD⟩⟩
  · cases e

/-! ### methods that write -/
def rExtA (K : PySem.W.Frag) : V → List V → Hp → VK → Prop := fun x vs H Q => ∃ l b xs zs, x = .ref l ∧ vs = [.ref b] ∧ H l = some (.lst xs) ∧ ((H b = some (.lst zs) ∧ b ≠ l) ∨ SqT K H b zs) ∧ xs.length + zs.length ≤ sizeLine ∧ Q .non (upd H l (.lst (xs ++ zs)))
def rMu (K : PySem.W.Frag) : Mu → V → List V → Hp → VK → Prop
  | .append => rAppend
  | .extend => rExtA K
  | .pop => rPop
  | .popAt => rPopAt
  | .clear => rClear
/-- an owned slot's list is changed -/
theorem Step.slotPut (R : Rel g F H env σ) (s : Step g σ F H env F' H' env') {i : Nat} {ds ds' : List D} {xs' : List V} {a : Addr} (hi : getS env' i = some (true, .lst ds)) (ha : σ[i]? = some (some (.ref a))) (hf : FrL g F' H' ds' xs') :
    Step g σ F H env F' (upd H' a (.lst xs')) (env'.set i (some (ow (.lst ds')))) := by
  have R' := s.rel
  obtain ⟨b, e, o, oa⟩ := R'.own hi
  rw [ha] at e; cases e
  obtain ⟨c, ec, nf, ho⟩ := o.at
  cases ec
  have hlt := getS_lt hi
  have x : Ext (fun b => b = a) F' H' F' (upd H' a (.lst xs')) := ⟨fun b u e n => .inl (by rw [upd_ne n]; exact e), fun b e => by
    by_cases z : b = a
    · subst z; rw [upd_same] at e; cases e
    · rw [upd_ne z] at e; exact e, fun _ e => e, fun _ e => .inl e⟩
  have hw : Wk (fun b => b = a) F' H' := fun b e => by subst e; exact ⟨nf, ho⟩
  refine ⟨⟨by simpa using R'.len, fun j r h => ?_, fun j k d d' c h1 h2 h3 h4 => ?_, fun b f z => R'.trk b f (x.stay b z)⟩, s.ext.trans x fun b e => ?_, fun b ⟨j, d, h1, h2⟩ => ?_, fun j r h => ?_, fun j d b h1 h2 => ?_⟩
  · rw [getS_set hlt] at h
    split at h
    · rename_i ej
      subst ej
      cases h
      exact ⟨_, ha, sl_ow.mpr ⟨a, xs', rfl, nf, upd_same, hf.ext x hw⟩⟩
    · rename_i ne
      obtain ⟨o', d⟩ := r
      cases o' with
      | false =>
        obtain ⟨v, e, f⟩ := R'.fz h
        exact ⟨v, e, sl_fz.mpr (f.ext x hw)⟩
      | true =>
        obtain ⟨c, e, f, oc⟩ := R'.own h
        have nc : c ≠ a := fun z => ne (R'.inj i j _ d a hi h ha (z ▸ e))
        exact ⟨_, e, sl_ow.mpr (f.ext x hw nc (R'.wk c oc).1)⟩
  · rw [getS_set hlt] at h1 h2
    have k1 : ∃ d1, getS env' j = some (true, d1) := by
      split at h1
      · rename_i e; subst e; exact ⟨_, hi⟩
      · exact ⟨_, h1⟩
    have k2 : ∃ d1, getS env' k = some (true, d1) := by
      split at h2
      · rename_i e; subst e; exact ⟨_, hi⟩
      · exact ⟨_, h2⟩
    obtain ⟨d1, k1⟩ := k1
    obtain ⟨d2, k2⟩ := k2
    exact R'.inj j k d1 d2 c k1 k2 h3 h4
  · subst e
    exact .inl (s.sub b oa)
  · rw [getS_set hlt] at h1
    split at h1
    · rename_i e
      subst e
      rw [ha] at h2; cases h2
      exact s.sub _ oa
    · exact s.sub b ⟨j, d, h1, h2⟩
  · by_cases ej : i = j
    · subst ej
      exact ⟨_, getS_set_self hlt⟩
    · rw [getS_set_ne ej]
      exact s.live j r h
  · by_cases ej : i = j
    · subst ej
      exact .inl ⟨_, getS_set_self hlt⟩
    · rw [getS_set_ne ej]
      exact s.ownk j d b h1 h2
theorem frL_dropLast {ds : List D} {xs : List V} (h : FrL g F H ds xs) : FrL g F H ds.dropLast xs.dropLast := by
  rw [List.dropLast_eq_take, List.dropLast_eq_take, ← h.length]
  exact h.take _
theorem frL_erase : ∀ {ds : List D} {xs : List V} (k : Nat), FrL g F H ds xs → FrL g F H (ds.eraseIdx k) (xs.eraseIdx k)
  | [], xs, k, h => by rw [FrL] at h; subst h; simp; exact FrL.nil
  | d :: ds, xs, k, h => by
    rw [FrL] at h
    obtain ⟨x, r, rfl, h1, h2⟩ := h
    cases k with
    | zero => exact h2
    | succ k => exact FrL.cons h1 (frL_erase k h2)
theorem snd_mu {mu : Mu} {i : Nat} {t : TA} {ms : Ev → Out (List D)} {m : Ev → Out Rv} (h : SndF g t ms)
    (hm : ∀ env, m env = match getS env i with
      | some (true, .lst _) => (ms env).bind fun ds e1 => match getS e1 i with
        | some (true, .lst xs) => match muD mu xs ds with
          | some (d, ys) => .ok (fz d) (e1.set i (some (ow (.lst ys))))
          | none => .stuck
        | _ => .stuck
      | _ => .stuck) : SndE g (tBM g.K "list" (rMu g.K mu) (tVar i) t) m := by
  intro F H env σ Q r env' R e q
  rw [hm] at e
  cases h0 : getS env i with
  | none => rw [h0] at e; cases e
  | some r0 =>
    obtain ⟨b, d0⟩ := r0
    rw [h0] at e
    cases b <;> first | (cases e; done) | skip
    cases d0 <;> first | (cases e; done) | skip
    rename_i ds0
    simp only at e
    obtain ⟨ds, e1, h1, e⟩ := bind_ok e
    obtain ⟨a, ea, o, _⟩ := R.own h0
    obtain ⟨a', xs0, e', _, hx0, _⟩ := o
    cases e'
    refine ⟨.ref a, ea, .inl ⟨rfl, xs0, SqL.of hx0⟩, ?_⟩
    refine h F H env σ _ ds e1 R h1 fun F1 H1 vs s1 f1 => ?_
    cases h2 : getS e1 i with
    | none => rw [h2] at e; cases e
    | some r1 =>
      obtain ⟨b, d1⟩ := r1
      rw [h2] at e
      cases b <;> first | (cases e; done) | skip
      cases d1 <;> first | (cases e; done) | skip
      rename_i xsD
      simp only at e
      cases h3 : muD mu xsD ds with
      | none => rw [h3] at e; cases e
      | some p =>
        obtain ⟨dv, ys⟩ := p
        rw [h3] at e
        cases e
        obtain ⟨b, eb, o1, oa1⟩ := s1.rel.own h2
        rw [ea] at eb; cases eb
        obtain ⟨b, xs, eb, nf, hx, fx⟩ := o1
        cases eb
        have fin : ∀ (v : V) (ys' : List V), Fr g F1 H1 dv v → FrL g F1 H1 ys ys' → Q v (upd H1 a (.lst ys')) := fun v ys' f f' => by
          have st := Step.slotPut R s1 h2 ea f'
          refine q F1 _ v st (sl_fz.mpr ?_) fun z => by cases z
          refine f.ext (W := fun b => b = a) ⟨fun b u e n => .inl (by rw [upd_ne n]; exact e), fun b e => ?_, fun _ e => e, fun _ e => .inl e⟩ fun b e => by subst e; exact ⟨nf, .inl ⟨_, hx⟩⟩
          by_cases z : b = a
          · subst z; rw [upd_same] at e; cases e
          · rw [upd_ne z] at e; exact e
        unfold muD at h3
        split at h3
        · split at h3
          · rename_i hl
            cases h3
            rw [FrL] at f1
            obtain ⟨v, r, rfl, g1, g2⟩ := f1
            rw [FrL] at g2; subst g2
            exact ⟨a, xs, v, rfl, rfl, hx, by rw [← fx.length]; exact hl, fin _ _ fr_non (fx.app (.cons g1 .nil))⟩
          · cases h3
        · split at h3
          · rename_i hl
            cases h3
            rw [FrL] at f1
            obtain ⟨v, r, rfl, g1, g2⟩ := f1
            rw [FrL] at g2; subst g2
            rw [Fr] at g1
            obtain ⟨c, zs, rfl, fc, hc, fzs⟩ := g1
            exact ⟨a, c, xs, zs, rfl, rfl, hx, .inl ⟨hc, fun z => nf (z ▸ fc)⟩, by rw [← fx.length, ← fzs.length]; exact hl, fin _ _ fr_non (fx.app fzs)⟩
          · cases h3
        · split at h3
          · rename_i hl
            cases h3
            rw [FrL] at f1
            obtain ⟨v, r, rfl, g1, g2⟩ := f1
            rw [FrL] at g2; subst g2
            rw [Fr] at g1
            obtain ⟨c, zs, rfl, hc, fzs⟩ := g1
            exact ⟨a, c, xs, zs, rfl, rfl, hx, .inr hc, by rw [← fx.length, ← fzs.length]; exact hl, fin _ _ fr_non (fx.app fzs)⟩
          · cases h3
        · rw [FrL] at f1; subst f1
          split at h3
          · rename_i y hy
            cases h3
            obtain ⟨v, e1, f⟩ := fx.get hy
            exact ⟨a, xs, v, rfl, rfl, hx, by rw [← fx.length]; exact e1, fin _ _ f (frL_dropLast fx)⟩
          · cases h3
        · rename_i k
          rw [FrL] at f1
          obtain ⟨v, r, rfl, g1, g2⟩ := f1
          rw [FrL] at g2; subst g2
          rw [Fr] at g1; subst g1
          split at h3
          · rename_i hsz
            split at h3
            · rename_i k' hk
              split at h3
              · rename_i y hy
                cases h3
                obtain ⟨v, e1, f⟩ := fx.get hy
                obtain ⟨q1, q2, q3, q4⟩ := ixN_seq hk
                have l63 : (sizeLine : Int) < 2 ^ 63 := by rw [sizeLine_eq]; decide
                have hsz' : (xsD.length : Int) ≤ sizeLine := by exact_mod_cast hsz
                exact ⟨a, xs, _, k', v, rfl, rfl, hx, by omega, by omega, by rw [← fx.length]; exact q1, e1, fin _ _ f (frL_erase k' fx)⟩
              · cases h3
            · cases h3
          · cases h3
        · rw [FrL] at f1; subst f1
          cases h3
          exact ⟨a, xs, rfl, rfl, hx, fin _ _ fr_non FrL.nil⟩
        · cases h3
end
end Ev
/-! Snd10: statements. -/
namespace Ev
open PySem L2 RZ
structure StepS (g : Gx) (keep : Nat) (σ : L2.St) (F : Addr → Prop) (H : Hp) (env : Ev) (σ' : L2.St) (F' : Addr → Prop) (H' : Hp) (env' : Ev) : Prop where
  rel : Rel g F' H' env' σ'
  ext : Ext (OwnAt env σ) F H F' H'
  sub : ∀ a, OwnAt env' σ' a → OwnAt env σ a ∨ H a = none
  kept : ∀ i, i < keep → σ'[i]? = σ[i]?
  live : ∀ i r, i < keep → getS env i = Option.some r → ∃ r', getS env' i = Option.some r'
  ownk : ∀ i d a, i < keep → getS env i = Option.some (true, d) → σ[i]? = Option.some (Option.some (.ref a)) → (∃ d', getS env' i = Option.some (true, d')) ∨ F' a
section
variable {g : Gx} {keep : Nat} {F F' F0 F1 F2 : Addr → Prop} {H H' H0 H1 H2 : Hp} {env env' env0 env1 env2 : Ev} {σ σ' σ1 σ2 : L2.St}
theorem StepS.refl (R : Rel g F H env σ) : StepS g keep σ F H env σ F H env := ⟨R, Ext.refl, fun _ h => .inl h, fun _ _ => rfl, fun _ r _ h => ⟨r, h⟩, fun _ d _ _ h _ => .inl ⟨d, h⟩⟩
theorem StepS.trans (a : StepS g keep σ F H env σ1 F1 H1 env1) (b : StepS g keep σ1 F1 H1 env1 σ2 F2 H2 env2) : StepS g keep σ F H env σ2 F2 H2 env2 :=
  ⟨b.rel, a.ext.trans b.ext a.sub, fun x h => (b.sub x h).elim (a.sub x) fun z => .inr (a.ext.stay x z), fun i hi => (b.kept i hi).trans (a.kept i hi), fun i r hi h => by
    obtain ⟨r1, h1⟩ := a.live i r hi h
    exact b.live i r1 hi h1, fun i d x hi h1 h2 => by
    rcases a.ownk i d x hi h1 h2 with ⟨d1, q⟩ | q
    · exact b.ownk i d1 x hi q (by rw [a.kept i hi]; exact h2)
    · exact .inr (b.ext.mono x q)⟩
theorem Step.toS (s : Step g σ F H env F' H' env') : StepS g keep σ F H env σ F' H' env' :=
  ⟨s.rel, s.ext, fun a h => .inl (s.sub a h), fun _ _ => rfl, fun i r _ h => s.live i r h, fun i d a _ h1 h2 => s.ownk i d a h1 h2⟩
/-- a store into a slot behind the parameters -/
theorem StepS.store (R : Rel g F H env σ) (s : Step g σ F H env F' H' env') {i : Nat} {r : Rv} {x : V} (hk : keep ≤ i) (hi : i < env'.length) (sl : Sl g F' H' r x) (fr : r.1 = true → Fresh H x) :
    StepS g keep σ F H env (σ.set i (some x)) F' H' (env'.set i (some r)) := by
  have na : r.1 = true → ∀ a, x = .ref a → ¬ OwnAt env' σ a := fun z a e oa => by
    obtain ⟨b, eb, nb⟩ := fr z
    rw [e] at eb; cases eb
    exact R.ownTrk (s.sub a oa) nb
  have hσ : i < σ.length := by rw [← s.rel.len]; exact hi
  refine ⟨s.rel.assign hi sl na, s.ext, fun a ⟨j, d, h1, h2⟩ => ?_, fun j hj => by rw [List.getElem?_set_ne (by omega)], fun j r' hj h => ?_, fun j d a hj h1 h2 => ?_⟩
  · rw [getS_set hi] at h1
    rw [set_get hσ] at h2
    split at h1
    · rename_i e
      rw [if_pos e] at h2
      cases h1; cases h2
      obtain ⟨b, eb, nb⟩ := fr rfl
      cases eb
      exact .inr nb
    · rename_i e
      rw [if_neg e] at h2
      exact .inl (s.sub a ⟨j, d, h1, h2⟩)
  · rw [getS_set_ne (by omega)]
    exact s.live j r' h
  · rw [getS_set_ne (by omega)]
    exact s.ownk j d a h1 h2
theorem StepS.tg {tg : List Nat} (R : Rel g F H env σ) (s : Step g σ F H env F' H' env') (R2 : Rel g F' H' env2 σ2) (T : TgF keep tg env' env2 σ σ2) : StepS g keep σ F H env σ2 F' H' env2 := by
  refine ⟨R2, s.ext, fun a ⟨j, d, h1, h2⟩ => ?_, fun j hj => ?_, fun j r hj h => ?_, fun j d a hj h1 h2 => ?_⟩
  · by_cases hj : j ∈ tg
    · obtain ⟨_, d', e⟩ := T.mem j hj
      rw [h1] at e; cases e
    · obtain ⟨e1, e2⟩ := T.out j hj
      exact .inl (s.sub a ⟨j, d, by rw [← e2]; exact h1, by rw [← e1]; exact h2⟩)
  · by_cases hm : j ∈ tg
    · have := (T.mem j hm).1; omega
    · exact (T.out j hm).1
  · by_cases hm : j ∈ tg
    · have := (T.mem j hm).1; omega
    · rw [(T.out j hm).2]; exact s.live j r h
  · by_cases hm : j ∈ tg
    · have := (T.mem j hm).1; omega
    · rw [(T.out j hm).2]; exact s.ownk j d a h1 h2
def Post (g : Gx) (keep : Nat) (σ : L2.St) (F : Addr → Prop) (H : Hp) (env : Ev) (fl : Flow') (env' : Ev) (Dn : Ends) : Prop := ∀ F' H' σ', StepS g keep σ F H env σ' F' H' env' →
  match fl with
  | .nx => Dn.nx σ' H'
  | .brk => Dn.bk σ' H'
  | .cont => Dn.ct σ' H'
  | .ret r => ∀ v, Sl g F' H' r v → (r.1 = true → Fresh H v ∨ ∃ (i : Nat) (a : Addr), keep ≤ i ∧ v = .ref a ∧ getS env' i = some (true, r.2) ∧ σ'[i]? = some (some (.ref a))) → Dn.rt v H'
def SndS (g : Gx) (keep : Nat) (t : TS) (m : Ev → Out Flow') : Prop := ∀ (F : Addr → Prop) (H : Hp) (env : Ev) (σ : L2.St) (Dn : Ends) (fl : Flow') (env' : Ev), Rel g F H env σ → m env = .ok fl env' → Post g keep σ F H env fl env' Dn → t Dn σ H
/-- behind a step the post is asked at the later state -/
theorem Post.later {fl : Flow'} {Dn Dn' : Ends} (p : Post g keep σ F H env fl env' Dn) (s : StepS g keep σ F H env σ1 F1 H1 env1) (hn : fl = .nx → Dn'.nx = Dn.nx) (hb : fl = .brk → Dn'.bk = Dn.bk) (hc : fl = .cont → Dn'.ct = Dn.ct) (hr : Dn'.rt = Dn.rt) : Post g keep σ1 F1 H1 env1 fl env' Dn' := by
  intro F' H' σ' s'
  have q := p F' H' σ' (s.trans s')
  cases fl with
  | nx => rw [hn rfl]; exact q
  | brk => rw [hb rfl]; exact q
  | cont => rw [hc rfl]; exact q
  | ret r =>
    intro v sl fr
    rw [hr]
    exact q v sl fun z => (fr z).imp (fun y => y.back s.ext.stay) id
theorem sndS_asg {te : TE} {me : Ev → Out Rv} {i : Nat} {m : Ev → Out Flow'} (h : SndE g te me) (hm : ∀ env, m env = (me env).bind fun r e1 => (lift (putE keep i r e1) e1).bind fun e2 _ => .ok .nx e2) : SndS g keep (tAsg te (gName i)) m := by
  intro F H env σ Dn fl env' R e p
  rw [hm] at e
  obtain ⟨r, e1, h1, e⟩ := bind_ok e
  obtain ⟨e2, e3, h2, e⟩ := bind_ok e
  cases e
  obtain ⟨h3, rfl⟩ := lift_ok h2
  obtain ⟨hk, hi, rfl⟩ := putE_ok h3
  exact h F H env σ _ r e3 R h1 fun F1 H1 v s1 sl fr => p F1 H1 _ (StepS.store R s1 hk hi sl fr)
theorem sndS_unp {te : TE} {me : Ev → Out Rv} {is : List Nat} {m : Ev → Out Flow'} (h : SndE g te me) (hm : ∀ env, m env = (me env).bind fun r e1 => (lift (target keep is false r.2 e1) e1).bind fun e2 _ => .ok .nx e2) : SndS g keep (tAsg te (denTg g.K is false)) m := by
  intro F H env σ Dn fl env' R e p
  rw [hm] at e
  obtain ⟨r, e1, h1, e⟩ := bind_ok e
  obtain ⟨e2, e3, h2, e⟩ := bind_ok e
  cases e
  obtain ⟨h3, rfl⟩ := lift_ok h2
  refine h.frz R h1 fun F1 H1 v s1 f1 => ?_
  exact tg_ok h3 s1.rel f1 fun σ2 R2 T => p F1 H1 σ2 (StepS.tg R s1 R2 T)
/-- values of several expressions, what they own kept -/
def SlsAt (g : Gx) (F : Addr → Prop) (H : Hp) (env : Ev) (σ : L2.St) (rs : List Rv) (vs : List V) : Prop := rs.length = vs.length ∧ ∀ (i : Nat) r v, rs[i]? = some r → vs[i]? = some v → Sl g F H r v ∧ (r.1 = true → ∀ a, v = .ref a → ¬ OwnAt env σ a)
def OwnVals (rs : List Rv) (vs : List V) : List V := (rs.zip vs).filterMap fun p => if p.1.1 then some p.2 else none
def SndR (g : Gx) (t : TA) (m : Ev → Out (List Rv)) : Prop := ∀ (F : Addr → Prop) (H : Hp) (env : Ev) (σ : L2.St) (Q : List V → Hp → Prop) (rs : List Rv) (env' : Ev), Rel g F H env σ → m env = .ok rs env' →
  (∀ F' H' vs, Step g σ F H env F' H' env' → OpsAll g F' H' env' σ (rs.map Opd.v) vs → (tempsOf (rs.map Opd.v) vs).Nodup → (∀ v ∈ tempsOf (rs.map Opd.v) vs, Fresh H v) → Q vs H') → t σ H Q
theorem sndR_nil {m : Ev → Out (List Rv)} (hm : ∀ env, m env = .ok [] env) : SndR g tNil m := by
  intro F H env σ Q ds env' R e q
  rw [hm] at e
  cases e
  exact q F H [] (.refl R) rfl .nil fun v z => by cases z
theorem sndR_cons {ta : TE} {tr : TA} {ma : Ev → Out Rv} {mr m : Ev → Out (List Rv)} (ha : SndE g ta ma) (hr : SndR g tr mr)
    (hm : ∀ env, m env = (ma env).bind fun x e1 => (mr e1).bind fun xs e2 => .ok (x :: xs) e2) : SndR g (tCons ta tr) m := by
  intro F H env σ Q ds env' R e q
  rw [hm] at e
  obtain ⟨x, e1, h1, e⟩ := bind_ok e
  obtain ⟨xs, e2, h2, e⟩ := bind_ok e
  cases e
  refine ha F H env σ _ x e1 R h1 fun F1 H1 v s1 sl fr => ?_
  have na : x.1 = true → ∀ a, v = .ref a → ¬ OwnAt e1 σ a := fun z a ea oa => by
    obtain ⟨b, eb, nb⟩ := fr z
    rw [ea] at eb; cases eb
    exact R.ownTrk (s1.sub a oa) nb
  have o1 : OpAt g F1 H1 e1 σ (.v x) v := ⟨sl, na⟩
  refine hr F1 H1 e1 σ _ xs env' s1.rel h2 fun F2 H2 vs s2 o2 nd fr2 => ?_
  have fr3 : ∀ w ∈ tempsOf (xs.map Opd.v) vs, Fresh H w := fun w hw => (fr2 w hw).back s1.ext.stay
  refine q F2 H2 (v :: vs) (s1.trans s2) ⟨v, vs, rfl, o1.step s1.rel s2, o2⟩ ?_ ?_
  · obtain ⟨b, d⟩ := x
    cases b with
    | false => exact nd
    | true =>
      show (v :: tempsOf (xs.map Opd.v) vs).Nodup
      refine List.nodup_cons.mpr ⟨fun hv => ?_, nd⟩
      obtain ⟨a, ea, na⟩ := fr2 v hv
      obtain ⟨b, eb, _, ho⟩ := (sl_ow.mp sl).at
      rw [ea] at eb; cases eb
      rcases ho with ⟨ys, z⟩ | ⟨ws, z⟩ <;> rw [na] at z <;> cases z
  · obtain ⟨b, d⟩ := x
    cases b with
    | false => exact fr3
    | true =>
      intro w hw
      have hw : w ∈ v :: tempsOf (xs.map Opd.v) vs := hw
      rcases List.mem_cons.mp hw with rfl | hw
      · exact fr rfl
      · exact fr3 w hw
def tPars (is : List Nat) (ta : TA) : TS := fun Dn σ H => ta σ H fun vs H1 => vs.length = is.length ∧ vs.length ≤ sizeLine ∧ gNames is vs σ H1 Dn.nx ∧ ∀ p, H1 p = none → gNames is vs σ (upd H1 p (.tup vs)) Dn.nx
/-- several slots get their values -/
theorem puts_ok : ∀ {is : List Nat} {rs : List Rv} {vs : List V} {env e2 : Ev} {σ : L2.St} {Q : L2.St → Hp → Prop}, putRs keep is rs env = some e2 → Rel g F H env σ → OpsAll g F H env σ (rs.map Opd.v) vs → (tempsOf (rs.map Opd.v) vs).Nodup →
    (∀ σ2, Rel g F H e2 σ2 → (∀ i, i < keep → σ2[i]? = σ[i]? ∧ getS e2 i = getS env i) → (∀ a, OwnAt e2 σ2 a → OwnAt env σ a ∨ V.ref a ∈ tempsOf (rs.map Opd.v) vs) → Q σ2 H) → vs.length = is.length ∧ gNames is vs σ H Q
  | [], [], vs, env, e2, σ, Q, h, R, o, nd, q => by
    have o : vs = [] := o
    subst o
    rw [putRs] at h
    cases h
    exact ⟨rfl, rfl, q σ R (fun _ _ => ⟨rfl, rfl⟩) fun a h => .inl h⟩
  | i :: is, r :: rs, vs, env, e2, σ, Q, h, R, o, nd, q => by
    obtain ⟨v, vr, rfl, o1, o2⟩ := o
    rw [putRs] at h
    cases hp : putE keep i r env with
    | none => rw [hp] at h; cases h
    | some e1 =>
      rw [hp] at h
      obtain ⟨hk, hi, rfl⟩ := putE_ok hp
      have hσ : i < σ.length := by rw [← R.len]; exact hi
      have R1 := R.assign hi o1.1 o1.2
      have own1 : ∀ a, OwnAt (env.set i (some r)) (σ.set i (some v)) a → OwnAt env σ a ∨ (r.1 = true ∧ v = .ref a) := fun a ⟨j, d, h1, h2⟩ => by
        rw [getS_set hi] at h1
        rw [set_get hσ] at h2
        split at h1
        · rename_i e
          rw [if_pos e] at h2
          cases h1; cases h2
          exact .inr ⟨rfl, rfl⟩
        · rename_i e
          rw [if_neg e] at h2
          exact .inl ⟨j, d, h1, h2⟩
      have nd2 : (tempsOf (rs.map Opd.v) vr).Nodup ∧ (r.1 = true → v ∉ tempsOf (rs.map Opd.v) vr) ∧ (∀ w, w ∈ tempsOf (rs.map Opd.v) vr → w ∈ tempsOf ((r :: rs).map Opd.v) (v :: vr)) ∧ (r.1 = true → v ∈ tempsOf ((r :: rs).map Opd.v) (v :: vr)) := by
        obtain ⟨b, d⟩ := r
        cases b with
        | false => exact ⟨nd, (fun z => by cases z), fun w hw => hw, (fun z => by cases z)⟩
        | true =>
          have := List.nodup_cons.mp nd
          exact ⟨this.2, fun _ => this.1, fun w hw => List.mem_cons_of_mem _ hw, fun _ => List.mem_cons_self⟩
      have o2' : OpsAll g F H (env.set i (some r)) (σ.set i (some v)) (rs.map Opd.v) vr := by
        have gen : ∀ {rs : List Rv} {vr : List V}, OpsAll g F H env σ (rs.map Opd.v) vr → (r.1 = true → v ∉ tempsOf (rs.map Opd.v) vr) → OpsAll g F H (env.set i (some r)) (σ.set i (some v)) (rs.map Opd.v) vr := by
          intro rs
          induction rs with
          | nil => intro vr h _; exact h
          | cons r2 rs ih =>
            intro vr h hn
            obtain ⟨w, wr, rfl, p1, p2⟩ := h
            refine ⟨w, wr, rfl, ⟨p1.1, fun z a ea oa => ?_⟩, ih p2 fun z hz => hn z ?_⟩
            · rcases own1 a oa with y | ⟨y, ey⟩
              · exact p1.2 z a ea y
              · obtain ⟨b2, d2⟩ := r2
                have z : b2 = true := z
                subst z
                exact hn y (by rw [ey, ← ea]; exact List.mem_cons_self)
            · obtain ⟨b2, d2⟩ := r2
              cases b2 with
              | false => exact hz
              | true => exact List.mem_cons_of_mem _ hz
        exact gen o2 nd2.2.1
      have := puts_ok (Q := Q) h R1 o2' nd2.1 fun σ2 R2 k2 w2 => q σ2 R2 (fun j hj => ?_) fun a ha => ?_
      · exact ⟨by simp [this.1], v, vr, rfl, this.2⟩
      · obtain ⟨q1, q2⟩ := k2 j hj
        rw [q1, q2, List.getElem?_set_ne (by omega), getS_set_ne (by omega)]
        exact ⟨rfl, rfl⟩
      · rcases w2 a ha with y | y
        · rcases own1 a y with y | ⟨y, ey⟩
          · exact .inl y
          · exact .inr (by rw [← ey]; exact nd2.2.2.2 y)
        · exact .inr (nd2.2.2.1 _ y)
  | [], _ :: _, vs, env, e2, σ, Q, h, R, o, nd, q => by rw [putRs] at h; cases h; all_goals (intros; simp_all)
  | _ :: _, [], vs, env, e2, σ, Q, h, R, o, nd, q => by rw [putRs] at h; cases h; all_goals (intros; simp_all)
theorem opsAll_len : ∀ {os : List Opd} {vs : List V}, OpsAll g F H env σ os vs → vs.length = os.length
  | [], vs, h => by
    have h : vs = [] := h
    subst h; rfl
  | o :: os, vs, h => by
    obtain ⟨v, r, rfl, _, h2⟩ := h
    simp [opsAll_len h2]
theorem sndS_par {ta : TA} {mr : Ev → Out (List Rv)} {is : List Nat} {m : Ev → Out Flow'} (h : SndR g ta mr) (hz : is.length ≤ sizeLine) (hm : ∀ env, m env = (mr env).bind fun rs e1 => (lift (putRs keep is rs e1) e1).bind fun e2 _ => .ok .nx e2) : SndS g keep (tPars is ta) m := by
  intro F H env σ Dn fl env' R e p
  rw [hm] at e
  obtain ⟨rs, e1, h1, e⟩ := bind_ok e
  obtain ⟨e2, e3, h2, e⟩ := bind_ok e
  cases e
  obtain ⟨h3, rfl⟩ := lift_ok h2
  refine h F H env σ _ rs e3 R h1 fun F1 H1 vs s1 o1 nd fr => ?_
  have key : ∀ H2, New H1 H2 → vs.length = is.length ∧ gNames is vs σ H2 Dn.nx := fun H2 n => by
    have s2 := s1.trans (.new s1.rel n)
    refine puts_ok h3 s2.rel (o1.step s1.rel (.new s1.rel n)) nd fun σ2 R2 k2 w2 => p F1 H2 σ2 ⟨R2, s2.ext, fun a ha => ?_, fun i hi => (k2 i hi).1, fun i r hi hr => ?_, fun i d a hi h1 h2 => ?_⟩
    · rcases w2 a ha with y | y
      · exact .inl (s2.sub a y)
      · obtain ⟨b, eb, nb⟩ := fr _ y
        cases eb
        exact .inr nb
    · rw [(k2 i hi).2]
      exact s2.live i r hr
    · rw [(k2 i hi).2]
      exact s2.ownk i d a h1 h2
  exact ⟨(key H1 .refl).1, by rw [(key H1 .refl).1]; exact hz, (key H1 .refl).2, fun q hq => (key _ (New.upd hq)).2⟩
theorem Step.slotPutD (R : Rel g F H env σ) (s : Step g σ F H env F' H' env') {i : Nat} {ds ds' : List (Key × D)} {xs' : List (Key × V)} {a : Addr} (hi : getS env' i = some (true, .dct ds)) (ha : σ[i]? = some (some (.ref a))) (hf : FrK g F' H' ds' xs') :
    Step g σ F H env F' (upd H' a (.dK xs')) (env'.set i (some (ow (.dct ds')))) := by
  have R' := s.rel
  obtain ⟨b, e, o, oa⟩ := R'.own hi
  rw [ha] at e; cases e
  obtain ⟨c, ec, nf, ho⟩ := o.at
  cases ec
  have hlt := getS_lt hi
  have x : Ext (fun b => b = a) F' H' F' (upd H' a (.dK xs')) := ⟨fun b u e n => .inl (by rw [upd_ne n]; exact e), fun b e => by
    by_cases z : b = a
    · subst z; rw [upd_same] at e; cases e
    · rw [upd_ne z] at e; exact e, fun _ e => e, fun _ e => .inl e⟩
  have hw : Wk (fun b => b = a) F' H' := fun b e => by subst e; exact ⟨nf, ho⟩
  refine ⟨⟨by simpa using R'.len, fun j r h => ?_, fun j k d d' c h1 h2 h3 h4 => ?_, fun b f z => R'.trk b f (x.stay b z)⟩, s.ext.trans x fun b e => ?_, fun b ⟨j, d, h1, h2⟩ => ?_, fun j r h => ?_, fun j d b h1 h2 => ?_⟩
  · rw [getS_set hlt] at h
    split at h
    · rename_i ej
      subst ej
      cases h
      exact ⟨_, ha, sl_ow.mpr ⟨a, xs', rfl, nf, upd_same, hf.ext x hw⟩⟩
    · rename_i ne
      obtain ⟨o', d⟩ := r
      cases o' with
      | false =>
        obtain ⟨v, e, f⟩ := R'.fz h
        exact ⟨v, e, sl_fz.mpr (f.ext x hw)⟩
      | true =>
        obtain ⟨c, e, f, oc⟩ := R'.own h
        have nc : c ≠ a := fun z => ne (R'.inj i j _ d a hi h ha (z ▸ e))
        exact ⟨_, e, sl_ow.mpr (f.ext x hw nc (R'.wk c oc).1)⟩
  · rw [getS_set hlt] at h1 h2
    have k1 : ∃ d1, getS env' j = some (true, d1) := by
      split at h1
      · rename_i e; subst e; exact ⟨_, hi⟩
      · exact ⟨_, h1⟩
    have k2 : ∃ d1, getS env' k = some (true, d1) := by
      split at h2
      · rename_i e; subst e; exact ⟨_, hi⟩
      · exact ⟨_, h2⟩
    obtain ⟨d1, k1⟩ := k1
    obtain ⟨d2, k2⟩ := k2
    exact R'.inj j k d1 d2 c k1 k2 h3 h4
  · subst e
    exact .inl (s.sub b oa)
  · rw [getS_set hlt] at h1
    split at h1
    · rename_i e
      subst e
      rw [ha] at h2; cases h2
      exact s.sub _ oa
    · exact s.sub b ⟨j, d, h1, h2⟩
  · by_cases ej : i = j
    · subst ej
      exact ⟨_, getS_set_self hlt⟩
    · rw [getS_set_ne ej]
      exact s.live j r h
  · by_cases ej : i = j
    · subst ej
      exact .inl ⟨_, getS_set_self hlt⟩
    · rw [getS_set_ne ej]
      exact s.ownk j d b h1 h2
/-- d.update(e) -/
def tDUpd (td te : TE) : TE := fun σ H Q => td σ H fun x H1 => ∃ a, x = .ref a ∧ IsD H1 a ∧ te σ H1 fun y H2 => ∃ (b : Addr) (kvs more : List (Key × V)), y = .ref b ∧ a ≠ b ∧ H2 a = some (.dK kvs) ∧ Rd H2 b (.dK more) ∧ kvs.length + more.length ≤ sizeLine ∧
  Q .non (upd H2 a (.dK (mergeK kvs more)))
theorem snd_dupd {i : Nat} {te : TE} {me m : Ev → Out Rv} (h : SndE g te me) (hm : ∀ env, m env = match getS env i with
    | some (true, .dct _) => (me env).bind fun r e1 => match getS e1 i, r.2 with
      | some (true, .dct kvs), .dct more => if kvs.length + more.length ≤ sizeLine then .ok (fz .non) (e1.set i (some (ow (.dct (more.foldl (fun acc kv => putD acc kv.1 kv.2) kvs))))) else .stuck
      | _, _ => .stuck
    | _ => .stuck) : SndE g (tDUpd (tVar i) te) m := by
  intro F H env σ Q r env' R e q
  rw [hm] at e
  cases h0 : getS env i with
  | none => rw [h0] at e; cases e
  | some r0 =>
    obtain ⟨b0, d0⟩ := r0
    rw [h0] at e
    cases b0 <;> first | (cases e; done) | skip
    cases d0 <;> first | (cases e; done) | skip
    simp only at e
    obtain ⟨a, ea, o0, _⟩ := R.own h0
    obtain ⟨a', ws0, ea', _, hw0, _⟩ := o0
    cases ea'
    obtain ⟨y, e1, h1, e⟩ := bind_ok e
    refine ⟨.ref a, ea, a, rfl, .inl ⟨ws0, .inl hw0⟩, ?_⟩
    refine h.frz R h1 fun F1 H1 v s1 f1 => ?_
    obtain ⟨ob, dy⟩ := y
    cases h3 : getS e1 i with
    | none => rw [h3] at e; cases e
    | some r1 =>
      obtain ⟨b, d⟩ := r1
      rw [h3] at e
      cases b <;> first | (cases e; done) | skip
      cases d <;> first | (cases e; done) | skip
      cases dy <;> first | (cases e; done) | skip
      rename_i kvs more
      simp only at e
      split at e
      · rename_i hz
        cases e
        obtain ⟨a2, ea2, o, oa⟩ := s1.rel.own h3
        rw [ea] at ea2; cases ea2
        obtain ⟨a3, ws, eb, nf, hw, fw⟩ := o
        cases eb
        have f1 : Fr g F1 H1 (.dct more) v := f1
        rw [Fr] at f1
        obtain ⟨b, ms, rfl, fb, hb, fm⟩ := f1
        refine ⟨b, ws, ms, rfl, fun z => nf (z ▸ fb), hw, hb, by rw [← fw.length, ← fm.length]; exact hz, ?_⟩
        have st := Step.slotPutD R s1 h3 ea (frK_merge fw fm)
        exact q F1 _ .non st (sl_fz.mpr fr_non) fun z => by cases z
      · cases e
theorem sndS_setk {i : Nat} {k : Tm} {tk tv : TE} {mk mv : Ev → Out Rv} {m : Ev → Out Flow'} (hv : SndE g tv mv) (hk : SndO g tk (opd k mk))
    (hm : ∀ env, m env = (mv env).bind fun x e1 => match getS e1 i with
      | some (true, .dct _) => (opd k mk e1).bind fun y e2 => match getS e2 i, (rdO e2 y).bind keyD with
        | some (true, .dct kvs), some key => if kvs.length < sizeLine then .ok .nx (e2.set i (some (ow (.dct (putD kvs key x.2))))) else .stuck
        | _, _ => .stuck
      | _ => .stuck) : SndS g keep (sDPut (tVar i) tk tv) m := by
  intro F H env σ Dn fl env' R e p
  rw [hm] at e
  obtain ⟨x, e1, h1, e⟩ := bind_ok e
  refine hv.frz R h1 fun F1 H1 v s1 f1 => ?_
  cases h0 : getS e1 i with
  | none => rw [h0] at e; cases e
  | some r0 =>
    obtain ⟨b0, d0⟩ := r0
    rw [h0] at e
    cases b0 <;> first | (cases e; done) | skip
    cases d0 <;> first | (cases e; done) | skip
    simp only at e
    obtain ⟨a, ea, _, _⟩ := s1.rel.own h0
    obtain ⟨y, e2, h2, e⟩ := bind_ok e
    refine ⟨.ref a, ea, ?_⟩
    refine hk F1 H1 e1 σ _ y e2 s1.rel h2 fun F2 H2 vy s2 o2 _ => ?_
    have s := s1.trans s2
    cases h3 : getS e2 i with
    | none => rw [h3] at e; cases e
    | some r =>
      obtain ⟨b, d⟩ := r
      rw [h3] at e
      cases h4 : rdO e2 y with
      | none => rw [h4] at e; cases b <;> cases d <;> cases e
      | some u =>
        cases h5 : keyD u with
        | none => simp only [h4, Option.bind_some, h5] at e; cases b <;> cases d <;> cases e
        | some key =>
          simp only [h4, Option.bind_some, h5] at e
          cases b <;> first | (cases e; done) | skip
          cases d <;> first | (cases e; done) | skip
          rename_i kvs
          simp only at e
          split at e
          · rename_i hz
            cases e
            obtain ⟨a', ea', o, oa⟩ := s.rel.own h3
            rw [ea] at ea'; cases ea'
            obtain ⟨b, ws, eb, nf, hw, fw⟩ := o
            cases eb
            have ek := keyD_kV (o2.bor s2.rel h4) h5
            subst ek
            refine ⟨a, _, rfl, .inl ⟨ws, key, hw, rfl, by rw [← fw.length]; exact hz, rfl⟩, ?_⟩
            exact p F2 _ σ (Step.slotPutD R s h3 ea (frK_put (s2.fr s1.rel f1) fw)).toS
          · cases e
theorem sndS_aug {i : Nat} {te : TE} {me : Ev → Out Rv} {m : Ev → Out Flow'} (h : SndE g te me) (hm : ∀ env, m env = match getS env i with
    | some (false, .int n) => (me env).bind fun x e1 => match x.2 with
      | .int k => (lift (putE keep i (fz (.int (n + k))) e1) e1).bind fun e2 _ => .ok .nx e2
      | _ => .stuck
    | _ => .stuck) : SndS g keep (tAug i te (ipI fun i j => i + j)) m := by
  intro F H env σ Dn fl env' R e p
  rw [hm] at e
  cases h0 : getS env i with
  | none => rw [h0] at e; cases e
  | some r0 =>
    obtain ⟨b0, d0⟩ := r0
    rw [h0] at e
    cases b0 <;> first | (cases e; done) | skip
    cases d0 <;> first | (cases e; done) | skip
    rename_i n
    simp only at e
    obtain ⟨v, ev, fv⟩ := R.fz h0
    rw [Fr] at fv
    subst fv
    obtain ⟨x, e1, h1, e⟩ := bind_ok e
    refine ⟨_, ev, ?_⟩
    refine h F H env σ _ x e1 R h1 fun F1 H1 w s1 sl _ => ?_
    obtain ⟨o, d⟩ := x
    cases d <;> first | (cases e; done) | skip
    simp only at e
    obtain ⟨e2, e3, h2, e⟩ := bind_ok e
    cases e
    obtain ⟨h3, rfl⟩ := lift_ok h2
    obtain ⟨hk, hi, rfl⟩ := putE_ok h3
    have ew := bor_int sl.bor
    subst ew
    exact ⟨_, _, rfl, rfl, p F1 H1 _ (StepS.store R s1 hk hi sl_int fun z => by cases z)⟩
theorem sndS_ret {te : TE} {me : Ev → Out Rv} {m : Ev → Out Flow'} (h : SndE g te me) (hm : ∀ env, m env = (me env).bind fun r e1 => .ok (.ret r) e1) : SndS g keep (tRet te) m := by
  intro F H env σ Dn fl env' R e p
  rw [hm] at e
  obtain ⟨r, e1, h1, e⟩ := bind_ok e
  cases e
  exact h F H env σ _ r env' R h1 fun F1 H1 v s1 sl fr => p F1 H1 σ s1.toS v sl fun z => .inl (fr z)
theorem sndS_retv {i : Nat} {m : Ev → Out Flow'} (hm : ∀ env, m env = match getS env i with
    | some (true, d) => if keep ≤ i then .ok (.ret (ow d)) env else .ok (.ret (fz d)) (env.set i (some (fz d)))
    | some (false, d) => .ok (.ret (fz d)) env
    | none => .stuck) : SndS g keep (tRet (tVar i)) m := by
  intro F H env σ Dn fl env' R e p
  rw [hm] at e
  cases h0 : getS env i with
  | none => rw [h0] at e; cases e
  | some r0 =>
    obtain ⟨b, d⟩ := r0
    rw [h0] at e
    cases b with
    | false =>
      cases e
      obtain ⟨v, ev, fv⟩ := R.fz h0
      exact ⟨v, ev, p F H σ (.refl R) v (sl_fz.mpr fv) fun z => by cases z⟩
    | true =>
      simp only at e
      obtain ⟨a, ea, o, oa⟩ := R.own h0
      split at e
      · rename_i hk
        cases e
        exact ⟨_, ea, p F H σ (.refl R) _ (sl_ow.mpr o) fun _ => .inr ⟨i, a, hk, rfl, h0, ea⟩⟩
      · cases e
        obtain ⟨s, f⟩ := stepFreezeVar R h0 ea
        exact ⟨_, ea, p _ H σ s.toS _ (sl_fz.mpr f) fun z => by cases z⟩
theorem sndS_retn {m : Ev → Out Flow'} (hm : ∀ env, m env = .ok (.ret (fz .non)) env) : SndS g keep tRetN m := by
  intro F H env σ Dn fl env' R e p
  rw [hm] at e
  cases e
  exact p F H σ (.refl R) .non (sl_fz.mpr fr_non) fun z => by cases z
theorem sndS_expr {te : TE} {me : Ev → Out Rv} {m : Ev → Out Flow'} (h : SndE g te me) (hm : ∀ env, m env = (me env).bind fun _ e1 => .ok .nx e1) : SndS g keep (tDrop te) m := by
  intro F H env σ Dn fl env' R e p
  rw [hm] at e
  obtain ⟨r, e1, h1, e⟩ := bind_ok e
  cases e
  exact h F H env σ _ r env' R h1 fun F1 H1 v s1 sl fr => p F1 H1 σ s1.toS
theorem sndS_pass {m : Ev → Out Flow'} (hm : ∀ env, m env = .ok .nx env) : SndS g keep tNext m := by
  intro F H env σ Dn fl env' R e p
  rw [hm] at e
  cases e
  exact p F H σ (.refl R)
theorem sndS_brk {m : Ev → Out Flow'} (hm : ∀ env, m env = .ok .brk env) : SndS g keep tBreak m := by
  intro F H env σ Dn fl env' R e p
  rw [hm] at e
  cases e
  exact p F H σ (.refl R)
theorem sndS_cont {m : Ev → Out Flow'} (hm : ∀ env, m env = .ok .cont env) : SndS g keep tCont m := by
  intro F H env σ Dn fl env' R e p
  rw [hm] at e
  cases e
  exact p F H σ (.refl R)
theorem sndS_never {m : Ev → Out Flow'} (hm : ∀ env fl e', m env ≠ .ok fl e') : SndS g keep tNever m := by
  intro F H env σ Dn fl env' R e p
  exact absurd e (hm _ _ _)
theorem sndS_if {tc : TT} {ta tb : TS} {mc : Ev → Out Bool} {ma mb m : Ev → Out Flow'} (hc : SndC g tc mc) (ha : SndS g keep ta ma) (hb : SndS g keep tb mb) (hm : ∀ env, m env = (mc env).bind fun t e1 => if t then ma e1 else mb e1) : SndS g keep (tIfS tc ta tb) m := by
  intro F H env σ Dn fl env' R e p
  rw [hm] at e
  obtain ⟨t, e1, h1, e⟩ := bind_ok e
  refine hc F H env σ _ t e1 R h1 fun F1 H1 s1 => ?_
  cases t with
  | true =>
    rw [if_pos rfl] at e ⊢
    exact ha F1 H1 e1 σ Dn fl env' s1.rel e (p.later s1.toS (fun _ => rfl) (fun _ => rfl) (fun _ => rfl) rfl)
  | false =>
    rw [if_neg (by decide)] at e ⊢
    exact hb F1 H1 e1 σ Dn fl env' s1.rel e (p.later s1.toS (fun _ => rfl) (fun _ => rfl) (fun _ => rfl) rfl)
theorem sndS_seq {ta tb : TS} {ma mb m : Ev → Out Flow'} (ha : SndS g keep ta ma) (hb : SndS g keep tb mb) (hm : ∀ env, m env = match ma env with
    | .ok .nx e => mb e
    | .ok f e => .ok f e
    | .exc x e => .exc x e
    | .stuck => .stuck) : SndS g keep (tSeq ta tb) m := by
  intro F H env σ Dn fl env' R e p
  rw [hm] at e
  cases h1 : ma env with
  | exc x e1 => rw [h1] at e; cases e
  | stuck => rw [h1] at e; cases e
  | ok f1 e1 =>
    rw [h1] at e
    refine ha F H env σ _ f1 e1 R h1 ?_
    cases f1 with
    | nx =>
      simp only at e
      intro F1 H1 σ1 s1
      exact hb F1 H1 e1 σ1 Dn fl env' s1.rel e (p.later s1 (fun _ => rfl) (fun _ => rfl) (fun _ => rfl) rfl)
    | brk =>
      cases e
      exact p.later (.refl R) (fun z => by cases z) (fun _ => rfl) (fun z => by cases z) rfl
    | cont =>
      cases e
      exact p.later (.refl R) (fun z => by cases z) (fun z => by cases z) (fun _ => rfl) rfl
    | ret r =>
      cases e
      exact p.later (.refl R) (fun z => by cases z) (fun z => by cases z) (fun z => by cases z) rfl
theorem sndS_while {tc : TT} {tb : TS} {mc : Ev → Out Bool} {mb m : Ev → Out Flow'} {wf : Nat} (hc : SndC g tc mc) (hb : SndS g keep tb mb) (hm : ∀ env, m env = whileLoop mc mb wf env) : SndS g keep (tWhile tc tb) m := by
  intro F H env σ Dn fl env' R e p
  rw [hm] at e
  refine ⟨fun n σc Hc => ∃ (Fc : Addr → Prop) (ec : Ev), StepS g keep σ F H env σc Fc Hc ec ∧ whileLoop mc mb n ec = .ok fl env', ⟨wf, F, env, .refl R, e⟩, ?_⟩
  rintro n σc Hc ⟨Fc, ec, sc, hl⟩
  cases n with
  | zero => rw [whileLoop] at hl; cases hl
  | succ n =>
    rw [whileLoop] at hl
    obtain ⟨t, e1, h1, hl1⟩ := bind_ok hl
    refine hc Fc Hc ec σc _ t e1 sc.rel h1 fun F1 H1 s1 => ?_
    have sc1 := sc.trans s1.toS
    cases t with
    | false =>
      rw [if_neg (by decide)] at hl1 ⊢
      cases hl1
      exact p F1 H1 σc sc1
    | true =>
      rw [if_pos rfl] at hl1 ⊢
      refine ⟨fun σ' H' => ∃ m', m' < n + 1 ∧ ∃ (Fc : Addr → Prop) (ec : Ev), StepS g keep σ F H env σ' Fc H' ec ∧ whileLoop mc mb m' ec = .ok fl env', fun σ' H' h => h, ?_⟩
      cases h2 : mb e1 with
      | exc x e2 => rw [h2] at hl1; cases hl1
      | stuck => rw [h2] at hl1; cases hl1
      | ok f2 e2 =>
        rw [h2] at hl1
        refine hb F1 H1 e1 σc _ f2 e2 sc1.rel h2 ?_
        intro F2 H2 σ2 s2
        have sc2 := sc1.trans s2
        cases f2 with
        | nx => exact ⟨n, by omega, F2, e2, sc2, hl1⟩
        | cont => exact ⟨n, by omega, F2, e2, sc2, hl1⟩
        | brk =>
          cases hl1
          exact p F2 H2 σ2 sc2
        | ret r =>
          cases hl1
          intro v sl fr
          exact p F2 H2 σ2 sc2 v sl fun z => (fr z).imp (fun y => y.back sc1.ext.stay) id
def forFn (keep : Nat) (tg : List Nat) (one : Bool) (mb : Ev → Out Flow') (d : D) (en : Ev) : Out Flow' :=
  match target keep tg one d en with
  | none => .stuck
  | some en1 => mb en1
theorem sndS_for {wi : TI} {mi : Ev → Out (List D)} {tg : List Nat} {one : Bool} {tb : TS} {mb m : Ev → Out Flow'} (hi : SndI g wi mi) (hb : SndS g keep tb mb)
    (hm : ∀ env, m env = (mi env).bind fun items e1 => forLoop (forFn keep tg one mb) items e1) : SndS g keep (tFor wi (denTg g.K tg one) tb) m := by
  intro F H env σ Dn fl env' R e p
  rw [hm] at e
  obtain ⟨items, e1, h1, e⟩ := bind_ok e
  refine hi F H env σ _ items e1 R h1 fun F1 H1 J S s1 hS wk => ?_
  refine ⟨fun i m σc Hc => ∃ (Fc : Addr → Prop) (ec : Ev), StepS g keep σ F H env σc Fc Hc ec ∧ S Fc Hc ∧ forLoop (forFn keep tg one mb) (items.drop i) ec = .ok fl env' ∧ i ≤ items.length ∧ m = items.length - i, ⟨items.length, F1, e1, s1.toS, hS, e, Nat.zero_le _, by simp⟩, ?_⟩
  rintro i m σc Hc ⟨Fc, ec, sc, hSc, hl, hil, rfl⟩
  by_cases hlt : i < items.length
  · refine .inr ⟨wk.go Fc Hc i items[i] hSc (List.getElem?_eq_getElem hlt), fun σ' H' => ∃ m', m' < items.length - i ∧ ∃ (Fc : Addr → Prop) (ec : Ev), StepS g keep σ F H env σ' Fc H' ec ∧ S Fc H' ∧ forLoop (forFn keep tg one mb) (items.drop (i + 1)) ec = .ok fl env' ∧ i + 1 ≤ items.length ∧ m' = items.length - (i + 1), fun σ' H' h => h, fun x H' hy => ?_⟩
    obtain ⟨nw, fx⟩ := wk.yld Fc Hc i items[i] x H' hSc (List.getElem?_eq_getElem hlt) hy
    rw [List.drop_eq_getElem_cons hlt, forLoop] at hl
    cases h2 : forFn keep tg one mb items[i] ec with
    | exc x e2 => rw [h2] at hl; cases hl
    | stuck => rw [h2] at hl; cases hl
    | ok f2 e2 =>
      rw [h2] at hl
      unfold forFn at h2
      cases k3 : target keep tg one items[i] ec with
      | none => rw [k3] at h2; cases h2
      | some env2 =>
        rw [k3] at h2
        simp only at h2
        refine tg_ok k3 (sc.rel.new nw) fx fun σ2 R2 T => ?_
        have sc2 : StepS g keep σ F H env σ2 Fc H' env2 := sc.trans (StepS.tg sc.rel (.new sc.rel nw) R2 T)
        have S1 : S Fc H' := wk.stab (fun _ => False) Fc Hc Fc H' nw.ext (fun _ z => z.elim) hSc
        refine hb Fc H' env2 σ2 _ f2 e2 R2 h2 ?_
        intro F3 H3 σ3 s3
        have sc3 := sc2.trans s3
        have S3 := wk.stab _ _ _ _ _ s3.ext R2.wk S1
        cases f2 with
        | nx => exact ⟨items.length - (i + 1), by omega, F3, e2, sc3, S3, hl, hlt, rfl⟩
        | cont => exact ⟨items.length - (i + 1), by omega, F3, e2, sc3, S3, hl, hlt, rfl⟩
        | brk =>
          cases hl
          exact p F3 H3 σ3 sc3
        | ret r =>
          cases hl
          intro v sl fr
          exact p F3 H3 σ3 sc3 v sl fun z => (fr z).imp (fun y => y.back sc2.ext.stay) id
  · have ei : i = items.length := by omega
    subst ei
    rw [List.drop_length, forLoop] at hl
    cases hl
    exact .inl ⟨wk.stop Fc Hc hSc, p Fc Hc σc sc⟩
end
end Ev
set_option maxHeartbeats 2000000
/-! Snd11: the readings of terms; the evaluator is right about them. -/
namespace Ev
open PySem L2 RZ StX
structure Dn where
  g : Gx
  sp : Nat → Sp
  w : World
  gcv : Nat → V
  gda : Nat → Addr
  gdw : Nat → List (Key × V)
  ef : Nat → List Str := fun _ => []
  ct : Nat → V := fun _ => .non
def cV : D → V
  | .bl b => .bl b
  | .int i => .int i
  | .str s => .str s
  | _ => .non
def rZipL (K : PySem.W.Frag) : R2 := fun x y H Q => ∃ a b xs ys, x = .ref a ∧ y = .ref b ∧ ((SqL K H a xs ∧ SqL K H b ys) ∨ (SqT K H a xs ∧ SqT K H b ys)) ∧
  ∀ (p : Addr) (H' : Hp) (Ts : List Addr), H p = none → New H H' → H' p = some (.lst (Ts.map V.ref)) → Ts.length = min xs.length ys.length → (∀ (i : Nat) (T : Addr), Ts[i]? = some T → ∃ v w, xs[i]? = some v ∧ ys[i]? = some w ∧ H' T = some (.tup [v, w])) → Q (.ref p) H'
def rGin (K : PySem.W.Frag) (d : Addr) : V → Hp → VK → Prop := fun x H Q => ∃ (z : Str) (r : Option Value), x = .str z ∧ V.ref d = .ref d ∧ PySem.W.nsIn K d z = some r ∧ Q (.bl r.isSome) H
def rGix (K : PySem.W.Frag) (w : World) (d : Addr) : V → Hp → VK → Prop := fun y H Q => rIxD K w (.ref d) y H Q
def tGCopy (ws : List (Key × V)) : TE := fun _ H Q => ∀ p, H p = none → Q (.ref p) (upd H p (.dK ws))
def tCallV (fa : Nat → Option Addr) (sp : Nat → Sp) (i : Nat) (t : TA) : TE := fun σ H Q => ∃ f a, σ[i]? = some (some (.ref a)) ∧ fa f = some a ∧ t σ H fun vs H1 => sp f vs H1 Q E0
/-- the less of two numbers -/
def rMin2 : R2 := fun x y H Q => ∃ i j, [x, y] = [.int i, .int j] ∧ Q (.int (if j < i then j else i)) H
theorem p2_min {g : Gx} : P2 g rMin2 (fun x y => match x, y with
    | .int i, .int j => some (fz (.int (if j < i then j else i)))
    | _, _ => none) := by
  intro F H x y d e rv Q tk hx hy he q
  cases d <;> first | (cases he; done) | skip
  cases e <;> first | (cases he; done) | skip
  cases he
  cases bor_int hx; cases bor_int hy
  exact ⟨_, _, rfl, q _ _ .refl sl_int fun z => by cases z⟩
def rFld (K : PySem.W.Frag) (f : Str) : V → Hp → VK → Prop := fun x H Q => ∃ (a C dd : Addr) (fs : List (Str × V)) (v : V), x = .ref a ∧ XfC K C ∧ PySem.W.findIn K (.ref C) f = some none ∧ H a = some (exo a C (some dd)) ∧ H dd = some (exd dd fs) ∧ fs.lookup f = some v ∧ Q v H
def rIsE (K : PySem.W.Frag) (c : V) : V → Hp → VK → Prop := fun x H Q => Xc.rIsX K [x, c] H Q
section
variable (dn : Dn)
mutual
def denE : Tm → TE
  | .var i => tVar i
  | .cst d => tC (cV d)
  | .gl i => tC (dn.gcv i)
  | .fnv i => tC (.ref ((dn.g.fa i).getD 0))
  | .bin o a b => tOp (rBin dn.g.K o) (denE a) (denE b)
  | .neg a => tUn rNeg (denE a)
  | .notv a => tUn (rNotT dn.g.K) (denE a)
  | .cmp o a b => tOp (rCmp dn.g.K o) (denE a) (denE b)
  | .isN a => tUn rIsN (denE a)
  | .isNN a => tUn rNotN (denE a)
  | .chain o p a b c => tChain (rCmp dn.g.K o) (rCmp dn.g.K p) (denE a) (denE b) (denE c)
  | .andv a b => tAndT dn.g.K (denE a) (denE b)
  | .orv a b => tOrT dn.g.K (denE a) (denE b)
  | .ife c a b => tIf (denC c) (denE a) (denE b)
  | .idx a b => tOp (rIdx dn.g.K) (denE a) (denE b)
  | .slc a lo hi => tSl (rSlc dn.g.K) (denE a) (denTo lo) (denTo hi)
  | .evn a lo => tEvn dn.g.K (denE a) (denTo lo)
  | .rev a => tUn (rRev dn.g.K) (denE a)
  | .bi f a => tUn (rBi dn.g.K f) (denE a)
  | .join s a => tM1 (rJoin dn.g.K) (denE s) (denE a)
  | .dget d k x => tDGet2 (denE d) (denE k) (denE x)
  | .zipl a b => tOp (rZipL dn.g.K) (denE a) (denE b)
  | .gin i a => tUn (rGin dn.g.K (dn.gda i)) (denE a)
  | .gidx i a => tUn (rGix dn.g.K dn.w (dn.gda i)) (denE a)
  | .gdict i => tGCopy (dn.gdw i)
  | .tupd es => tTup (denA es)
  | .lstd es => tLst (denA es)
  | .dctd .nil => tDNewK
  | .dctd (.cons k v r) => tDisp ((denE k, denE v) :: denP r)
  | .call f as => tCall (dn.sp f) [] E0 (denA as)
  | .callv i as => tCallV dn.g.fa dn.sp i (denA as)
  | .ncall f as => tCall (dn.sp f) [] E0 (denA as)
  | .comp e tg one it c own => tLc (denI it) (denTg dn.g.K tg one) (denTc c) (denE e) own
  | .look e tg one i c own => tLc (iSeq dn.g.K (tVar i)) (denTg dn.g.K tg one) (denTc c) (denE e) own
  | .dcomp k v tg one it own => tDc (denI it) (denTg dn.g.K tg one) tYes (denE k) (denE v) own
  | .mu m i as => tBM dn.g.K "list" (rMu dn.g.K m) (tVar i) (denA as)
  | .min2 a b => tOp rMin2 (denE a) (denE b)
  | .dupd i a => tDUpd (tVar i) (denE a)
  | .mkx c n m es ks pm => Xc.tMkE dn.g.ca c (dn.ef c) n m pm (denA es) (denA ks)
  | .fld a f => tUn (rFld dn.g.K f) (denE a)
  | .isx a c => tUn (rIsE dn.g.K (dn.ct c)) (denE a)
def denTo : To → TO
  | .no => tNoPart
  | .yes a => tPart (denE a)
def denTc : To' → TT
  | .no => tYes
  | .yes c => denC c
def denA : Tms → TA
  | .nil => tNil
  | .cons a r => tCons (denE a) (denA r)
  | .star a r => tStar dn.g.K (denE a) (denA r)
def denP : Tps → List (TE × TE)
  | .nil => []
  | .cons k v r => (denE k, denE v) :: denP r
def denI : It → TI
  | .seq a => iSeq dn.g.K (denE a)
  | .rng1 a => iRng1 (tCons (denE a) tNil)
  | .rng2 a b => iRng2 (tCons (denE a) (tCons (denE b) tNil))
  | .enum a => iEnumA dn.g.K (denE a)
  | .zip a b => iZipA dn.g.K (tCons (denE a) (tCons (denE b) tNil))
def denC : Ct → TT
  | .val a => tVal dn.g.K (denE a)
  | .cmp a => tTest (denE a)
  | .and a b => tAnd (denC a) (denC b)
  | .or a b => tOr (denC a) (denC b)
  | .not a => tNot (denC a)
end
mutual
def denS : Sm → TS
  | .asg i a => tAsg (denE dn a) (gName i)
  | .unp is a => tAsg (denE dn a) (denTg dn.g.K is false)
  | .par is es => tPars is (denA dn es)
  | .setk i k v => sDPut (tVar i) (denE dn k) (denE dn v)
  | .aug i a => tAug i (denE dn a) (ipI fun i j => i + j)
  | .ifs c a b => tIfS (denC dn c) (denSs a) (denSs b)
  | .fors tg one it b => tFor (denI dn it) (denTg dn.g.K tg one) (denSs b)
  | .whiles c b => tWhile (denC dn c) (denSs b)
  | .ret a => tRet (denE dn a)
  | .retn => tRetN
  | .expr a => tDrop (denE dn a)
  | .pass => tNext
  | .brk => tBreak
  | .cont => tCont
  | .rais _ _ => tNever
def denSs : Sms → TS
  | .nil => tNext
  | .cons s r => tSeq (denS s) (denSs r)
end
end
/-- the written constants are what the evaluator takes them for -/
structure Gok (pg : Pg) (dn : Dn) : Prop where
  gc : ∀ i d, pg.gc[i]? = some d → flatD d = true ∧ dn.gcv i = cV d
  gin : ∀ i kvs (z : Str), pg.gd[i]? = some kvs → ∃ r, PySem.W.nsIn dn.g.K (dn.gda i) z = some r ∧ r.isSome = (valD kvs (.inr z)).isSome
  gix : ∀ i kvs (z : Str) d, pg.gd[i]? = some kvs → valD kvs (.inr z) = some d → ∃ v, KDct dn.g.K dn.w (dn.gda i) z v ∧ ∀ F H, Fr dn.g F H d v
  gcp : ∀ i kvs, pg.gd[i]? = some kvs → ∀ F H, FrK dn.g F H kvs (dn.gdw i)
  ec : ∀ c fs, pg.ec c = some fs → dn.ef c = fs ∧ ∃ C, dn.g.ca c = some C ∧ ∀ f ∈ fs, PySem.W.findIn dn.g.K (.ref C) f = some none
  er : ∀ c C, dn.g.ca c = some C → XfC dn.g.K C ∧ ExcC dn.g.K C
  isa : ∀ k c b C, pg.isa k c = some b → dn.g.ca k = some C → ∃ cv, (∀ u, RelV (dn.ct c) u → u = cv) ∧ PySem.W.kitOne dn.g.K (.ref C) cv = some b
theorem FrF.look {g : Gx} {F : Addr → Prop} {H : Hp} {f : Str} {d : D} : ∀ {fs : List (Str × D)} {ws : List (Str × V)}, FrF g F H fs ws → fs.lookup f = some d → ∃ v, ws.lookup f = some v ∧ Fr g F H d v
  | [], ws, _, e => by cases e
  | (k, x) :: fs, ws, h, e => by
    rw [FrF] at h
    obtain ⟨y, r, rfl, h1, h2⟩ := h
    rw [L2.lookup_put]
    have e : ((k, x) :: fs).lookup f = some d := e
    simp only [List.lookup] at e
    by_cases hk : f = k
    · subst hk
      simp at e
      subst e
      rw [if_pos rfl]
      exact ⟨y, rfl, h1⟩
    · have : (f == k) = false := by simpa using hk
      rw [this] at e
      rw [if_neg hk]
      exact FrF.look h2 e
theorem FrF.nil {g : Gx} {F : Addr → Prop} {H : Hp} : FrF g F H [] [] := by rw [FrF]
theorem FrF.app {g : Gx} {F : Addr → Prop} {H : Hp} : ∀ {ds es : List (Str × D)} {xs ys : List (Str × V)}, FrF g F H ds xs → FrF g F H es ys → FrF g F H (ds ++ es) (xs ++ ys)
  | [], es, xs, ys, h, h' => by
    rw [FrF] at h; subst h; exact h'
  | (k, d) :: ds, es, xs, ys, h, h' => by
    rw [FrF] at h
    obtain ⟨x, r, rfl, h1, h2⟩ := h
    rw [List.cons_append, List.cons_append, FrF]
    exact ⟨x, _, rfl, h1, FrF.app h2 h'⟩
theorem FrF.rzip {g : Gx} {F : Addr → Prop} {H : Hp} : ∀ {fs : List Str} {ds : List D} {xs : List V}, FrL g F H ds xs → FrF g F H (fs.zip ds).reverse (fs.zip xs).reverse
  | [], ds, xs, h => by simp; exact FrF.nil
  | f :: fs, [], xs, h => by
    rw [FrL] at h
    subst h
    simp
    exact FrF.nil
  | f :: fs, d :: ds, xs, h => by
    rw [FrL] at h
    obtain ⟨x, r, rfl, h1, h2⟩ := h
    rw [List.zip_cons_cons, List.zip_cons_cons, List.reverse_cons, List.reverse_cons]
    exact (FrF.rzip h2).app (by rw [FrF]; exact ⟨x, [], rfl, h1, FrF.nil⟩)
theorem FrF.ofNew {g : Gx} {F : Addr → Prop} {H H' : Hp} {ds : List (Str × D)} {xs : List (Str × V)} (h : FrF g F H ds xs) (n : New H H') : FrF g F H' ds xs := h.ext (W := fun _ => False) n.ext fun _ z => z.elim
theorem FrL.kw {g : Gx} {F : Addr → Prop} {H : Hp} {zs : List D} {ws : List V} (h : FrL g F H zs ws) : ∀ pm : List Nat, FrL g F H (kwD pm zs) (Xc.kwV pm ws)
  | [] => FrL.nil
  | i :: pm => by
    have ih := FrL.kw h pm
    unfold kwD Xc.kwV at ih ⊢
    rw [List.filterMap_cons, List.filterMap_cons]
    cases e : zs[i]? with
    | none =>
      have e2 : ws[i]? = none := by
        rw [List.getElem?_eq_none_iff] at e ⊢
        rw [← h.length]
        exact e
      rw [e2]
      exact ih
    | some d =>
      obtain ⟨x, e2, hx⟩ := h.get e
      rw [e2]
      exact FrL.cons hx ih
theorem bor_er {g : Gx} {F : Addr → Prop} {H : Hp} {c : Nat} {fs : List (Str × D)} {v : V} (h : Bor g F H (.er c fs) v) : ∃ a C ws, v = .ref a ∧ g.ca c = some C ∧ (∀ p ∈ fs, PySem.W.findIn g.K (.ref C) p.1 = some none) ∧ ErAt H a C ws ∧ FrF g F H fs ws := by
  have h : Fr g F H (.er c fs) v := h
  rw [Fr] at h
  exact h
theorem look_mem {f : Str} {d : D} : ∀ {fs : List (Str × D)}, fs.lookup f = some d → ∃ y, (f, y) ∈ fs
  | [], h => by cases h
  | (k, y) :: fs, h => by
    by_cases hk : f = k
    · subst hk
      exact ⟨y, List.mem_cons_self ..⟩
    · have : (f == k) = false := by simpa using hk
      simp only [List.lookup, this] at h
      obtain ⟨y, hy⟩ := look_mem h
      exact ⟨y, List.mem_cons_of_mem _ hy⟩
theorem p1_fld {pg : Pg} {dn : Dn} (ok : Gok pg dn) (f : Str) : P1 dn.g (rFld dn.g.K f) (fldD f) := by
  intro F H x d rv Q tk hx he q
  cases d <;> first | (cases he; done) | skip
  rename_i c fs
  obtain ⟨a, C, ws, rfl, hc, hno, hat, hf⟩ := bor_er hx
  have he : (fs.lookup f).map fz = some rv := he
  cases hl : fs.lookup f with
  | none => rw [hl] at he; cases he
  | some d =>
    rw [hl] at he
    cases he
    obtain ⟨v, hv, fv⟩ := hf.look hl
    obtain ⟨y, hy⟩ := look_mem hl
    rcases hat with ⟨e, _⟩ | ⟨dd, h1, h2⟩
    · subst e
      cases hv
    · exact ⟨a, C, dd, ws, v, rfl, (ok.er c C hc).1, hno _ hy, h1, h2, hv, q H v New.refl (sl_fz.mpr fv) fun z => by cases z⟩
theorem p1_isx {pg : Pg} {dn : Dn} (ok : Gok pg dn) (c : Nat) : P1 dn.g (rIsE dn.g.K (dn.ct c)) (isxD pg.isa c) := by
  intro F H x d rv Q tk hx he q
  cases d <;> first | (cases he; done) | skip
  rename_i k fs
  obtain ⟨a, C, ws, rfl, hc, hno, hat, hf⟩ := bor_er hx
  have he : ((pg.isa k c).map fun b => fz (.bl b)) = some rv := he
  cases hb : pg.isa k c with
  | none => rw [hb] at he; cases he
  | some b =>
    rw [hb] at he
    cases he
    obtain ⟨cv, h1, h2⟩ := ok.isa k c b C hb hc
    have qq := q H (.bl b) New.refl sl_bl fun z => by cases z
    rcases hat with ⟨_, e⟩ | ⟨dd, e1, e2⟩
    · exact ⟨a, C, none, dn.ct c, cv, b, rfl, (ok.er k C hc).2, e, fun dd z => (nomatch z), h1, h2, qq⟩
    · exact ⟨a, C, some dd, dn.ct c, cv, b, rfl, (ok.er k C hc).2, e1, fun d2 z => by cases z; exact ⟨ws, e2⟩, h1, h2, qq⟩
theorem made_new {H H' : Hp} {a C : Addr} {ws : List (Str × V)} (na : H a = none) (m : Xc.Made (upd H a (exo a C none)) a C ws H') : New H H' ∧ ErAt H' a C ws := by
  cases ws with
  | nil =>
    have m : H' = upd H a (exo a C none) := m
    subst m
    exact ⟨New.upd na, .inl ⟨rfl, upd_same⟩⟩
  | cons w ws =>
    obtain ⟨dx, hn, ne, rfl⟩ := m
    rw [upd_ne ne] at hn
    refine ⟨fun b o e => ?_, .inr ⟨dx, upd_same, by rw [upd_ne ne, upd_same]⟩⟩
    rw [upd_ne (ne_of_none e na), upd_ne (ne_of_none e hn), upd_ne (ne_of_none e na)]
    exact e
theorem snd_mkx {pg : Pg} {dn : Dn} (ok : Gok pg dn) {c nn mm : Nat} {pm : List Nat} {ta tk : TA} {ma mk : Ev → Out (List D)} {m : Ev → Out Rv} (ha : SndF dn.g ta ma) (hk : SndF dn.g tk mk)
    (hm : ∀ env, m env = (ma env).bind fun ds e1 => (mk e1).bind fun zs e2 => match pg.ec c with
      | some fs => if ds.length = nn ∧ zs.length = mm ∧ (ds ++ kwD pm zs).length = fs.length then .ok (fz (.er c (fs.zip (ds ++ kwD pm zs)).reverse)) e2 else .stuck
      | none => .stuck) : SndE dn.g (Xc.tMkE dn.g.ca c (dn.ef c) nn mm pm ta tk) m := by
  intro F H env σ Q r env' R e q
  rw [hm] at e
  obtain ⟨ds, e1, h1, e⟩ := bind_ok e
  obtain ⟨zs, e2, h2, e⟩ := bind_ok e
  cases hc : pg.ec c with
  | none => rw [hc] at e; cases e
  | some fs =>
    rw [hc] at e
    simp only at e
    split at e
    · rename_i hl
      obtain ⟨l1, l2, hl⟩ := hl
      cases e
      obtain ⟨ef, C, hC, hno⟩ := ok.ec c fs hc
      refine ha F H env σ _ ds e1 R h1 fun F1 H1 vs s1 f1 => ?_
      refine hk F1 H1 e1 σ _ zs env' s1.rel h2 fun F2 H2 ws s2 f2 => ?_
      have f3 := (s2.frL s1.rel f1).app (f2.kw pm)
      refine ⟨C, hC, by rw [← f1.length]; exact l1, by rw [← f2.length]; exact l2, by rw [← f3.length, hl, ef], fun a H' na m => ?_⟩
      rw [ef] at m
      obtain ⟨n, at'⟩ := made_new na m
      refine q F2 H' (.ref a) ((s1.trans s2).trans (.new s2.rel n)) (sl_fz.mpr ?_) fun z => by cases z
      rw [Fr]
      refine ⟨a, C, _, rfl, hC, fun p hp => ?_, at', (FrF.rzip f3).ofNew n⟩
      rw [List.mem_reverse] at hp
      exact hno p.1 (List.of_mem_zip (a := p.1) (b := p.2) hp).1
    · cases e
/-- a term's constants are plain, its defs are there -/
theorem cV_fr {g : Gx} {F : Addr → Prop} {H : Hp} {d : D} (h : flatD d = true) : Fr g F H d (cV d) := by
  cases d <;> first | (simp [flatD] at h; done) | skip
  · exact fr_non
  · exact fr_bl
  · exact fr_int
  · exact fr_str
theorem p1_gin {pg : Pg} {dn : Dn} (ok : Gok pg dn) (i : Nat) : P1 dn.g (rGin dn.g.K (dn.gda i)) (fun d => match d, pg.gd[i]? with
    | .str s, some kvs => some (fz (.bl (valD kvs (.inr s)).isSome))
    | _, _ => none) := by
  intro F H x d rv Q tk hx he q
  simp only at he
  cases d <;> first | (cases he; done) | skip
  rename_i s
  cases hg : pg.gd[i]? with
  | none => rw [hg] at he; cases he
  | some kvs =>
    rw [hg] at he
    cases he
    cases bor_str hx
    obtain ⟨r, h1, h2⟩ := ok.gin i kvs s hg
    exact ⟨s, r, rfl, rfl, h1, by rw [h2]; exact q _ _ .refl sl_bl fun z => by cases z⟩
theorem p1_gix {pg : Pg} {dn : Dn} (ok : Gok pg dn) (i : Nat) : P1 dn.g (rGix dn.g.K dn.w (dn.gda i)) (fun d => match d, pg.gd[i]? with
    | .str s, some kvs => (valD kvs (.inr s)).map fz
    | _, _ => none) := by
  intro F H x d rv Q tk hx he q
  simp only at he
  cases d <;> first | (cases he; done) | skip
  rename_i s
  cases hg : pg.gd[i]? with
  | none => rw [hg] at he; cases he
  | some kvs =>
    rw [hg] at he
    simp only at he
    cases hv : valD kvs (.inr s) with
    | none => rw [hv] at he; cases he
    | some d =>
      rw [hv] at he
      cases he
      cases bor_str hx
      obtain ⟨v, h1, h2⟩ := ok.gix i kvs s d hg hv
      exact ⟨_, s, v, rfl, rfl, h1, q _ _ .refl (sl_fz.mpr (h2 F H)) fun z => by cases z⟩
theorem p2_zipl {g : Gx} : P2 g (rZipL g.K) (fun x y => match x, y with
    | .lst xs, .lst ys => some (ow (.lst (zipD xs ys)))
    | .tup xs, .tup ys => some (ow (.lst (zipD xs ys)))
    | _, _ => none) := by
  intro F H x y d e rv Q tk hx hy he q
  have fin : ∀ {ds es : List D} {xs ys : List V}, FrL g F H ds xs → FrL g F H es ys → rv = ow (.lst (zipD ds es)) → ∀ (p : Addr) (H' : Hp) (Ts : List Addr), H p = none → New H H' → H' p = some (.lst (Ts.map V.ref)) → Ts.length = min xs.length ys.length → (∀ (i : Nat) (T : Addr), Ts[i]? = some T → ∃ v w, xs[i]? = some v ∧ ys[i]? = some w ∧ H' T = some (.tup [v, w])) → Q (.ref p) H' := by
    intro ds es xs ys f1 f2 er p H' Ts hp n h1 h2 h3
    subst er
    refine q H' _ n (sl_ow.mpr ⟨p, _, rfl, fun z => tk p z hp, h1, ?_⟩) fun _ => ⟨p, rfl, hp⟩
    have f1' := f1.new n
    have f2' := f2.new n
    clear q h1 hx hy he f1 f2
    have key : ∀ (ds es : List D) (xs ys : List V) (Ts : List Addr), FrL g F H' ds xs → FrL g F H' es ys → Ts.length = min xs.length ys.length → (∀ (i : Nat) (T : Addr), Ts[i]? = some T → ∃ v w, xs[i]? = some v ∧ ys[i]? = some w ∧ H' T = some (.tup [v, w])) → FrL g F H' (zipD ds es) (Ts.map V.ref) := by
      intro ds
      induction ds with
      | nil =>
        intro es xs ys Ts f1 f2 hl ht
        rw [FrL] at f1
        subst f1
        have : Ts = [] := List.eq_nil_of_length_eq_zero (by simpa using hl)
        subst this
        simp only [zipD]
        exact FrL.nil
      | cons d ds ih =>
        intro es xs ys Ts f1 f2 hl ht
        cases es with
        | nil =>
          rw [FrL] at f2
          subst f2
          have : Ts = [] := List.eq_nil_of_length_eq_zero (by simpa using hl)
          subst this
          simp only [zipD]
          exact FrL.nil
        | cons e es =>
          rw [FrL] at f1 f2
          obtain ⟨x, xr, rfl, g1, g2⟩ := f1
          obtain ⟨y, yr, rfl, k1, k2⟩ := f2
          cases Ts with
          | nil => simp at hl
          | cons T Tr =>
            obtain ⟨v, w, e1, e2, e3⟩ := ht 0 T rfl
            simp at e1 e2
            subst e1; subst e2
            simp only [zipD, List.map_cons]
            refine FrL.cons (fr_tup e3 (.cons g1 (.cons k1 .nil))) (ih es xr yr Tr g2 k2 (by simp at hl; omega) fun i T' h => ?_)
            obtain ⟨v, w, q1, q2, q3⟩ := ht (i + 1) T' (by simpa using h)
            exact ⟨v, w, by simpa using q1, by simpa using q2, q3⟩
    exact key ds es xs ys Ts f1' f2' h2 h3
  simp only at he
  split at he
  · cases he
    obtain ⟨a, xs, rfl, h1, h2⟩ := hx
    obtain ⟨b, ys, rfl, h3, h4⟩ := hy
    exact ⟨a, b, xs, ys, rfl, rfl, .inl ⟨SqL.of h1, SqL.of h3⟩, fin h2 h4 rfl⟩
  · cases he
    obtain ⟨a, xs, rfl, h1, h2⟩ := bor_tup hx
    obtain ⟨b, ys, rfl, h3, h4⟩ := bor_tup hy
    exact ⟨a, b, xs, ys, rfl, rfl, .inr ⟨h1, h3⟩, fin h2 h4 rfl⟩
  · cases he
mutual
/-- constants of a term are plain, defs as values are there -/
def okE (fa : Nat → Option Addr) : Tm → Prop
  | .var _ => True
  | .cst d => flatD d = true
  | .gl _ => True
  | .fnv i => (fa i).isSome = true
  | .bin _ a b => okE fa a ∧ okE fa b
  | .neg a => okE fa a
  | .notv a => okE fa a
  | .cmp _ a b => okE fa a ∧ okE fa b
  | .isN a => okE fa a
  | .isNN a => okE fa a
  | .chain _ _ a b c => okE fa a ∧ okE fa b ∧ okE fa c
  | .andv a b => okE fa a ∧ okE fa b
  | .orv a b => okE fa a ∧ okE fa b
  | .ife c a b => okC fa c ∧ okE fa a ∧ okE fa b
  | .idx a b => okE fa a ∧ okE fa b
  | .slc a lo hi => okE fa a ∧ okTo fa lo ∧ okTo fa hi
  | .evn a lo => okE fa a ∧ okTo fa lo
  | .rev a => okE fa a
  | .bi _ a => okE fa a
  | .join s a => okE fa s ∧ okE fa a
  | .dget d k x => okE fa d ∧ okE fa k ∧ okE fa x
  | .zipl a b => okE fa a ∧ okE fa b
  | .gin _ a => okE fa a
  | .gidx _ a => okE fa a
  | .gdict _ => True
  | .tupd es => okA fa es
  | .lstd es => okA fa es
  | .dctd ps => okP fa ps
  | .call _ as => okA fa as
  | .callv _ as => okA fa as
  | .ncall _ as => okA fa as
  | .comp e _ _ it c _ => okE fa e ∧ okI fa it ∧ okTc fa c
  | .look e _ _ _ c _ => okE fa e ∧ okTc fa c
  | .dcomp k v _ _ it _ => okE fa k ∧ okE fa v ∧ okI fa it
  | .mu _ _ as => okA fa as
  | .min2 a b => okE fa a ∧ okE fa b
  | .dupd _ a => okE fa a
  | .mkx _ _ _ es ks _ => okA fa es ∧ okA fa ks
  | .fld a _ => okE fa a
  | .isx a _ => okE fa a
def okTo (fa : Nat → Option Addr) : To → Prop
  | .no => True
  | .yes a => okE fa a
def okTc (fa : Nat → Option Addr) : To' → Prop
  | .no => True
  | .yes c => okC fa c
def okA (fa : Nat → Option Addr) : Tms → Prop
  | .nil => True
  | .cons a r => okE fa a ∧ okA fa r
  | .star a r => okE fa a ∧ okA fa r
def okP (fa : Nat → Option Addr) : Tps → Prop
  | .nil => True
  | .cons k v r => okE fa k ∧ okE fa v ∧ okP fa r
def okI (fa : Nat → Option Addr) : It → Prop
  | .seq a => okE fa a
  | .rng1 a => okE fa a
  | .rng2 a b => okE fa a ∧ okE fa b
  | .enum a => okE fa a
  | .zip a b => okE fa a ∧ okE fa b
def okC (fa : Nat → Option Addr) : Ct → Prop
  | .val a => okE fa a
  | .cmp a => okE fa a
  | .and a b => okC fa a ∧ okC fa b
  | .or a b => okC fa a ∧ okC fa b
  | .not a => okC fa a
end
section
variable {pg : Pg} {cf : Nat → List Rv → COut} {keep : Nat} {dn : Dn} (ok : Gok pg dn) (hsp : ∀ f, dn.sp f = spOf dn.g cf pg.keeps f)
include ok hsp
theorem sndF_star {a : Tm} {ta : TE} {tr : TA} {ma : Ev → Out Rv} {mr m : Ev → Out (List D)} (ha : SndE dn.g ta ma) (hr : SndF dn.g tr mr)
    (hm : ∀ env, m env = (ma env).bind fun x e1 => match seqD x.2 with
      | some ys => (mr e1).bind fun xs e2 => .ok (ys ++ xs) e2
      | none => .stuck) : SndF dn.g (tStar dn.g.K ta tr) m := by
  intro F H env σ Q ds env' R e q
  rw [hm] at e
  obtain ⟨x, e1, h1, e⟩ := bind_ok e
  cases hs : seqD x.2 with
  | none => rw [hs] at e; cases e
  | some ys =>
    rw [hs] at e
    simp only at e
    obtain ⟨xs, e2, h2, e⟩ := bind_ok e
    cases e
    refine ha.frz R h1 fun F1 H1 v s1 f1 => ?_
    obtain ⟨p, vs, rfl, hp, fv⟩ := seq_of f1.bor hs
    refine ⟨p, vs, rfl, hp, ?_⟩
    refine hr F1 H1 e1 σ _ xs env' s1.rel h2 fun F2 H2 ws s2 f2 => ?_
    exact q F2 H2 _ (s1.trans s2) ((s2.frL s1.rel fv).app f2)
mutual
theorem sndE : ∀ t : Tm, okE dn.g.fa t → SndE dn.g (denE dn t) (evE pg cf keep t)
  | .var i, _ => by rw [denE]; exact snd_var i
  | .cst d, h => by
    rw [denE]
    exact snd_const (d := d) (fun env r env' e => by rw [evE] at e; cases e; exact ⟨rfl, rfl⟩) fun F H => cV_fr (by rw [okE] at h; exact h)
  | .gl i, h => by
    rw [denE]
    intro F H env σ Q r env' R e q
    rw [evE] at e
    obtain ⟨h1, rfl⟩ := lift_ok e
    cases hg : pg.gc[i]? with
    | none => rw [hg] at h1; cases h1
    | some d =>
      rw [hg] at h1
      cases h1
      obtain ⟨q1, q2⟩ := ok.gc i d hg
      exact q F H _ (.refl R) (sl_fz.mpr (by rw [q2]; exact cV_fr q1)) fun z => by cases z
  | .fnv i, h => by
    rw [denE]
    refine snd_const (d := .fn i) (fun env r env' e => by rw [evE] at e; cases e; exact ⟨rfl, rfl⟩) fun F H => ?_
    rw [okE] at h
    rw [Fr]
    cases hf : dn.g.fa i with
    | none => rw [hf] at h; cases h
    | some a => exact ⟨a, rfl, rfl⟩
  | .bin o a b, h => by
    rw [okE] at h
    rw [denE]
    intro F H env σ Q r env' R e q
    rw [evE] at e
    exact snd_op2 (sndO a h.1) (sndO b h.2) (p2_bin o) F H env σ Q r env' R e q
  | .neg a, h => by
    rw [okE] at h
    rw [denE]
    intro F H env σ Q r env' R e q
    rw [evE] at e
    exact snd_op1 (sndO a h) p1_neg F H env σ Q r env' R e q
  | .notv a, h => by
    rw [okE] at h
    rw [denE]
    intro F H env σ Q r env' R e q
    rw [evE] at e
    exact snd_op1 (sndO a h) p1_not F H env σ Q r env' R e q
  | .cmp o a b, h => by
    rw [okE] at h
    rw [denE]
    intro F H env σ Q r env' R e q
    rw [evE] at e
    exact snd_op2 (sndO a h.1) (sndO b h.2) (p2_cmp o) F H env σ Q r env' R e q
  | .isN a, h => by
    rw [okE] at h
    rw [denE]
    intro F H env σ Q r env' R e q
    rw [evE] at e
    exact snd_op1 (sndO a h) p1_isN F H env σ Q r env' R e q
  | .isNN a, h => by
    rw [okE] at h
    rw [denE]
    intro F H env σ Q r env' R e q
    rw [evE] at e
    exact snd_op1 (sndO a h) p1_isNN F H env σ Q r env' R e q
  | .chain o p a b c, h => by
    rw [okE] at h
    rw [denE]
    exact snd_chain (sndO a h.1) (sndO b h.2.1) (sndO c h.2.2) fun env => by (rw [evE]; first | done | rfl)
  | .andv a b, h => by
    rw [okE] at h
    rw [denE]
    exact snd_and (sndE a h.1) (sndE b h.2) fun env => by (rw [evE]; first | done | rfl)
  | .orv a b, h => by
    rw [okE] at h
    rw [denE]
    exact snd_or (sndE a h.1) (sndE b h.2) fun env => by (rw [evE]; first | done | rfl)
  | .ife c a b, h => by
    rw [okE] at h
    rw [denE]
    exact snd_ife (sndC c h.1) (sndE a h.2.1) (sndE b h.2.2) fun env => by (rw [evE]; first | done | rfl)
  | .idx a b, h => by
    rw [okE] at h
    rw [denE]
    intro F H env σ Q r env' R e q
    rw [evE] at e
    exact snd_op2 (sndO a h.1) (sndO b h.2) p2_idx F H env σ Q r env' R e q
  | .slc a lo hi, h => by
    rw [okE] at h
    rw [denE]
    exact snd_slc (sndO a h.1) (sndTo lo h.2.1) (sndTo hi h.2.2) fun env => by (rw [evE]; first | done | rfl)
  | .evn a lo, h => by
    rw [okE] at h
    rw [denE]
    exact snd_evn (sndO a h.1) (sndTo lo h.2) fun env => by (rw [evE]; first | done | rfl)
  | .rev a, h => by
    rw [okE] at h
    rw [denE]
    intro F H env σ Q r env' R e q
    rw [evE] at e
    exact snd_op1 (sndO a h) p1_rev F H env σ Q r env' R e q
  | .bi f a, h => by
    rw [okE] at h
    rw [denE]
    intro F H env σ Q r env' R e q
    rw [evE] at e
    exact snd_op1 (sndO a h) (p1_bi f) F H env σ Q r env' R e q
  | .join s a, h => by
    rw [okE] at h
    rw [denE]
    exact snd_join (sndE s h.1) (sndO a h.2) fun env => by (rw [evE]; first | done | rfl)
  | .dget d k x, h => by
    rw [okE] at h
    rw [denE]
    exact snd_dget (sndO d h.1) (sndO k h.2.1) (sndE x h.2.2) fun env => by (rw [evE]; first | done | rfl)
  | .zipl a b, h => by
    rw [okE] at h
    rw [denE]
    intro F H env σ Q r env' R e q
    rw [evE] at e
    exact snd_op2 (sndO a h.1) (sndO b h.2) p2_zipl F H env σ Q r env' R e q
  | .gin i a, h => by
    rw [okE] at h
    rw [denE]
    intro F H env σ Q r env' R e q
    rw [evE] at e
    exact snd_op1 (sndO a h) (p1_gin ok i) F H env σ Q r env' R e q
  | .gidx i a, h => by
    rw [okE] at h
    rw [denE]
    intro F H env σ Q r env' R e q
    rw [evE] at e
    exact snd_op1 (sndO a h) (p1_gix ok i) F H env σ Q r env' R e q
  | .gdict i, h => by
    rw [denE]
    intro F H env σ Q r env' R e q p hp
    rw [evE] at e
    obtain ⟨h1, rfl⟩ := lift_ok e
    cases hg : pg.gd[i]? with
    | none => rw [hg] at h1; cases h1
    | some kvs =>
      rw [hg] at h1
      cases h1
      exact newD R.trk hp (ok.gcp i kvs hg F H) fun H2 v n sl fr => q F H2 v (.new R n) sl fr
  | .tupd es, h => by
    rw [okE] at h
    rw [denE]
    exact snd_tup (sndF es h) fun env => by (rw [evE]; first | done | rfl)
  | .lstd es, h => by
    rw [okE] at h
    rw [denE]
    exact snd_lst (sndF es h) fun env => by (rw [evE]; first | done | rfl)
  | .dctd .nil, h => by
    rw [denE]
    exact snd_dct0 fun env => by rw [evE, evP]; rfl
  | .dctd (.cons k v r), h => by
    rw [okE] at h
    rw [denE]
    have := sndP (.cons k v r) h
    rw [denP] at this
    exact snd_dct this fun env => by (rw [evE]; first | done | rfl)
  | .call f as, h => by
    rw [okE] at h
    rw [denE]
    intro F H env σ Q r env' R e q
    rw [evE] at e
    obtain ⟨os, e1, h1, e⟩ := bind_ok e
    refine sndA as h F H env σ _ os e1 R h1 fun F1 H1 vs s1 o1 nd fr => ?_
    rw [List.append_nil, hsp]
    exact snd_doCall R s1 o1 nd fr e q
  | .callv i as, h => by
    rw [okE] at h
    rw [denE]
    intro F H env σ Q r env' R e q
    rw [evE] at e
    cases h0 : getS env i with
    | none => rw [h0] at e; cases e
    | some r0 =>
      obtain ⟨b, d⟩ := r0
      rw [h0] at e
      cases b <;> first | (cases e; done) | skip
      cases d <;> first | (cases e; done) | skip
      rename_i f
      simp only at e
      obtain ⟨v, ev, fv⟩ := R.fz h0
      rw [Fr] at fv
      obtain ⟨a, rfl, ha⟩ := fv
      obtain ⟨os, e1, h1, e⟩ := bind_ok e
      refine ⟨f, a, ev, ha, ?_⟩
      refine sndA as h F H env σ _ os e1 R h1 fun F1 H1 vs s1 o1 nd fr => ?_
      rw [hsp]
      exact snd_doCall R s1 o1 nd fr e q
  | .ncall f as, h => by
    rw [okE] at h
    rw [denE]
    intro F H env σ Q r env' R e q
    rw [evE] at e
    obtain ⟨os, e1, h1, e⟩ := bind_ok e
    refine sndA as h F H env σ _ os e1 R h1 fun F1 H1 vs s1 o1 nd fr => ?_
    rw [List.append_nil, hsp]
    cases h2 : frzs os with
    | none => rw [h2] at e; cases e
    | some rs =>
      rw [h2] at e
      simp only at e
      split at e
      · rename_i ds outs h3
        split at e
        · rename_i hp
          cases e
          exact snd_ncall R s1 o1 h2 h3 hp fun F' H' v s sl fr => q F' H' v s sl fun _ => fr
        · cases e
      · cases e
  | .comp e tg one it c own, h => by
    rw [okE] at h
    rw [denE]
    refine snd_comp (keep := keep) (sndI it h.2.1) (sndTc c h.2.2) (sndE e h.1) fun env => ?_
    rw [evE]
    rfl
  | .look e tg one i c own, h => by
    rw [okE] at h
    rw [denE]
    refine snd_look (keep := keep) (sndTc c h.2) (sndE e h.1) fun env => ?_
    rw [evE]
    rfl
  | .dcomp k v tg one it own, h => by
    rw [okE] at h
    rw [denE]
    refine snd_dcomp (keep := keep) (sndI it h.2.2) (sndE k h.1) (sndE v h.2.1) fun env => ?_
    rw [evE]
    rfl
  | .mu m i as, h => by
    rw [okE] at h
    rw [denE]
    exact snd_mu (sndF as h) fun env => by (rw [evE]; first | done | rfl)
  | .min2 a b, h => by
    rw [okE] at h
    rw [denE]
    intro F H env σ Q r env' R e q
    rw [evE] at e
    exact snd_op2 (sndO a h.1) (sndO b h.2) p2_min F H env σ Q r env' R e q
  | .dupd i a, h => by
    rw [okE] at h
    rw [denE]
    exact snd_dupd (sndE a h) fun env => by (rw [evE]; first | done | rfl)
  | .mkx c n m es ks pm, h => by
    rw [okE] at h
    rw [denE]
    exact snd_mkx ok (sndF es h.1) (sndF ks h.2) fun env => by (rw [evE]; first | done | rfl)
  | .fld a f, h => by
    rw [okE] at h
    rw [denE]
    intro F H env σ Q r env' R e q
    rw [evE] at e
    exact snd_op1 (sndO a h) (p1_fld ok f) F H env σ Q r env' R e q
  | .isx a c, h => by
    rw [okE] at h
    rw [denE]
    intro F H env σ Q r env' R e q
    rw [evE] at e
    exact snd_op1 (sndO a h) (p1_isx ok c) F H env σ Q r env' R e q
theorem sndO : ∀ t : Tm, okE dn.g.fa t → SndO dn.g (denE dn t) (opd t (evE pg cf keep t))
  | t, h => snd_opd (sndE t h) fun i e => by subst e; rw [denE]
theorem sndTo : ∀ t : To, okTo dn.g.fa t → SndT dn.g (denTo dn t) (evTo pg cf keep t)
  | .no, _ => by rw [denTo]; exact sndT_no fun env => by (rw [evTo]; first | done | rfl)
  | .yes a, h => by
    rw [okTo] at h
    rw [denTo]
    exact sndT_yes (sndE a h) fun env => by (rw [evTo]; first | done | rfl)
theorem sndTc : ∀ t : To', okTc dn.g.fa t → SndC dn.g (denTc dn t) (evTc pg cf keep t)
  | .no, _ => by
    rw [denTc]
    intro F H env σ Q b env' R e q
    rw [evTc] at e
    cases e
    exact q F H (.refl R)
  | .yes c, h => by
    rw [okTc] at h
    rw [denTc]
    intro F H env σ Q b env' R e q
    rw [evTc] at e
    exact sndC c h F H env σ Q b env' R e q
theorem sndF : ∀ t : Tms, okA dn.g.fa t → SndF dn.g (denA dn t) (evF pg cf keep t)
  | .nil, _ => by rw [denA]; exact sndF_nil fun env => by (rw [evF]; first | done | rfl)
  | .cons a r, h => by
    rw [okA] at h
    rw [denA]
    exact sndF_cons (sndE a h.1) (sndF r h.2) fun env => by (rw [evF]; first | done | rfl)
  | .star a r, h => by
    rw [okA] at h
    rw [denA]
    exact sndF_star ok hsp (a := a) (sndE a h.1) (sndF r h.2) fun env => by (rw [evF]; first | done | rfl)
theorem sndA : ∀ t : Tms, okA dn.g.fa t → SndA dn.g (denA dn t) (evA pg cf keep t)
  | .nil, _ => by rw [denA]; exact sndA_nil fun env => by (rw [evA]; first | done | rfl)
  | .cons a r, h => by
    rw [okA] at h
    rw [denA]
    exact sndA_cons (sndO a h.1) (sndA r h.2) fun env => by (rw [evA]; first | done | rfl)
  | .star a r, h => by
    intro F H env σ Q os env' R e q
    rw [evA] at e
    cases e
theorem sndP : ∀ t : Tps, okP dn.g.fa t → SndP dn.g (denP dn t) (evP pg cf keep t)
  | .nil, _ => by rw [denP]; exact sndP_nil fun env => by (rw [evP]; first | done | rfl)
  | .cons k v r, h => by
    rw [okP] at h
    rw [denP]
    exact sndP_cons (sndE k h.1) (sndE v h.2.1) (sndP r h.2.2) fun env => by (rw [evP]; first | done | rfl)
theorem sndI : ∀ t : It, okI dn.g.fa t → SndI dn.g (denI dn t) (evI pg cf keep t)
  | .seq a, h => by
    rw [okI] at h
    rw [denI]
    exact sndI_seq (sndE a h) fun env => by (rw [evI]; first | done | rfl)
  | .rng1 a, h => by
    rw [okI] at h
    rw [denI]
    exact sndI_rng1 (sndE a h) fun env => by (rw [evI]; first | done | rfl)
  | .rng2 a b, h => by
    rw [okI] at h
    rw [denI]
    exact sndI_rng2 (sndE a h.1) (sndE b h.2) fun env => by (rw [evI]; first | done | rfl)
  | .enum a, h => by
    rw [okI] at h
    rw [denI]
    exact sndI_enum (sndE a h) fun env => by (rw [evI]; first | done | rfl)
  | .zip a b, h => by
    rw [okI] at h
    rw [denI]
    exact sndI_zip (sndE a h.1) (sndE b h.2) fun env => by (rw [evI]; first | done | rfl)
theorem sndC : ∀ t : Ct, okC dn.g.fa t → SndC dn.g (denC dn t) (evC pg cf keep t)
  | .val a, h => by
    rw [okC] at h
    rw [denC]
    exact sndC_val (sndO a h) fun env => by (rw [evC]; first | done | rfl)
  | .cmp a, h => by
    rw [okC] at h
    rw [denC]
    exact sndC_cmp (sndE a h) fun env => by (rw [evC]; first | done | rfl)
  | .and a b, h => by
    rw [okC] at h
    rw [denC]
    exact sndC_and (sndC a h.1) (sndC b h.2) fun env => by (rw [evC]; first | done | rfl)
  | .or a b, h => by
    rw [okC] at h
    rw [denC]
    exact sndC_or (sndC a h.1) (sndC b h.2) fun env => by (rw [evC]; first | done | rfl)
  | .not a, h => by
    rw [okC] at h
    rw [denC]
    exact sndC_not (sndC a h) fun env => by (rw [evC]; first | done | rfl)
end
end
end Ev
/-! Snd12: statements' readings; a def's body. -/
namespace Ev
open PySem L2 RZ StX
mutual
def okS (fa : Nat → Option Addr) : Sm → Prop
  | .asg _ a => okE fa a
  | .unp _ a => okE fa a
  | .par is es => is.length ≤ sizeLine ∧ okA fa es
  | .setk _ k v => okE fa k ∧ okE fa v
  | .aug _ a => okE fa a
  | .ifs c a b => okC fa c ∧ okSs fa a ∧ okSs fa b
  | .fors _ _ it b => okI fa it ∧ okSs fa b
  | .whiles c b => okC fa c ∧ okSs fa b
  | .ret a => okE fa a
  | .retn => True
  | .expr a => okE fa a
  | .pass => True
  | .brk => True
  | .cont => True
  | .rais _ _ => True
def okSs (fa : Nat → Option Addr) : Sms → Prop
  | .nil => True
  | .cons s r => okS fa s ∧ okSs fa r
end
section
variable {pg : Pg} {cf : Nat → List Rv → COut} {keep wf : Nat} {dn : Dn} (ok : Gok pg dn) (hsp : ∀ f, dn.sp f = spOf dn.g cf pg.keeps f)
include ok hsp
theorem sndR : ∀ t : Tms, okA dn.g.fa t → SndR dn.g (denA dn t) (evR pg cf keep t)
  | .nil, _ => by rw [denA]; exact sndR_nil fun env => by rw [evR]
  | .cons a r, h => by
    rw [okA] at h
    rw [denA]
    exact sndR_cons (sndE ok hsp a h.1) (sndR r h.2) fun env => by rw [evR]
  | .star a r, h => by
    intro F H env σ Q os env' R e q
    rw [evR] at e
    cases e
mutual
theorem sndSm : ∀ s : Sm, okS dn.g.fa s → SndS dn.g keep (denS dn s) (exS pg cf keep wf s)
  | .asg i a, h => by
    rw [okS] at h
    rw [denS]
    exact sndS_asg (sndE ok hsp a h) fun env => by (rw [exS]; first | done | rfl)
  | .unp is a, h => by
    rw [okS] at h
    rw [denS]
    exact sndS_unp (sndE ok hsp a h) fun env => by (rw [exS]; first | done | rfl)
  | .par is es, h => by
    rw [okS] at h
    rw [denS]
    exact sndS_par (sndR ok hsp es h.2) h.1 fun env => by (rw [exS]; first | done | rfl)
  | .setk i k v, h => by
    rw [okS] at h
    rw [denS]
    exact sndS_setk (sndE ok hsp v h.2) (sndO ok hsp k h.1) fun env => by (rw [exS]; first | done | rfl)
  | .aug i a, h => by
    rw [okS] at h
    rw [denS]
    exact sndS_aug (sndE ok hsp a h) fun env => by (rw [exS]; first | done | rfl)
  | .ifs c a b, h => by
    rw [okS] at h
    rw [denS]
    exact sndS_if (sndC ok hsp c h.1) (sndSs a h.2.1) (sndSs b h.2.2) fun env => by (rw [exS]; first | done | rfl)
  | .fors tg one it b, h => by
    rw [okS] at h
    rw [denS]
    exact sndS_for (sndI ok hsp it h.1) (sndSs b h.2) fun env => by (rw [exS]; first | done | rfl)
  | .whiles c b, h => by
    rw [okS] at h
    rw [denS]
    exact sndS_while (wf := wf) (sndC ok hsp c h.1) (sndSs b h.2) fun env => by (rw [exS]; first | done | rfl)
  | .ret a, h => by
    rw [okS] at h
    rw [denS]
    by_cases hv : ∃ i, a = .var i
    · obtain ⟨i, rfl⟩ := hv
      rw [denE]
      exact sndS_retv fun env => by (rw [exS]; first | done | rfl)
    · refine sndS_ret (sndE (keep := keep) ok hsp a h) fun env => ?_
      rw [exS]
      exact fun i z => hv ⟨i, z⟩
  | .retn, h => by rw [denS]; exact sndS_retn fun env => by rw [exS]
  | .expr a, h => by
    rw [okS] at h
    rw [denS]
    exact sndS_expr (sndE ok hsp a h) fun env => by (rw [exS]; first | done | rfl)
  | .pass, h => by rw [denS]; exact sndS_pass fun env => by rw [exS]
  | .brk, h => by rw [denS]; exact sndS_brk fun env => by rw [exS]
  | .cont, h => by rw [denS]; exact sndS_cont fun env => by rw [exS]
  | .rais c as, h => by
    rw [denS]
    refine sndS_never fun env fl e' z => ?_
    rw [exS] at z
    obtain ⟨ds, e1, _, z⟩ := bind_ok z
    cases z
theorem sndSs : ∀ s : Sms, okSs dn.g.fa s → SndS dn.g keep (denSs dn s) (exSs pg cf keep wf s)
  | .nil, h => by rw [denSs]; exact sndS_pass fun env => by rw [exSs]
  | .cons s r, h => by
    rw [okSs] at h
    rw [denSs]
    exact sndS_seq (sndSm s h.1) (sndSs r h.2) fun env => by (rw [exSs]; first | done | rfl)
end
end
/-! ### a def's body -/
theorem entry_get {rs : List Rv} {n i : Nat} {r : Rv} : getS (rs.map some ++ List.replicate n none) i = some r ↔ rs[i]? = some r := by
  unfold getS
  by_cases hi : i < rs.length
  · rw [List.getElem?_append_left (by simpa using hi), List.getElem?_map, List.getElem?_eq_getElem hi]
    simp
  · rw [List.getElem?_append_right (by simpa using hi), List.getElem?_eq_none (l := rs) (by omega), List.getElem?_replicate]
    split <;> simp
theorem start_get {N : List Str} {vs : List V} {i : Nat} {v : V} : (L2.start N vs)[i]? = some (some v) ↔ vs[i]? = some v := by
  unfold L2.start
  by_cases hi : i < vs.length
  · rw [List.getElem?_append_left (by simpa using hi), List.getElem?_map, List.getElem?_eq_getElem hi]
    simp
  · rw [List.getElem?_append_right (by simpa using hi), List.getElem?_eq_none (l := vs) (by omega), List.getElem?_replicate]
    split <;> simp
theorem rel_start {g : Gx} {F : Addr → Prop} {H : Hp} {rs : List Rv} {vs : List V} {N : List Str} {nn np : Nat} (A : ArgsOk g F H rs vs) (hn : N.length = nn) (hl : rs.length = np) (hle : np ≤ nn) :
    Rel g F H (rs.map some ++ List.replicate (nn - np) none) (L2.start N vs) := by
  have hl2 := A.len
  refine ⟨?_, fun i r h => ?_, fun i j d d' a h1 h2 h3 h4 => ?_, A.trk⟩
  · unfold L2.start
    simp
    omega
  · have h := entry_get.mp h
    have hi : i < vs.length := by
      have := (List.getElem?_eq_some_iff.mp h).1
      omega
    exact ⟨vs[i], start_get.mpr (List.getElem?_eq_getElem hi), A.item i r _ h (List.getElem?_eq_getElem hi)⟩
  · exact A.inj i j d d' a (entry_get.mp h1) (entry_get.mp h2) (start_get.mp h3) (start_get.mp h4)
theorem own_start {rs : List Rv} {vs : List V} {N : List Str} {n : Nat} {a : Addr} : OwnAt (rs.map some ++ List.replicate n none) (L2.start N vs) a ↔ OwnArg rs vs a := by
  constructor
  · rintro ⟨i, d, h1, h2⟩
    exact ⟨i, d, entry_get.mp h1, start_get.mp h2⟩
  · rintro ⟨i, d, h1, h2⟩
    exact ⟨i, d, entry_get.mpr h1, start_get.mpr h2⟩
/-- what is wanted behind a call, at the bound parameters -/
def Back (g : Gx) (keep : Nat) (F : Addr → Prop) (H : Hp) (rs : List Rv) (vs : List V) (r : Rv) (outs : List Slot) (Q : VK) : Prop := ∀ F' H' v, Ext (OwnArg rs vs) F H F' H' → (∀ a, F' a → H' a ≠ none) → Sl g F' H' r v →
    (r.1 = true → ∃ a, v = .ref a ∧ (H a = none ∨ ∃ (j : Nat) (d : D), keep ≤ j ∧ rs[j]? = some (true, d) ∧ vs[j]? = some (.ref a))) →
    (∀ (j : Nat) (d : D) (a : Addr), j < keep → rs[j]? = some (true, d) → vs[j]? = some (.ref a) → ∃ r', outs[j]? = some (some r') ∧ Sl g F' H' r' (.ref a) ∧ (r'.1 = true ∨ F' a)) → Q v H'
theorem body_ok {pg : Pg} {cf : Nat → List Rv → COut} {wf : Nat} {dn : Dn} (ok : Gok pg dn) (hsp : ∀ f, dn.sp f = spOf dn.g cf pg.keeps f) {d : Fd} {N : List Str} (hN : N.length = d.nn) (hle : d.np ≤ d.nn) (hkp : d.keep ≤ d.np) (hok : okSs dn.g.fa d.body)
    {F : Addr → Prop} {H : Hp} {rs : List Rv} {vs : List V} {fl : Flow'} {e : Ev} {Q : VK} {r : Rv} (A : ArgsOk dn.g F H rs vs) (hl : rs.length = d.np)
    (he : exSs pg cf d.keep wf d.body (rs.map some ++ List.replicate (d.nn - d.np) none) = .ok fl e) (hf : fl = .ret r ∨ (fl = .nx ∧ r = fz .non)) (q : Back dn.g d.keep F H rs vs r (e.take d.np) Q) :
    denSs dn d.body { nx := fun _ H' => Q .non H', rt := Q } (L2.start N vs) H := by
  have R := rel_start (N := N) A hN hl hle
  refine sndSs ok hsp d.body hok F H _ _ _ fl e R he fun F' H' σ' s => ?_
  have x : Ext (OwnArg rs vs) F H F' H' := s.ext.wider fun a h => .inl (own_start.mp h)
  have outs : ∀ (j : Nat) (d1 : D) (a : Addr), j < d.keep → rs[j]? = some (true, d1) → vs[j]? = some (.ref a) → ∃ r', (e.take d.np)[j]? = some (some r') ∧ Sl dn.g F' H' r' (.ref a) ∧ (r'.1 = true ∨ F' a) := by
    intro j d1 a hj h1 h2
    have g0 : getS (rs.map some ++ List.replicate (d.nn - d.np) none) j = some (true, d1) := entry_get.mpr h1
    have k0 : (L2.start N vs)[j]? = some (some (.ref a)) := start_get.mpr h2
    obtain ⟨r', hr'⟩ := s.live j _ hj g0
    have k1 := s.kept j hj
    obtain ⟨v, ev, sl⟩ := s.rel.slot j r' hr'
    rw [k1, k0] at ev
    cases ev
    refine ⟨r', ?_, sl, ?_⟩
    · have hlt := getS_lt hr'
      rw [List.getElem?_take_of_lt (by omega), List.getElem?_eq_getElem hlt]
      unfold getS at hr'
      rw [List.getElem?_eq_getElem hlt] at hr'
      exact congrArg some hr'
    · rcases s.ownk j d1 a hj g0 k0 with ⟨d2, z⟩ | z
      · rw [hr'] at z; cases z
        exact .inl rfl
      · exact .inr z
  rcases hf with rfl | ⟨rfl, rfl⟩
  · intro v sl fr
    refine q F' H' v x s.rel.trk sl (fun z => ?_) outs
    rcases fr z with ⟨a, ea, na⟩ | ⟨i, a, hi, ea, h1, h2⟩
    · exact ⟨a, ea, .inl na⟩
    · refine ⟨a, ea, ?_⟩
      rcases s.sub a ⟨i, _, h1, h2⟩ with y | y
      · obtain ⟨j, d1, h3, h4⟩ := own_start.mp y
        by_cases hj : j < d.keep
        · exfalso
          have g0 : getS (rs.map some ++ List.replicate (d.nn - d.np) none) j = some (true, d1) := entry_get.mpr h3
          have k0 : (L2.start N vs)[j]? = some (some (.ref a)) := start_get.mpr h4
          rcases s.ownk j d1 a hj g0 k0 with ⟨d2, w⟩ | w
          · have e1 := s.rel.inj i j _ d2 a h1 w h2 (by rw [s.kept j hj]; exact k0)
            omega
          · exact (s.rel.wk a ⟨i, _, h1, h2⟩).1 w
        · exact .inr ⟨j, d1, by omega, h3, h4⟩
      · exact .inl y
  · exact q F' H' .non x s.rel.trk (sl_fz.mpr fr_non) (fun z => by cases z) outs
end Ev
/-! Ru1: rules over the layer that the readings want: operators, comparisons, items. -/
namespace Ev
open PySem PySem.Spec PyProof.Rows L2 RZ StX
section
variable {X : Cx}
theorem PE.imp {e : Expr} {t t' : TE} (h : PE X e t) (m : ∀ σ H Q, t' σ H Q → t σ H Q) : PE X e t' := ⟨fun pins s σ H Q I q => h.run pins s σ H Q I (m _ _ _ q)⟩
theorem PT.imp {e : Expr} {t t' : TT} (h : PT X e t) (m : ∀ σ H Q, t' σ H Q → t σ H Q) : PT X e t' := ⟨fun pins s σ H Q I q => h.run pins s σ H Q I (m _ _ _ q)⟩
theorem PA.imp {e : List Expr} {t t' : TA} (h : PA X e t) (m : ∀ σ H Q, t' σ H Q → t σ H Q) : PA X e t' := ⟨fun pos pins s σ H Q I q => h.run pos pins s σ H Q I (m _ _ _ q)⟩
theorem PS.imp {e : Stmt} {t t' : TS} (h : PS X e t) (m : ∀ D σ H, t' D σ H → t D σ H) : PS X e t' := ⟨fun pins s σ H D I q => h.run pins s σ H D I (m _ _ _ q)⟩
def opOf : BOp → Operator
  | .add => .Add
  | .sub => .Sub
  | .mul => .Mult
  | .fdiv => .FloorDiv
  | .mod => .Mod
  | .pow => .Pow
theorem op_bin (o : BOp) : OpR X (binaryOp (opOf o)) (rBin X.K o) := by
  cases o with
  | add => exact op_add.or (op_add_str.or (op_cat.or op_catA))
  | sub => exact op_sub
  | mul => exact op_mul.or op_rep
  | fdiv => exact op_fdiv
  | mod => exact op_mod
  | pow => exact op_pow
def cmpOf : COp → CmpOp
  | .lt => .Lt
  | .le => .LtE
  | .gt => .Gt
  | .ge => .GtE
  | .eq => .Eq
  | .ne => .NotEq
  | .isin => .In
  | .notin => .NotIn
theorem op_le_str : OpR X (compareOp .LtE) rLeStr := by
  intro pins s σ H x y v u Q I rx ry h
  obtain ⟨i, j, rfl, rfl, q⟩ := h
  obtain ⟨t, rfl⟩ := rx
  obtain ⟨t', rfl⟩ := ry
  exact PySem.P.le_str ⟨.bl _, H, I, rfl, q⟩
theorem op_din (hu : X.A.units + 1 < cLine) : OpR X (compareOp .In) (rDIn false) := by
  intro pins s σ H x y v u Q I rx ry h
  obtain ⟨a, o, rfl, g, q⟩ := h
  cases (show u = Value.ref a from ry)
  exact d_in hu I g rx fun s' I' => ⟨.bl _, H, I', rfl, q⟩
theorem op_dnin (hu : X.A.units + 1 < cLine) : OpR X (compareOp .NotIn) (rDIn true) := by
  intro pins s σ H x y v u Q I rx ry h
  obtain ⟨a, o, rfl, g, q⟩ := h
  cases (show u = Value.ref a from ry)
  exact d_notIn hu I g rx fun s' I' => ⟨.bl _, H, I', rfl, q⟩
theorem empties {xs ys : List V} {us ws : List Value} (r1 : Vals xs us) (r2 : Vals ys ws) (h : xs = [] ∨ ys = []) : (us.toArray.size = ws.toArray.size ∧ us = [] ∧ ws = [] ∧ (xs.isEmpty && ys.isEmpty) = true) ∨ ((us.toArray.size != ws.toArray.size) = true ∧ (us.toArray.size == ws.toArray.size) = false ∧ (xs.isEmpty && ys.isEmpty) = false) := by
  have l1 := r1.length
  have l2 := r2.length
  cases xs <;> cases ys <;> cases us <;> cases ws <;> simp_all
theorem op_eq0 (hu : X.A.units < cLine) : OpR X (compareOp .Eq) (rEq0 X.K false) := by
  intro pins s σ H x y v u Q I rx ry h
  obtain ⟨a, b, xs, ys, rfl, rfl, hs, he, q⟩ := h
  cases (show v = Value.ref a from rx)
  cases (show u = Value.ref b from ry)
  rcases hs with ⟨h1, h2⟩ | ⟨h1, h2⟩
  · obtain ⟨us, r1, p1, _⟩ := I.list h1
    obtain ⟨ws, r2, p2, _⟩ := I.list h2
    rcases empties r1 r2 he with ⟨e, rfl, rfl, z⟩ | ⟨e, _, z⟩
    · refine SeqAt.eq_listAt (e := fun _ => true) p1.isList p2.isList e hu (fun j h1 _ => absurd h1 (by simp)) ?_
      exact ⟨.bl true, H, I, rfl, by rw [z] at q; exact q⟩
    · exact SeqAt.eq_list_lengthsAt p1.isList p2.isList e hu ⟨.bl false, H, I, rfl, by rw [z] at q; exact q⟩
  · obtain ⟨us, r1, p1, _⟩ := I.tuple h1
    obtain ⟨ws, r2, p2, _⟩ := I.tuple h2
    refine SeqAt.eq_tupleAt (e := fun _ => true) p1 p2 hu (fun j h1 h2 => ?_) ?_
    · rcases empties r1 r2 he with ⟨e, rfl, rfl, z⟩ | ⟨e, _, z⟩
      · exact absurd h1 (by simp)
      · exfalso
        have l1 := r1.length
        have l2 := r2.length
        have k1 : j < us.length := by simpa using h1
        have k2 : j < ws.length := by simpa using h2
        rcases he with z1 | z1
        · rw [z1, List.length_nil] at l1; omega
        · rw [z1, List.length_nil] at l2; omega
    · rcases empties r1 r2 he with ⟨e, rfl, rfl, z⟩ | ⟨_, e, z⟩
      · exact ⟨.bl true, H, I, rfl, by rw [z] at q; exact q⟩
      · rw [e, Bool.and_false]
        exact ⟨.bl false, H, I, rfl, by rw [z] at q; exact q⟩
theorem op_ne0 (hu : X.A.units < cLine) : OpR X (compareOp .NotEq) (rEq0 X.K true) := by
  intro pins s σ H x y v u Q I rx ry h
  obtain ⟨a, b, xs, ys, rfl, rfl, hs, he, q⟩ := h
  cases (show v = Value.ref a from rx)
  cases (show u = Value.ref b from ry)
  rcases hs with ⟨h1, h2⟩ | ⟨h1, h2⟩
  · obtain ⟨us, r1, p1, _⟩ := I.list h1
    obtain ⟨ws, r2, p2, _⟩ := I.list h2
    rcases empties r1 r2 he with ⟨e, rfl, rfl, z⟩ | ⟨e, _, z⟩
    · refine SeqAt.RcNeAt.lists (e := fun _ => true) p1.isList p2.isList e hu (fun j h1 _ => absurd h1 (by simp)) _ _ _ _ ?_
      exact ⟨.bl false, H, I, rfl, by rw [z] at q; exact q⟩
    · exact SeqAt.RcNeAt.lists_lengths p1.isList p2.isList e hu _ _ _ _ ⟨.bl true, H, I, rfl, by rw [z] at q; exact q⟩
  · obtain ⟨us, r1, p1, _⟩ := I.tuple h1
    obtain ⟨ws, r2, p2, _⟩ := I.tuple h2
    refine SeqAt.RcNeAt.tuples (e := fun _ => true) p1 p2 hu (fun j h1 h2 => ?_) _ _ _ _ ?_
    · rcases empties r1 r2 he with ⟨e, rfl, rfl, z⟩ | ⟨e, _, z⟩
      · exact absurd h1 (by simp)
      · exfalso
        have l1 := r1.length
        have l2 := r2.length
        have k1 : j < us.length := by simpa using h1
        have k2 : j < ws.length := by simpa using h2
        rcases he with z1 | z1
        · rw [z1, List.length_nil] at l1; omega
        · rw [z1, List.length_nil] at l2; omega
    · rcases empties r1 r2 he with ⟨e, rfl, rfl, z⟩ | ⟨_, e, z⟩
      · exact ⟨.bl false, H, I, rfl, by rw [z] at q; exact q⟩
      · rw [e, Bool.and_false]
        exact ⟨.bl true, H, I, rfl, by rw [z] at q; exact q⟩
theorem op_cmp (hu : X.A.units + 65 < cLine) (o : COp) : OpR X (compareOp (cmpOf o)) (rCmp X.K o) := by
  cases o with
  | lt => exact op_lt
  | le => exact op_le.or op_le_str
  | gt => exact op_gt
  | ge => exact op_ge
  | eq => exact op_eq.or ((op_eq0 (by omega)).or (op_eqD (by omega)))
  | ne => exact op_ne.or ((op_ne0 (by omega)).or (op_neD (by omega)))
  | isin => exact op_in_seq.or ((op_din (by omega)).or (op_in_str.or (op_inD (by omega))))
  | notin => exact op_notIn_seq.or ((op_dnin (by omega)).or (op_notin_str.or (op_notInD (by omega))))
theorem ix_dget (hu : X.A.units + 1 < cLine) : IxR X rDGet' := by
  intro value slice pins s σ H x y v u Q I rx ry h hs
  obtain ⟨a, w, rfl, g, q⟩ := h
  cases (show v = Value.ref a from rx)
  exact tail_any (dict_typeIs I g) slot_dict_getitem.lookup (d_getItem hu I g ry fun w' s' I' r => ⟨w, H, I', r, q⟩) hs
theorem ix_all (hu : X.A.units + 1 < cLine) : IxR X (rIdx X.K) := ix_seq.or (ix_dget hu)
end
end Ev
/-! Ru2: slices by twos, built-ins of one argument. -/
namespace Ev
open PySem PySem.Spec PyProof.Rows L2 RZ StX
theorem evens_map {α β : Type} (f : α → β) : ∀ xs : List α, evens (xs.map f) = (evens xs).map f
  | [] => rfl
  | [_] => rfl
  | x :: _ :: r => by
    show f x :: evens (r.map f) = f x :: (evens r).map f
    rw [evens_map f r]
theorem evens_vals : ∀ {xs : List V} {us : List Value}, Vals xs us → Vals (evens xs) (evens us)
  | [], _, .nil => .nil
  | [_], _, .cons a .nil => .cons a .nil
  | _ :: _ :: _, _, .cons a (.cons _ r) => .cons a (evens_vals r)
theorem evens_pick : ∀ l : List Value, (List.range ((l.length + 1) / 2)).filterMap (fun k => l[2 * k]?) = evens l
  | [] => rfl
  | [x] => by simp [evens, List.range_succ]
  | x :: y :: r => by
    have e : ((x :: y :: r).length + 1) / 2 = (r.length + 1) / 2 + 1 := by simp only [List.length_cons]; omega
    rw [e, List.range_succ_eq_map, List.filterMap_cons]
    have h0 : (x :: y :: r)[2 * 0]? = some x := rfl
    rw [h0]
    show x :: _ = x :: evens r
    rw [← evens_pick r, List.filterMap_map]
    congr 1
theorem pick_step (items : Array Value) (a : Nat) (n : Nat) (hn : n = items.size) (ha : a ≤ n) : ((sliceRange (a : Int) (n : Int) 2).filterMap (items[·]?)) = evens (items.toList.drop a) := by
  have e : sliceRange (a : Int) (n : Int) 2 = (List.range ((n - a + 1) / 2)).map fun k => a + 2 * k := by
    unfold sliceRange
    simp only [show (2 : Int) > 0 from by decide, if_true]
    by_cases h : (a : Int) < (n : Int)
    · simp only [h, if_true]
      have e2 : (((n : Int) - (a : Int) + 2 - 1) / 2).toNat = (n - a + 1) / 2 := by omega
      rw [e2]
      apply List.map_congr_left
      intro k _
      omega
    · have e3 : n - a = 0 := by omega
      simp only [h, if_false, e3]
      rfl
  rw [e, List.filterMap_map, ← evens_pick]
  have hl : (items.toList.drop a).length = n - a := by rw [List.length_drop, Array.length_toList, hn]
  rw [hl]
  congr 1
  funext k
  simp [List.getElem?_drop]
theorem pick_even (items : Array Value) : slicePick items none none (some 2) = (evens items.toList).toArray := by
  unfold slicePick
  have e : sliceBounds none none (some 2) items.size = (((0 : Nat) : Int), (items.size : Int), 2) := rfl
  rw [e]
  show ((sliceRange ((0 : Nat) : Int) (items.size : Int) 2).filterMap (items[·]?)).toArray = _
  rw [pick_step items 0 items.size rfl (Nat.zero_le _), List.drop_zero]
theorem pick_odd (items : Array Value) : slicePick items (some 1) none (some 2) = (evens (items.toList.drop 1)).toArray := by
  unfold slicePick
  have e : sliceBounds (some 1) none (some 2) items.size = (((min 1 items.size : Nat) : Int), (items.size : Int), 2) := by
    unfold sliceBounds
    simp
    omega
  rw [e]
  show ((sliceRange ((min 1 items.size : Nat) : Int) (items.size : Int) 2).filterMap (items[·]?)).toArray = _
  rw [pick_step items (min 1 items.size) items.size rfl (Nat.min_le_right _ _)]
  by_cases h : items.size = 0
  · have h2 : items.toList = [] := List.eq_nil_of_length_eq_zero (by rw [Array.length_toList, h])
    rw [h2]
    simp
  · rw [show min 1 items.size = 1 by omega]
theorem evens_length_le {α : Type} : ∀ l : List α, (evens l).length ≤ l.length
  | [] => Nat.le_refl _
  | [_] => Nat.le_refl _
  | x :: _ :: r => by
    have := evens_length_le r
    show (evens r).length + 1 ≤ r.length + 1 + 1
    omega
section
variable {X : Cx}
theorem pe_evn {e : Expr} {lo : Option Expr} {te : TE} {tl : TO} {k : Nat} {p1 p3 pos : Pos} (he : PE X e te) (hl : PO X lo tl) : PE X (.Subscript e (.Slice lo none (some (.Constant (.int 2) k p1)) p3) pos) (tEvn X.K te tl) := by
  refine ⟨fun pins s σ H Q I h => ?_⟩
  refine Subscript_ (thn (he.run pins s σ H _ I h) fun v s1 ⟨x, H1, I1, r1, q1⟩ => ?_)
  have hst : PO X (some (.Constant (.int 2) k p1)) (tPart (tC (.int 2))) := po_some pe_int
  refine wpAny_Slice (thn (hl.run pins s1 σ H1 _ I1 q1) fun vl s2 ⟨l, H2, I2, pl, q2⟩ => ?_)
  obtain ⟨a, xs, ex, hx, q⟩ := q2
  subst ex
  cases r1
  refine thn (po_none.run pins s2 σ H2 (fun o H3 => o = none ∧ H3 = H2) I2 ⟨rfl, rfl⟩) fun vu s3 ⟨u, H3, I3, pu, eu, e3⟩ => ?_
  subst eu e3
  refine thn (hst.run pins s3 σ H3 (fun o H4 => o = some 2 ∧ H4 = H3) I3 ⟨2, rfl, rfl, rfl⟩) fun vs s4 ⟨o, H4, I4, ps, eo, e4⟩ => ?_
  subst eo e4
  have I5 : Inv X pins σ H4 { s4 with heap := s4.heap.push { cls := .type "slice", data := .fields #[vl, vu, vs] } } := I4.kept (t' := s4.toks) fun b ob q => Heap.get?_push_of_some _ q
  obtain ⟨its, r, ht, hz⟩ := I5.list hx
  have hlen := r.length
  show wpAny (model X.prog X.w) X.A (subscriptTail e (.Slice lo none (some (.Constant (.int 2) k p1)) p3) (.ref a) (.ref s4.heap.objs.size)) (EP X pins σ Q) X.xe { s4 with heap := s4.heap.push { cls := .type "slice", data := .fields #[vl, vu, vs] } }
  refine tail_any (ops := [.ref a, .ref s4.heap.objs.size]) ht.isList.typeIs (PySem.slot_list_getitem.lookup) ?_ (by with_unfolding_all rfl)
  refine wpAny_getItem_list_slice ht.isList (Heap.IsSliceOf.new _ vl vu vs) pl pu ps (by decide) ?_ (by rw [List.size_toArray]; omega)
  have fin : ∀ (ys : List V) (ws : List Value), Vals ys ws → ys.length ≤ sizeLine → (∀ p, H4 p = none → Q (.ref p) (upd H4 p (.lst ys))) → ∀ z : Array Value, z = ws.toArray → EP X pins σ Q (.ref (s4.heap.push { cls := .type "slice", data := .fields #[vl, vu, vs] }).objs.size) { s4 with heap := (s4.heap.push { cls := .type "slice", data := .fields #[vl, vu, vs] }).push { cls := .type "list", data := .seq z } } := by
    intro ys ws rr hle hq z ez
    subst ez
    refine ⟨.ref _, _, I5.laid (t' := s4.toks) (o := .lst ys) (fun b ob q => Heap.get?_push_of_some _ q) (Nat.le_refl _) ?_, rfl, hq _ (I5.hok.fresh (Nat.le_refl _))⟩
    exact ⟨hle, ws, 0, rr, Heap.get?_push_size _ rfl⟩
  rcases q with ⟨rfl, q⟩ | ⟨rfl, q⟩
  · exact fin (evens xs) (evens its) (evens_vals r) (Nat.le_trans (evens_length_le _) hz) q _ (pick_even its.toArray)
  · refine fin (evens (xs.drop 1)) (evens (its.drop 1)) (evens_vals ?_) (Nat.le_trans (evens_length_le _) (by rw [List.length_drop]; omega)) q _ (pick_odd its.toArray)
    cases r with
    | nil => exact .nil
    | cons _ r => exact r
theorem call_lenD : CallR X (.builtin "len") (rLenAll X.K) := by
  intro pins s σ H xs us Q I r h
  rcases h with h | ⟨a, kvs, rfl, hd, q⟩
  · exact call_len pins s σ H xs us Q I r h
  · rw [Vals.ref1 r]
    exact d_len I hd fun t s' I' => ⟨.int _, H, I', ⟨_, rfl⟩, q⟩
theorem call_lst (hc : X.calm = true) : CallR X (.type "list") (rLst X.K) := by
  intro pins s σ H xs us Q I r h
  rcases h with h | h
  · exact call_list_of pins s σ H xs us Q I r h
  · exact call_listD hc pins s σ H xs us Q I r h
theorem call_repr (hg : X.A.guards = some []) (hu : X.A.units + 100 < cLine) : CallR X (.builtin "repr") (rRepr X.K) := by
  intro pins s σ H xs us Q I r h
  rcases h with ⟨t, rfl, hz, q⟩ | ⟨i, rfl, hz, q⟩ | ⟨b, rfl, q⟩ | ⟨rfl, q⟩ | h | ⟨g, F, d, x, a, rfl, rfl, hK, hb, hp, hs, hz, h64, q⟩
  · obtain ⟨u, rfl, t, rfl⟩ := vals1 r
    exact PySem.P.repr_of_str ⟨.str _, H, I.tok _, ⟨_, rfl⟩, q⟩ hz
  · obtain ⟨u, rfl, t, rfl⟩ := vals1 r
    exact PySem.P.repr_of_int hz ⟨.str _, H, I.tok _, ⟨_, rfl⟩, q⟩
  · obtain ⟨u, rfl, t⟩ := vals1 r
    cases t
    cases b <;> exact PySem.P.repr_of_bool ⟨.str _, H, I.tok _, ⟨_, rfl⟩, q⟩
  · obtain ⟨u, rfl, t⟩ := vals1 r
    cases t
    exact PySem.P.repr_of_none ⟨.str _, H, I.tok _, ⟨_, rfl⟩, q⟩
  · obtain ⟨x, a, d, rfl, rfl, hd, hs, hD, hz, h64, q⟩ := h
    rw [Vals.ref1 r]
    obtain ⟨as, rd⟩ := Dp.reads I d (.ref a) (.ref a) hd rfl
    exact repr_of_reads' rd hs (PyData.noDict_hsm hD) hg (by omega) (fun _ _ e => e) (fun h' u tk hk => ⟨.str _, H, I.kept (t' := tk) hk, ⟨_, rfl⟩, q⟩) hz
  · rw [Vals.ref1 r]
    exact repr_rz (Bor.rz I hK hb hp rfl) hs hz hg (by omega) fun h' u tk hk => ⟨.str _, H, I.kept (t' := tk) hk, ⟨_, rfl⟩, q⟩
end
end Ev
/-! Ru3: sorted of rows that begin with unlike texts. -/
namespace Ev
open PySem PySem.Spec PyProof.Rows L2 RZ StX
section
variable {prog : Program} {w : World} {A : Around} {s : Shared}
theorem kat_self {b fin : Bool} {Q : Bool → Shared → Prop} (h : Q fin s) : ∀ (l : List Value) (i : Nat), PySem.W.KatLex prog w A b fin Q (l.zip l) i s
  | [], i => PySem.W.kat_nil h
  | v :: l, i => PySem.W.kat_cons (SeqAt.EqAt.same v prog w _ _ (PySem.W.kat_yes (kat_self h l (i + 1))))
theorem cps_flip {x y : Str} (h : x ≠ y) : decide (x.cps.toList < y.cps.toList) = !decide (y.cps.toList < x.cps.toList) := by
  by_cases h1 : y.cps.toList < x.cps.toList
  · have h2 : ¬ x.cps.toList < y.cps.toList := List.lt_asymm h1
    simp [h1, h2]
  · have h2 : x.cps.toList < y.cps.toList := by
      by_cases h2 : x.cps.toList < y.cps.toList
      · exact h2
      · exfalso
        have e := List.le_antisymm (as := x.cps.toList) (bs := y.cps.toList) h1 h2
        apply h
        cases x; cases y
        simp only at e
        congr
        exact Array.toList_inj.mp e
    simp [h1, h2]
/-- a row that begins with a text -/
def IsRow (h : Heap) (v : Value) (x : Str) : Prop := ∃ (a : Addr) (o : Obj) (t : Tok) (r : List Value) (n : Nat), v = .ref a ∧ h.get? a = some o ∧ o.cls = .type "tuple" ∧ o.data = .seq (.str x t :: r).toArray n
theorem row_lt {v u : Value} {x y : Str} {Q : Bool → Shared → Prop} {E : Value → Shared → Prop} (hv : IsRow s.heap v x) (hw : IsRow s.heap u y) (hne : x ≠ y) (h : Q (decide (x.cps.toList < y.cps.toList)) s) : wpAny (model prog w) A (keyLt' (tuples' true) v u) Q E s := by
  obtain ⟨a, o, t, r, n, rfl, ho, hc, hd⟩ := hv
  obtain ⟨b, o2, t2, r2, n2, rfl, ho2, hc2, hd2⟩ := hw
  refine PySem.W.kat_lt ho hd ho2 hd2 ?_
  show PySem.W.KatLex prog w A true _ Q ((.str x t, .str y t2) :: r.zip r2) 0 s
  refine PySem.W.kat_cons (SeqAt.EqAt.str_str x t y t2 prog w _ _ ?_)
  have e : (x == y) = false := beq_eq_false_iff_ne.mpr hne
  rw [e]
  exact PySem.W.kat_no (oneLt_str h)
theorem row_self {v : Value} {x : Str} {Q : Bool → Shared → Prop} {E : Value → Shared → Prop} (hv : IsRow s.heap v x) (h : Q false s) : wpAny (model prog w) A (keyLt' (tuples' true) v v) Q E s := by
  obtain ⟨a, o, t, r, n, rfl, ho, hc, hd⟩ := hv
  refine PySem.W.kat_lt ho hd ho hd ?_
  refine kat_self ?_ _ _
  rw [decide_eq_false (Nat.lt_irrefl _)]
  exact h
theorem IsRow.keeps {h h' : Heap} {v : Value} {x : Str} (r : IsRow h v x) (k : ∀ b o, h.get? b = some o → o.cls = .type "tuple" → h'.get? b = some o) : IsRow h' v x := by
  obtain ⟨a, o, t, r, n, e, ho, hc, hd⟩ := r
  exact ⟨a, o, t, r, n, e, k a o ho hc, hc, hd⟩
/-- by the place of two rows: f says that the second goes ahead -/
def kf2 (b : Addr) (f : Bool) (v : Value) : Int := if v = .ref b then (if f then 1 else 0) else (if f then 0 else 1)
def ltv2 (b : Addr) (f : Bool) (v u : Value) : Bool := decide (kf2 b f v < kf2 b f u)
theorem kf2_b {b : Addr} {f : Bool} : kf2 b f (.ref b) = if f then 1 else 0 := by unfold kf2; rw [if_pos rfl]
theorem kf2_c {b c : Addr} {f : Bool} (h : b ≠ c) : kf2 b f (.ref c) = if f then 0 else 1 := by unfold kf2; rw [if_neg (fun z => h (by cases z; rfl))]
theorem swo2 {b : Addr} {f : Bool} : SrtO.Swo (ltv2 b f) := by
  refine ⟨fun u v z => ?_, fun u v t z1 z2 => ?_⟩
  · have z := of_decide_eq_true z
    exact decide_eq_false (by omega)
  · have z1 := of_decide_eq_false z1
    have z2 := of_decide_eq_false z2
    exact decide_eq_false (by omega)
theorem perm_short {α : Type} {l m : List α} (p : l.Perm m) (h : m.length ≤ 1) : l = m := by
  match m, h with
  | [], _ => exact List.perm_nil.mp p
  | [v], _ => exact List.perm_singleton.mp p
  | _ :: _ :: _, hl => exact absurd hl (by simp only [List.length_cons]; omega)
theorem perm_two {α : Type} {out : List α} {u v : α} (p : out.Perm [u, v]) : out = [u, v] ∨ out = [v, u] := by
  match out, p with
  | [], p => exact absurd p.length_eq (by simp)
  | [_], p => exact absurd p.length_eq (by simp)
  | [x, y], p =>
    have hu : x = u ∨ x = v := by simpa using p.mem_iff.mp (List.mem_cons_self ..)
    rcases hu with rfl | rfl
    · have p2 := List.Perm.cons_inv p
      rw [List.perm_singleton.mp p2]
      exact .inl rfl
    · have p2 := List.Perm.cons_inv (p.trans (List.Perm.swap _ _ _))
      rw [List.perm_singleton.mp p2]
      exact .inr rfl
  | _ :: _ :: _ :: _, p => exact absurd p.length_eq (by simp)
open SrtO in
theorem rows_sortable {a : Addr} {b c : Addr} {x y : Str} (hne : x ≠ y) (hbc : b ≠ c) (hb : IsRow s.heap (.ref b) x) (hc : IsRow s.heap (.ref c) y) (ha : ∀ o, s.heap.get? a = some o → o.cls ≠ .type "tuple") :
    SortableO prog w A s a [.ref b, .ref c] (ltv2 b (decide (y.cps.toList < x.cps.toList))) := by
  intro h' keep
  have kk : ∀ b o, s.heap.get? b = some o → o.cls = .type "tuple" → h'.get? b = some o := fun b o e c => keep b o (fun z => by subst z; exact ha o e c) e
  have hb' := hb.keeps kk
  have hc' := hc.keeps kk
  refine ⟨tuples' true, fun Q E hq => ?_, fun p q hp hq => ?_⟩
  · obtain ⟨b1, o, t, r, n, e1, ho, hoc, hd⟩ := hb'
    cases e1
    obtain ⟨c1, o2, t2, r2, n2, e2, ho2, hoc2, hd2⟩ := hc'
    cases e2
    refine PySem.W.kat_kind (s := { s with heap := h' }) (T := .type "str") (fs := [.str x t, .str y t2]) (PySem.W.KatTups.cons ho hoc hd rfl (PySem.W.KatTups.cons ho2 hoc2 hd2 rfl PySem.W.KatTups.nil)) (by simp) (fun f hm => ?_) (by rfl) ?_
    · simp only [List.mem_cons, List.not_mem_nil, or_false] at hm
      rcases hm with rfl | rfl
      · exact PySem.W.Looks.now
      · exact PySem.W.Looks.now
    · have e : (Value.type "str" != Value.type "tuple") = true := by first | decide +kernel | rfl | decide
      rw [e]
      exact hq
  · have hp : p.1 = .ref b ∨ p.1 = .ref c := by simpa using hp
    have hq : q.1 = .ref b ∨ q.1 = .ref c := by simpa using hq
    have fl := cps_flip hne
    have lb : kf2 b (decide (y.cps.toList < x.cps.toList)) (.ref b) = if decide (y.cps.toList < x.cps.toList) then 1 else 0 := kf2_b
    have lc : kf2 b (decide (y.cps.toList < x.cps.toList)) (.ref c) = if decide (y.cps.toList < x.cps.toList) then 0 else 1 := kf2_c hbc
    have go : ∀ (k l : Int) (f : Bool), kf2 b (decide (y.cps.toList < x.cps.toList)) p.1 = k → kf2 b (decide (y.cps.toList < x.cps.toList)) q.1 = l → f = decide (k < l) → f = lt2 (ltv2 b (decide (y.cps.toList < x.cps.toList))) p q := by
      intro k l f e1 e2 e3
      show f = decide (_ < _)
      rw [e1, e2]
      exact e3
    rcases hp with e1 | e1 <;> rcases hq with e2 | e2 <;> rw [e1, e2]
    · exact row_self (s := { s with heap := h' }) hb' ⟨rfl, go _ _ _ (by rw [e1]) (by rw [e2]) (decide_eq_false (Int.lt_irrefl _)).symm⟩
    · refine row_lt (s := { s with heap := h' }) hb' hc' hne ⟨rfl, go _ _ _ (by rw [e1]) (by rw [e2]) ?_⟩
      rw [lb, lc]
      rw [fl]
      cases decide (y.cps.toList < x.cps.toList) <;> rfl
    · refine row_lt (s := { s with heap := h' }) hc' hb' (Ne.symm hne) ⟨rfl, go _ _ _ (by rw [e1]) (by rw [e2]) ?_⟩
      rw [lb, lc]
      cases decide (y.cps.toList < x.cps.toList) <;> rfl
    · exact row_self (s := { s with heap := h' }) hc' ⟨rfl, go _ _ _ (by rw [e1]) (by rw [e2]) (decide_eq_false (Int.lt_irrefl _)).symm⟩
end
open SrtO in
theorem call_sort2 {X : Cx} : CallR X (.builtin "sorted") (rSort2 X.K) := by
  intro pins s σ H vs us Q I r h
  obtain ⟨a, xs, rfl, hs, h⟩ := h
  obtain ⟨its, rv, hl, hz⟩ := I.list hs
  rw [Vals.ref1 r]
  have hlen := rv.length
  have lay : ∀ (out : List Value) (ys : List V), Vals ys out → ys.length ≤ sizeLine → (∀ p, H p = none → Q (.ref p) (upd H p (.lst ys))) → EP X pins σ Q (.ref (s.heap.objs.size + 1)) { s with heap := sortedAll s.heap its out.toArray } := by
    intro out ys ry hy q
    obtain ⟨ep, he'⟩ := PyProof.Rows.sortedAll_at s.heap its out.toArray
    exact ⟨.ref _, upd H (s.heap.objs.size + 1) (.lst ys), I.laid (t' := s.toks) (fun _ _ => PyProof.Rows.sortedAll_old) (Nat.le_succ _) ⟨hy, out, ep, ry, he'⟩, rfl, q _ (I.hok.fresh (Nat.le_succ _))⟩
  rcases h with ⟨h1, q⟩ | ⟨b, c, x, y, ys, zs, rfl, hb, hc, hne, q⟩
  · refine sorted_ord (ltv := fun _ _ => false) ⟨fun _ _ z => (nomatch z), fun _ _ _ _ _ => rfl⟩ hl.isList (by omega) (fun h2 => absurd h2 (by omega)) fun out _ hb => ?_
    rw [perm_short hb.perm (by omega)]
    exact lay _ xs rv (by omega) q
  · have hbc : b ≠ c := fun z => by
      subst z
      have e := I.tuple_inj hb hc
      cases e
      exact hne rfl
    obtain ⟨b1, rb, tb, _⟩ := I.tuple hb
    obtain ⟨c1, rc, tc, _⟩ := I.tuple hc
    have ei : its = [.ref b, .ref c] := by
      cases rv with
      | cons g1 t =>
        cases t with
        | cons g2 t =>
          cases t
          cases g1
          cases g2
          rfl
    have Rb : IsRow s.heap (.ref b) x := by
      obtain ⟨o, ho, hoc, n, hd⟩ := tb
      cases rb with
      | cons g1 t =>
        obtain ⟨tk, rfl⟩ := g1
        exact ⟨b, o, tk, _, n, rfl, ho, hoc, hd⟩
    have Rc : IsRow s.heap (.ref c) y := by
      obtain ⟨o, ho, hoc, n, hd⟩ := tc
      cases rc with
      | cons g1 t =>
        obtain ⟨tk, rfl⟩ := g1
        exact ⟨c, o, tk, _, n, rfl, ho, hoc, hd⟩
    refine sorted_ord (ltv := ltv2 b (decide (y.cps.toList < x.cps.toList))) swo2 hl.isList (by omega) (fun h2 h₁ a ha kk => ?_) fun out hs hb => ?_
    · rw [ei]
      refine rows_sortable (s := { s with heap := h₁ }) hne hbc (Rb.keeps fun b o e _ => (kk b o e).2) (Rc.keeps fun b o e _ => (kk b o e).2) fun o e => ?_
      have e' : some o = some (seqObj "list" its.toArray 0) := e.symm.trans ha
      cases e'
      intro c
      exact absurd (Value.type.inj c) (by decide)
    · have e := perm_two (ei ▸ hb.perm)
      have sz : 2 ≤ sizeLine := by rw [sizeLine_eq]; decide
      have bad : ∀ v u, out = [v, u] → ltv2 b (decide (y.cps.toList < x.cps.toList)) u v = true → False := by
        intro v u eo z
        rw [eo] at hs
        have h3 := (List.pairwise_cons.mp hs).1 u (List.mem_cons_self ..)
        rw [z] at h3
        cases h3
      cases hf : decide (y.cps.toList < x.cps.toList) with
      | true =>
        rw [hf] at q bad
        rcases e with rfl | rfl
        · exact (bad _ _ rfl (by unfold ltv2; rw [kf2_b, kf2_c hbc]; rfl)).elim
        · exact lay _ [.ref c, .ref b] (.cons rfl (.cons rfl .nil)) sz q
      | false =>
        rw [hf] at q bad
        rcases e with rfl | rfl
        · exact lay _ [.ref b, .ref c] (.cons rfl (.cons rfl .nil)) sz q
        · exact (bad _ _ rfl (by unfold ltv2; rw [kf2_b, kf2_c hbc]; rfl)).elim
end Ev
/-! Ru4: extend by a tuple, enumerate of a tuple, keys of a dict, a copy of a written dict. -/
namespace Ev
open PySem PySem.Spec PyProof.Rows L2 RZ StX
open AutoSeq1 in
/-- list.extend of a tuple, whatever else the tuple's object has -/
theorem meets_extT (l b : Addr) (its its2 : Array Value) (n n2 : Nat) (dd : Option Addr) (sl : Array (Option Value)) (hl0 : ¬(!its.isEmpty && Builtin.List.listTooLong (its.size + its2.size)) = true) (hl1 : its.size ≤ sizeLine) (hl2 : its.size + its2.size ≤ sizeLine + 1) :
    Meets (Builtin.«list.extend» ⟨[.ref l, .ref b], []⟩) (fun _ R s => s.heap.get? l = some { cls := .type "list", dict := none, data := .seq its n, slots := #[] } ∧
      s.heap.get? b = some { cls := .type "tuple", dict := dd, data := .seq its2 n2, slots := sl } ∧ R (.ok (.ret Value.none)) { s with heap := s.heap.update l (Obj.mapSeq fun x => x ++ its2), toks := s.toks }) := by
  refine .of_wp fun prog w A R s hs => ?_
  obtain ⟨hp, gs, ds, tk, os⟩ := s
  obtain ⟨hL, hB, fin⟩ := hs
  have s1 := AutoSeq1.sub_tuple_tuple
  have s2 := AutoSeq1.sub_list_list
  have s3 := AutoSeq1.sub_tuple_list
  have s4 := AutoSeq1.sub_list_tuple
  have s5 := idx_int
  have hz : (its ++ its2).size ≤ sizeLine + 1 := by rw [Array.size_append]; exact hl2
  wp_walk using (wpAny_updateSeq hL rfl (hz := hl1) (_hz' := hz)), wpAny_loadPart' hL, wpAny_loadPart' hB
  exact ⟨_, rfl, fin⟩
section
variable {X : Cx}
theorem mt_extA : MtM X "list.extend" (rExtA X.K) := by
  intro pins s σ H x vs v us Q I rx rv h
  obtain ⟨l, b, xs, zs, rfl, rfl, hH, hB, hz, q⟩ := h
  rcases hB with ⟨hB, _⟩ | hB
  · exact mt_extend pins s σ H _ _ v us Q I rx rv ⟨l, b, xs, zs, rfl, rfl, hH, hB, hz, q⟩
  · cases rx
    obtain ⟨u, rfl, ru⟩ := rv.one
    cases ru
    obtain ⟨z, its, n, r, hl, e⟩ := I.lstM hH
    obtain ⟨its2, r2, ⟨o2, e2, hc2, n2, hd2⟩, z2⟩ := I.tuple hB
    obtain ⟨c2, dd2, dt2, sl2⟩ := o2
    simp only at hc2 hd2
    subst hc2 hd2
    have k1 := r.length
    have k2 := r2.length
    have hsz : its.toArray.size + its2.toArray.size ≤ sizeLine := by rw [List.size_toArray, List.size_toArray]; omega
    have hlong : ¬ (!its.toArray.isEmpty && Builtin.List.listTooLong (its.toArray.size + its2.toArray.size)) = true := by
      rw [notLongL hsz, Bool.and_false]
      exact Bool.false_ne_true
    refine call_meets F.slot_list_extend ⟨_, e, rfl⟩ F.entry_list_extend (F.args_list_extend_2 _ _) (meets_extT l b its.toArray its2.toArray n n2 dd2 sl2 hlong (by rw [List.size_toArray]; omega) (by omega)) ⟨e, e2, ?_⟩
    exact ⟨.non, _, I.lset (its' := its ++ its2) hH e (by simp) (r.append r2) (by rw [List.length_append]; omega), rfl, q⟩
theorem pi_keysL {tg e : Expr} {te : TE} (he : PE X e te) : PI X tg e (iKeysL te) := by
  refine ⟨fun pins s σ H R I h => ?_⟩
  refine thn (he.run pins s σ H _ I h) fun u s1 ⟨x, H1, I1, rx, d, kvs, ex, q⟩ => ?_
  subst ex
  obtain rfl : u = Value.ref d := rx
  have go : ∀ (H2 : Hp) (o : Obj), Inv X pins σ H2 s1 → H2 d = some (.frz o (.dK kvs)) → R (Itk d o kvs) H2 → wpAny (model X.prog X.w) X.A (pyIter (.ref d)) (PIE X pins σ tg R) X.xe s1 := by
    intro H2 o I2 hd hq
    obtain ⟨hs, hgd, hx, es, ep, vs, hdt, hsz, kv, hm⟩ := I2.frzK hd
    refine iter_keys hs hgd hx hdt (pi_one (tk := s1.toks) I2 _ (turn_keys _ hdt) ⟨_, Heap.get?_push_size _ rfl, rfl, ?_⟩ hq)
    rw [hsz] <;> rfl
  rcases q with ⟨hd, q⟩ | ⟨o, hd, q⟩
  · obtain ⟨o, I2⟩ := I1.lock hd trivial
    exact go _ o I2 upd_same (q o)
  · exact go _ o I1 hd q
theorem PI.or {tg e : Expr} {w1 w2 : TI} (h1 : PI X tg e w1) (h2 : PI X tg e w2) : PI X tg e (fun σ H R => w1 σ H R ∨ w2 σ H R) := by
  refine ⟨fun pins s σ H R I h => ?_⟩
  rcases h with h | h
  · exact h1.run pins s σ H R I h
  · exact h2.run pins s σ H R I h
theorem pi_seq {tg e : Expr} {te : TE} (he : PE X e te) : PI X tg e (iSeq X.K te) := PI.or (pi_list he) (PI.or (pi_tup he) (PI.or (pi_keysL he) (pi_str he)))
end
/-! ### enumerate of a tuple -/
theorem meets_enumB {v : Value} {o : Obj} {Hd : Heap → Prop} (B : Begins v o Hd) : Meets (Builtin.«enumerate.__new__» ⟨[.type "enumerate", v], []⟩) (fun _ R s => Hd s.heap ∧
      R (.ok (.ret (.ref (s.heap.push o).objs.size))) { s with heap := (s.heap.push o).push { cls := .type "enumerate", data := .fields #[.none, .bool false, .ref s.heap.objs.size, rawInt 0, .none, .none] } }) := by
  refine .of_wp fun prog w A R s hs => ?_
  obtain ⟨hp, gs, ds, tk, os⟩ := s
  obtain ⟨h0, fin⟩ := hs
  have s1 := sub_enumerate
  have go : ∀ {A' : Around} {E : Value → Shared → Prop} {Q : Value → Shared → Prop}, Q (.ref hp.objs.size) ⟨hp.push o, gs, ds, tk, os⟩ → wpAny (model prog w) A' (pyIter v) Q E ⟨hp, gs, ds, tk, os⟩ :=
    fun q => B.iter prog w _ _ ⟨hp, gs, ds, tk, os⟩ _ h0 q
  wp_walk
  refine wpAny_stack_any fun st => wpAny_pure ?_
  split
  · rename_i c _ _ _ _ _
    cases (c == Value.type "enumerate")
    · wp_walk using go
      exact ⟨_, rfl, fin⟩
    · wp_walk using go
      exact ⟨_, rfl, fin⟩
  · wp_walk using go
    exact ⟨_, rfl, fin⟩
theorem call_enumT {prog : Program} {w : World} {A : Around} {E : Value → Shared → Prop} {s : Shared} {l : Addr} {its : Array Value} {Q : Value → Shared → Prop} (hL : s.heap.IsTuple l its)
    (h : ∀ h', IsEnum h' (s.heap.objs.size + 1) s.heap.objs.size 0 .none → h'.IsTupleIter s.heap.objs.size l 0 → (∀ b o, s.heap.get? b = some o → h'.get? b = some o) → Q (.ref (s.heap.objs.size + 1)) { s with heap := h' }) :
    wpAny (model prog w) A (call (.type "enumerate") [.ref l]) Q E s := by
  refine callType_new F.called_enumerate (by decide) (F.typeCall_enumerate_1 _) (F.newCall_enumerate_1 _) (fun obj => F.args_object_init_2 obj _) F.entry_enumerate_new (meets_enumB (begins_tuple l its)) ⟨hL, ?_⟩
  have hz : (s.heap.push { cls := .type "tuple_iterator", data := .fields #[.ref l, .int 0 0] }).objs.size = s.heap.objs.size + 1 := Heap.size_push ..
  have gE := Heap.get?_push_size (s.heap.push { cls := .type "tuple_iterator", data := .fields #[.ref l, .int 0 0] }) (o := { cls := .type "enumerate", data := .fields #[.none, .bool false, .ref s.heap.objs.size, rawInt 0, .none, .none] }) rfl
  have gI : ((s.heap.push { cls := .type "tuple_iterator", data := .fields #[.ref l, .int 0 0] }).push { cls := .type "enumerate", data := .fields #[.none, .bool false, .ref s.heap.objs.size, rawInt 0, .none, .none] }).get? s.heap.objs.size = some { cls := .type "tuple_iterator", data := .fields #[.ref l, .int 0 0] } := Heap.get?_push_of_some _ (Heap.get?_push_size _ rfl)
  show _ ∧ _
  rw [hz] at gE ⊢
  exact ⟨⟨_, gE, rfl⟩, h _ gE ⟨_, gI, rfl, rfl⟩ fun b o x => Heap.get?_push_of_some _ (Heap.get?_push_of_some _ x)⟩
theorem enumT_end {prog : Program} {w : World} {A : Around} {E : Value → Shared → Prop} {s : Shared} {e it l : Addr} {i : Nat} {its : Array Value} {old : Value} {Q : Option Value → Shared → Prop} (hh : A.handled = none) (he : IsEnum s.heap e it i old) (hit : s.heap.IsTupleIter it l i) (hl : s.heap.IsTuple l its) (hx : its[i]? = none)
    (hQ : ∀ h', Heap.ExtBut it s.heap h' → Q none { s with heap := h' }) : wpAny (model prog w) A (pyNext (.ref e)) Q E s := by
  have hT : s.TypeIs (.ref e) "enumerate" := ⟨_, he, rfl⟩
  unfold pyNext
  refine wpAny_bind (wpAny_attempt (wpAny_callSpecial?_slot (name := Str.ofString "__next__") hT F.slot_enumerate_next (wpAny_call_entry F.slot_enumerate_next hT F.entry_enumerate_next ?_ (F.args_enumerate_next_1 _))))
  show wpAny _ _ (field (.ref e) 2 >>= _) _ _ _
  refine wpAny_bind (wpAny_field he rfl (x := .ref it) rfl (wpAny_bind (wpAny_nextOf_tuple_end hh hit hl hx fun h' x he' hx' => ?_)))
  obtain ⟨o, ho, hc⟩ := hx'
  exact wpAny_bind (wpAny_isInstance (T := "StopIteration") (b := true) ⟨o, ho, hc⟩ isSubtype_stop (wpAny_pure (hQ _ he')))
theorem turn_enumT {P : Program} {w : World} {K : PySem.W.Frag} {elts : List Expr} {kk : Nat} {tpos : Pos} (a e it : Addr) (hai : a ≠ it) :
    Turn P w K (.Tuple elts kk tpos) (IteT K a) [e, it] e (fun i h => (∃ old, IsEnum h e it ((i : Nat) : Int) old) ∧ h.IsTupleIter it a i ∧ e ≠ it ∧ a ≠ e) where
  mem := by simp
  obj := fun i h st b hb => by
    obtain ⟨⟨old, he⟩, ⟨o, ho, hc, hd⟩, _⟩ := st
    have e' : b = e ∨ b = it := by simpa using hb
    rcases e' with z | z
    · rw [z]
      exact ⟨_, he, fun v q => nomatch q⟩
    · rw [z]
      exact ⟨o, ho, fun v q => by rw [hd] at q; cases q⟩
  keep := fun i h h' st k => let ⟨⟨old, he⟩, hi, hne⟩ := st; ⟨⟨old, k e (by simp) _ he⟩, hi.at fun o q => k it (by simp) o q, hne⟩
  item := by
    intro X hP hw hK hc i pins s σ H E I hf st hg
    subst hP hw hK
    obtain ⟨⟨old, he⟩, hit, hne, hae⟩ := st
    obtain ⟨xs, x, hq, hx⟩ := hg
    obtain ⟨its, rv, p, hz⟩ := I.tuple hq
    obtain ⟨u, hu, ru⟩ := rv.get hx
    have hel : e < s.heap.objs.size := Heap.lt_size he
    have hil : it < s.heap.objs.size := by obtain ⟨_, q, _⟩ := hit; exact Heap.lt_size q
    have hlt : i < its.toArray.size := by
      have := (List.getElem?_eq_some_iff.mp hu).1
      simpa using this
    refine wpAny_pyNext_enum_itemD (Draws.tuple (A := X.A.in1) (I.ok.hd hc) it a hai its.toArray) he ⟨hit, p⟩ hlt hne (by simp [hne, Ne.symm hae]) fun y h' tk hy ho hst hT hsz hk => ?_
    have ey : y = u := by
      have h1 : its[i]? = some y := by simpa using hy
      rw [hu] at h1
      exact (Option.some.inj h1).symm
    subst ey
    refine ⟨_, rfl, wpAny_letOwnedTupleGo_enum (s := { s with heap := h', toks := tk + 1 }) ho fun h'' he' sb => ?_⟩
    have hT2 : h''.get? s.heap.objs.size = some { cls := .type "tuple", data := .seq #[.int i tk, y] } := (sb.2 _ (Nat.ne_of_gt hel)).trans hT
    have new : ObjOk X.prog X.w (upd H s.heap.objs.size (.tup [.int (i : Nat), x])) h'' s.heap.objs.size (.tup [.int (i : Nat), x]) :=
      ⟨by show 2 ≤ sizeLine; decide, [.int i tk, y], .cons ⟨_, rfl⟩ (.cons ru .nil), ⟨_, hT2, rfl, _, rfl⟩⟩
    have I1 : Inv X pins σ (upd H s.heap.objs.size (.tup [.int (i : Nat), x])) { s with heap := h'', toks := tk + 1 } :=
      I.turnedNew (ch := [e, it]) (fun b ob hb q => (sb.2 b (fun z => hb (by simp [z]))).trans (hk b ob (fun z => hb (by simp [z])) (fun z => hb (by simp [z])) q)) hf (Nat.le_refl _) new
    refine ⟨.ref s.heap.objs.size, _, I1, rfl, ⟨_, x, rfl, I.hok.fresh (Nat.le_refl _), rfl, fun ys hy => by rw [I.tuple_inj hy hq]; exact hx⟩, ⟨⟨y, ?_⟩, hst.1.at fun o q => (sb.2 it (Ne.symm hne)).trans q, hne, hae⟩, fun b hb => ?_⟩
    · have e1 : ((i + 1 : Nat) : Int) = (i : Int) + 1 := by omega
      rw [e1]
      exact he'
    · have hb' : b < s.heap.objs.size := by
        have e' : b = e ∨ b = it := by simpa using hb
        rcases e' with z | z
        · rw [z]
          exact hel
        · rw [z]
          exact hil
      rw [upd_ne (Nat.ne_of_lt hb')]
      exact (hf b hb).1
  done := by
    intro X hP hw hK hc i pins s σ H E I hf st hg
    subst hP hw hK
    obtain ⟨⟨old, he⟩, hit, hne, hae⟩ := st
    obtain ⟨xs, hq, hx⟩ := hg
    obtain ⟨its, rv, p, hz⟩ := I.tuple hq
    obtain ⟨f0, f1, f2, f3, f4, f5⟩ := hf it (by simp)
    have hl := rv.length
    exact enumT_end (I.ok.hd hc) he hit p (by simp; omega) fun h' eb => ⟨rfl, I.turned (t' := s.toks) (fun b o hb q => eb b o hb q) f0 f1 f3 f4 f5⟩
  self := fun A i s Q E st h => let ⟨⟨_, he⟩, _⟩ := st; wpAny_pyIter_enum he h
theorem pi_enumA {X : Cx} {e : Expr} {te : TE} {p pos tpos : Pos} {elts : List Expr} {kk : Nat} (hg : Gl X "enumerate") (hm : X.mg "enumerate" = none) (he : PE X e te) (hs : starEach [e] X.env = [(false, eval e X.env)]) :
    PI X (.Tuple elts kk tpos) (.Call (.Name "enumerate" p) [e] [] pos) (iEnumA X.K te) := by
  have ha : PA X [e] (tCons te tNil) := pa_cons he pa_nil hs
  refine ⟨fun pins s σ H R I h => ?_⟩
  refine Call_ (ld_blt I hg hm boot_enumerate (PyProof.Rows.callWith_type1 (thn (ha.run pos pins s σ H (fun vs H1 => match vs with
    | [x] => ∃ a xs, x = .ref a ∧ ((SqL X.K H1 a xs ∧ R (Ite X.K a) H1) ∨ (SqT X.K H1 a xs ∧ R (IteT X.K a) H1))
    | _ => False) I h) fun us s1 ⟨vs, H1, I1, r1, qq⟩ => ?_) hs rfl))
  obtain ⟨x, ev, a, xs, ex, q⟩ : ∃ x, vs = [x] ∧ ∃ a xs, x = .ref a ∧ ((SqL X.K H1 a xs ∧ R (Ite X.K a) H1) ∨ (SqT X.K H1 a xs ∧ R (IteT X.K a) H1)) := by
    match vs, qq with
    | [], z => exact z.elim
    | [x], z => exact ⟨x, rfl, z⟩
    | _ :: _ :: _, z => exact z.elim
  · subst ev ex
    rw [Vals.ref1 r1]
    rcases q with ⟨hq, q⟩ | ⟨hq, q⟩
    · obtain ⟨its, rv, p', hz⟩ := I1.list hq
      refine call_enumerate_list p'.isList fun h' he hit hsz hk => wpAny_pyIter_enum he ?_
      have I2 : Inv X pins σ H1 { s1 with heap := h' } := I1.kept (t' := s1.toks) hk
      refine ⟨s1.heap.objs.size + 1, [s1.heap.objs.size + 1, s1.heap.objs.size], _, _, H1, rfl, I2, turn_enum a (s1.heap.objs.size + 1) s1.heap.objs.size, ⟨⟨.none, he⟩, hit, Nat.succ_ne_self _⟩, fun b hb => ?_, q⟩
      have e' : b = s1.heap.objs.size + 1 ∨ b = s1.heap.objs.size := by simpa using hb
      have hle : s1.heap.objs.size ≤ b := by
        rcases e' with z | z
        · rw [z]
          exact Nat.le_add_right _ _
        · rw [z]
          exact Nat.le_refl _
      exact I1.fpOk hle (I1.hok.fresh hle)
    · obtain ⟨its, rv, p', hz⟩ := I1.tuple hq
      have hal : a < s1.heap.objs.size := by obtain ⟨_, q, _⟩ := p'; exact Heap.lt_size q
      refine call_enumT p' fun h' he hit hk => wpAny_pyIter_enum he ?_
      have I2 : Inv X pins σ H1 { s1 with heap := h' } := I1.kept (t' := s1.toks) hk
      refine ⟨s1.heap.objs.size + 1, [s1.heap.objs.size + 1, s1.heap.objs.size], _, _, H1, rfl, I2, turn_enumT a (s1.heap.objs.size + 1) s1.heap.objs.size (Nat.ne_of_lt hal), ⟨⟨.none, he⟩, hit, Nat.succ_ne_self _, Nat.ne_of_lt (Nat.lt_succ_of_lt hal)⟩, fun b hb => ?_, q⟩
      have e' : b = s1.heap.objs.size + 1 ∨ b = s1.heap.objs.size := by simpa using hb
      have hle : s1.heap.objs.size ≤ b := by
        rcases e' with z | z
        · rw [z]
          exact Nat.le_add_right _ _
        · rw [z]
          exact Nat.le_refl _
      exact I1.fpOk hle (I1.hok.fresh hle)
/-- dict(d), d a written dict that stands as mixKind has it -/
theorem pe_gcopy {X : Cx} {x : Str} {d : Addr} {ws : List (Key × V)} {vs : List (Key × Value)} {p q pos : Pos} (hg : Gl X "dict") (hm : X.mg "dict" = none) (hgx : Gl X x) (hmx : X.mg x = some (.ref d)) (hdb : (x == ("__debug__" : Str)) = false)
    (lo : (d == sysModules) = false) (hz : ws.length ≤ sizeLine) (kv : KV ws vs) (hd : ∀ h : Heap, X.K.In h → h.DictOf (mixKind X.prog X.w) d vs) : PE X (.Call (.Name "dict" p) [.Name x q] [] pos) (tGCopy ws) := by
  have hc : CallR X (.type "dict") (fun xs H Q => xs = [.ref d] ∧ ∀ p, H p = none → Q (.ref p) (upd H p (.dK ws))) := by
    intro pins s σ H xs us Q I r h
    obtain ⟨rfl, h⟩ := h
    rw [Vals.ref1 r]
    refine kt_call_dict lo (hd _ I.kIn) (by rw [← kv.length]; exact hz) fun h' d' hs => ?_
    have hm : (s.heap.objs.size == sysModules) = false := beq_eq_false_iff_ne.mpr (Nat.ne_of_gt I.big)
    exact ⟨.ref s.heap.objs.size, upd H s.heap.objs.size (.dK ws), I.laid (t' := s.toks) (fun b u e => (hs.2 b (Nat.ne_of_lt (Heap.lt_size e))).trans (Heap.get?_push_of_some _ e)) (Nat.le_refl _) (show ObjOk X.prog X.w _ _ _ (.dK ws) from ⟨hz, hm, vs, kv, d'⟩), rfl, h _ (I.hok.fresh (Nat.le_refl _))⟩
  exact PE.imp (pe_callTy hc hg hm (by decide +kernel) (pa_cons (pe_glob (v := .ref d) hgx hmx rfl hdb) pa_nil)) fun σ H Q h => ⟨rfl, h⟩
end Ev
set_option maxHeartbeats 2000000
/-! Ru5: sorted of many rows that begin with unlike texts; dict of pairs; update; min. -/
namespace Ev
open PySem PySem.Spec PyProof.Rows L2 RZ StX
/-- the key of a row by its address -/
def keyAt (zs : List (Str × Addr)) (v : Value) : Str := match v with
  | .ref a => ((zs.find? fun z => z.2 == a).map (·.1)).getD Str.empty
  | _ => Str.empty
def ltRow (zs : List (Str × Addr)) (v u : Value) : Bool := ltS (keyAt zs v) (keyAt zs u)
theorem swoRow {zs : List (Str × Addr)} : SrtO.Swo (ltRow zs) := ⟨fun _ _ h => ltS_asym h, fun _ _ _ h h' => ltS_tr h h'⟩
section
variable {prog : Program} {w : World} {A : Around} {s : Shared}
def RowsAt (h : Heap) (zs : List (Str × Addr)) : Prop := ∀ z ∈ zs, IsRow h (.ref z.2) z.1
theorem rows_tups {h : Heap} : ∀ {zs : List (Str × Addr)}, RowsAt h zs → ∃ fs : List Value, PySem.W.KatTups h (zs.map fun z => Value.ref z.2) fs ∧ fs.length = zs.length ∧ ∀ f ∈ fs, ∃ x t, f = Value.str x t
  | [], _ => ⟨[], PySem.W.KatTups.nil, rfl, fun f hf => absurd hf List.not_mem_nil⟩
  | z :: zs, hz => by
    obtain ⟨fs, h1, h2, h3⟩ := rows_tups (zs := zs) fun y hy => hz y (List.mem_cons_of_mem _ hy)
    obtain ⟨a, o, t, r, n, e, ho, hc, hd⟩ := hz z (List.mem_cons_self ..)
    cases e
    refine ⟨.str z.1 t :: fs, PySem.W.KatTups.cons ho hc hd rfl h1, by simp [h2], fun f hf => ?_⟩
    rcases List.mem_cons.mp hf with rfl | hf
    · exact ⟨_, _, rfl⟩
    · exact h3 f hf
open SrtO in
theorem rows_sortableG {a : Addr} {zs : List (Str × Addr)} (hne : zs ≠ []) (hk : ∀ z ∈ zs, keyAt zs (.ref z.2) = z.1) (inj : ∀ z ∈ zs, ∀ y ∈ zs, z.1 = y.1 → z = y) (hz : RowsAt s.heap zs) (ha : ∀ o, s.heap.get? a = some o → o.cls ≠ .type "tuple") :
    SortableO prog w A s a (zs.map fun z => Value.ref z.2) (ltRow zs) := by
  intro h1 keep
  have kk : ∀ b o, s.heap.get? b = some o → o.cls = .type "tuple" → h1.get? b = some o := fun b o e c => keep b o (fun z => by subst z; exact ha o e c) e
  have hz1 : RowsAt h1 zs := fun z m => (hz z m).keeps kk
  refine ⟨tuples' true, fun Q E hq => ?_, fun p q hp hq => ?_⟩
  · obtain ⟨fs, t1, t2, t3⟩ := rows_tups hz1
    refine PySem.W.kat_kind (s := { s with heap := h1 }) (T := .type "str") t1 (by rw [t2]; exact List.length_pos_iff.mpr hne) (fun f hm => ?_) (by rfl) ?_
    · obtain ⟨x, t, rfl⟩ := t3 f hm
      exact PySem.W.Looks.now
    · have e : (Value.type "str" != Value.type "tuple") = true := by first | decide +kernel | rfl | decide
      rw [e]
      exact hq
  · obtain ⟨z, mz, ez⟩ := List.mem_map.mp hp
    obtain ⟨y, my, ey⟩ := List.mem_map.mp hq
    have fin : ltS z.1 y.1 = lt2 (ltRow zs) p q := by
      show _ = ltS (keyAt zs p.1) (keyAt zs q.1)
      rw [← ez, ← ey, hk z mz, hk y my]
    rw [← ez, ← ey]
    by_cases e : z.1 = y.1
    · have ezy := inj z mz y my e
      subst ezy
      refine row_self (s := { s with heap := h1 }) (hz1 z mz) ⟨rfl, ?_⟩
      rw [← fin]
      exact (decide_eq_false (List.lt_irrefl _)).symm
    · exact row_lt (s := { s with heap := h1 }) (hz1 z mz) (hz1 y my) e ⟨rfl, fin⟩
end
theorem keyAt_mem : ∀ {zs : List (Str × Addr)}, (∀ z ∈ zs, ∀ y ∈ zs, z.2 = y.2 → z = y) → ∀ z ∈ zs, keyAt zs (.ref z.2) = z.1 := by
  intro zs inj z hz
  unfold keyAt
  simp only
  cases hf : zs.find? fun y => y.2 == z.2 with
  | none =>
    have := List.find?_eq_none.mp hf z hz
    simp at this
  | some y =>
    have h1 := List.find?_some hf
    have h2 := List.mem_of_find?_eq_some hf
    rw [inj y h2 z hz (by simpa using h1)]
    rfl
open SrtO in
theorem call_sortRows {X : Cx} : CallR X (.builtin "sorted") (rSortRows X.K) := by
  intro pins s σ H vs us Q I r h
  obtain ⟨a, ks, ps, rfl, hs, hp, nd, hn, q⟩ := h
  obtain ⟨its, rv, hl, hz⟩ := I.list hs
  have ei := refs_at rv
  subst ei
  rw [Vals.ref1 r]
  have lk : ps.length = ks.length := by
    clear q nd hs hn rv r hl hz
    induction hp with
    | nil => rfl
    | cons _ _ ih => simp [ih]
  let zs := ks.zip ps
  have hzs : (zs.map fun z => z.2) = ps := by
    show (ks.zip ps).map _ = ps
    rw [List.map_snd_zip (by omega)]
  have hzk : (zs.map fun z => z.1) = ks := by
    show (ks.zip ps).map _ = ks
    rw [List.map_fst_zip (by omega)]
  have hrow : ∀ z ∈ zs, ∃ ys, SqT X.K H z.2 (.str z.1 :: ys) := by
    have : ∀ {ps : List Addr} {ks : List Str}, Paired (fun p k => ∃ ys, SqT X.K H p (.str k :: ys)) ps ks → ∀ z ∈ ks.zip ps, ∃ ys, SqT X.K H z.2 (.str z.1 :: ys) := by
      intro ps ks hp
      induction hp with
      | nil => intro z hz; exact absurd hz List.not_mem_nil
      | cons h t ih =>
        intro z hz
        rcases List.mem_cons.mp hz with rfl | hz
        · exact h
        · exact ih z hz
    exact this hp
  have injK : ∀ z ∈ zs, ∀ y ∈ zs, z.1 = y.1 → z = y := by
    have nz : (zs.map fun z => z.1).Nodup := by rw [hzk]; exact nd
    intro z hz y hy e
    obtain ⟨i, hi⟩ := List.mem_iff_getElem?.mp hz
    obtain ⟨j, hj⟩ := List.mem_iff_getElem?.mp hy
    have li : i < zs.length := (List.getElem?_eq_some_iff.mp hi).1
    have := (List.getElem?_inj (i := i) (j := j) (l := zs.map fun z => z.1) (by rw [List.length_map]; exact li) nz).mp (by rw [List.getElem?_map, List.getElem?_map, hi, hj]; simp [e])
    subst this
    rw [hi] at hj
    exact Option.some.inj hj
  have injA : ∀ z ∈ zs, ∀ y ∈ zs, z.2 = y.2 → z = y := by
    intro z hz y hy e
    obtain ⟨y1, q1⟩ := hrow z hz
    obtain ⟨y2, q2⟩ := hrow y hy
    rw [e] at q1
    have e3 := I.tuple_inj q1 q2
    injection e3 with e4 _
    injection e4 with e5
    exact injK z hz y hy e5
  have hk := keyAt_mem injA
  have rows : RowsAt s.heap zs := fun z hz => by
    obtain ⟨ys, q1⟩ := hrow z hz
    obtain ⟨b1, rb, tb, _⟩ := I.tuple q1
    obtain ⟨o, ho, hoc, n, hd⟩ := tb
    cases rb with
    | cons g1 t =>
      obtain ⟨tk, rfl⟩ := g1
      exact ⟨z.2, o, tk, _, n, rfl, ho, hoc, hd⟩
  have hvs : ps.map Value.ref = zs.map fun z => Value.ref z.2 := by
    rw [← hzs, List.map_map]
    rfl
  have sz : ps.length ≤ sizeLine := by rw [sizeLine_eq]; omega
  refine sorted_ord (ltv := ltRow zs) swoRow hl.isList (by rw [List.length_map]; exact sz) (fun h2 h₁ b hb kk => ?_) fun out hs hb => ?_
  · rw [hvs]
    rw [List.length_map] at h2
    refine rows_sortableG (s := { s with heap := h₁ }) (fun z => ?_) hk injK (fun z hz => (rows z hz).keeps fun b o e _ => (kk b o e).2) fun o e => ?_
    · have : zs.length = ps.length := by rw [← hzs, List.length_map]
      rw [z] at this
      simp at this
      omega
    · have e1 : some o = some (seqObj "list" (ps.map Value.ref).toArray 0) := e.symm.trans hb
      cases e1
      intro c
      exact absurd (Value.type.inj c) (by decide)
  · have hperm : out.Perm (zs.map fun z => Value.ref z.2) := hvs ▸ hb.perm
    have eo : out = (sortR (·.1) zs).map fun z => Value.ref z.2 := by
      have hkm : ∀ v ∈ zs.map (fun z => Value.ref z.2), ∀ u ∈ zs.map (fun z => Value.ref z.2), keyAt zs v = keyAt zs u → v = u := by
        intro v hv u hu e
        obtain ⟨z, mz, rfl⟩ := List.mem_map.mp hv
        obtain ⟨y, my, rfl⟩ := List.mem_map.mp hu
        rw [hk z mz, hk y my] at e
        rw [injK z mz y my e]
      have u1 := sortR_uniq (k := keyAt zs) hperm hkm hs
      have u2 : (sortR (fun z : Str × Addr => keyAt zs (Value.ref z.2)) zs).map (fun z => Value.ref z.2) = sortR (keyAt zs) (zs.map fun z => Value.ref z.2) := sortR_map (k := keyAt zs) (f := fun z : Str × Addr => Value.ref z.2) zs
      have u3 : sortR (fun z : Str × Addr => keyAt zs (Value.ref z.2)) zs = sortR (·.1) zs := by
        refine sortR_uniq (k := (·.1)) (sortR_perm zs) injK ?_
        have p1 := sortR_le (k := fun z : Str × Addr => keyAt zs (Value.ref z.2)) zs
        refine List.Pairwise.imp_of_mem (fun {a b} ha hb h => ?_) p1
        have ma := (sortR_perm (k := fun z : Str × Addr => keyAt zs (Value.ref z.2)) zs).mem_iff.mp ha
        have mb := (sortR_perm (k := fun z : Str × Addr => keyAt zs (Value.ref z.2)) zs).mem_iff.mp hb
        rw [hk a ma, hk b mb] at h
        exact h
      rw [u1, ← u2, u3]
    obtain ⟨ep, he⟩ := PyProof.Rows.sortedAll_at s.heap (ps.map Value.ref) out.toArray
    have lo : ((sortR (·.1) zs).map fun z => V.ref z.2).length ≤ sizeLine := by
      rw [List.length_map, (sortR_perm zs).length_eq]
      have : zs.length = ps.length := by rw [← hzs, List.length_map]
      omega
    have vo : Vals ((sortR (·.1) zs).map fun z => V.ref z.2) out := by
      rw [eo]
      have : ∀ l : List (Str × Addr), Vals (l.map fun z => V.ref z.2) (l.map fun z => Value.ref z.2) := fun l => by
        induction l with
        | nil => exact .nil
        | cons z l ih => exact .cons rfl ih
      exact this _
    exact ⟨.ref _, upd H (s.heap.objs.size + 1) (.lst ((sortR (·.1) zs).map fun z => V.ref z.2)), I.laid (t' := s.toks) (fun _ _ => PyProof.Rows.sortedAll_old) (Nat.le_succ _) ⟨lo, out, ep, vo, he⟩, rfl, q _ (I.hok.fresh (Nat.le_succ _))⟩
theorem call_dictAll {X : Cx} (hc : X.calm = true) : CallR X (.type "dict") (fun xs H Q => rDct1 xs H Q ∨ rDctP X.K xs H Q) := by
  intro pins s σ H vs us Q I r h
  rcases h with h | h
  · exact call_dictD pins s σ H vs us Q I r h
  · exact call_dictP hc pins s σ H vs us Q I r h
/-! ### d.update(e) -/
section
variable {X : Cx} {o e : Expr} {td te : TE} {apos cpos : Pos}
theorem pe_dupd (ho : PE X o td) (he : PE X e te) (m : M1 X o "update" apos e cpos) : PE X (.Call (.Attribute o "update" apos) [e] [] cpos) (tDUpd td te) := by
  refine ⟨fun pins s σ H Q I h => ?_⟩
  refine wpAny_Call_method m.base m.few m.line PySem.F.plainAttrs_dict PySem.F.slot_dict_update PySem.F.type_dict_update (thn (ho.run pins s σ H _ I h) fun u s1 ⟨x, H1, I1, rx, a, ex, d, q1⟩ => ?_)
  subst ex
  obtain rfl : u = Value.ref a := rx
  obtain ⟨t1, t2, _⟩ := isD_at I1 d
  refine ⟨t1, t2, ?_⟩
  rw [m.trees]
  refine Calls.callWith_builtin rfl (Calls.evalArgs_plain (Calls.spliced_cons (thn (he.run pins s1 σ H1 _ I1 q1) fun iv s2 ⟨y, H2, I2, ry, b, kvs, more, ey, nab, ha, hb, hl, q2⟩ => Calls.spliced_nil ?_)))
  subst ey
  obtain rfl : iv = Value.ref b := ry
  obtain ⟨z1, d1, vs1, rel1, dd1⟩ := dk_of I2.hok ha
  obtain ⟨z2, d2, vs2, rel2, dd2⟩ := dk_rd I2.hok hb
  refine call_meetsIn PySem.F.slot_dict_update dd1.typeIs PySem.F.entry_dict_update (PySem.F.args_dict_update_2 _ _) (meets_dict_update (mixKind X.prog X.w) a b nab d2) ⟨vs1, vs2, dd1, dd2, by rw [← rel1.length, ← rel2.length]; exact hl, fun h1 dd3 dd4 hs => ?_⟩
  have hl2 : (mergeK kvs more).length ≤ sizeLine := Nat.le_trans (length_mergeK more kvs) hl
  have hx : ∃ q, h1.get? a = some q := let ⟨q, _, _, hq, _⟩ := dd3; ⟨q, hq⟩
  exact ⟨.non, _, d_write (t' := s2.toks) I2 (by rw [ha]; exact True.intro) hs hx (dk_new hl2 d1 (KV.merge rel2 rel1) dd3), rfl, q2⟩
end
end Ev
set_option maxHeartbeats 3200000
/-! Ru6: len(set(texts)). -/
namespace Ev
open PySem PySem.Spec PyProof.Rows L2
theorem cntT_le (xs : List Str) : ∀ i, cntT xs i ≤ i
  | 0 => Nat.le_refl _
  | i + 1 => by
    have := cntT_le xs i
    unfold cntT
    split <;> omega
section
variable {prog : Program} {w : World} {A : Around} {R : Result → Shared → Prop} {J : Addr} {fp wr : List Addr} {G : Array GenState → Array GenState → Prop} {m : Nat} {P : Nat → Value → Prop} {St : Nat → Shared → Prop}
/-- the set's loop over texts -/
theorem loopTx (W : WalksS prog w A.in1 J fp wr G m P St) (S : Addr) (hSf : S ∉ fp) (xs : List Str) (hsz : xs.length = m) (hm1 : m ≤ 1000) (hval : ∀ i v, P i v → ∃ t, v = .str (xs.getD i Str.empty) t) :
    ∀ (k i : Nat) (s : Shared), m - i = k → i ≤ m → St i s → s.heap.SetOf (PySem.strKind prog w) S (fun y => (xs.take i).contains y) (cntT xs i) →
      (∀ z, Moved (S :: wr) G s z → z.heap.SetOf (PySem.strKind prog w) S (fun y => (xs.take m).contains y) (cntT xs m) → R (.ok (.ret .none)) z) →
      codeAny (model prog w) A (.builtin "set.update.loop" ⟨[.ref S, .ref J], []⟩) R s := by
  have nSw : S ∉ wr := fun h => hSf (W.sub _ h)
  have up : ∀ b ∈ wr, b ∈ S :: wr := fun b hb => List.mem_cons_of_mem _ hb
  intro k
  induction k with
  | zero =>
    intro i s hk hi st hS hR
    obtain rfl : i = m := by omega
    refine codeAny_builtin PyProof.Rows.F.entry_set_update_loop ?_; rw [Around.under_plainId PyProof.Rows.F.plain_set_update_loop _]
    show wpAny _ A.in1 (pyNext (.ref J) >>= _) _ _ s
    refine wpAny_bind (W.done s _ _ st fun z mv => ?_)
    show wpAny _ A.in1 (ret Value.none) _ _ z
    obtain ⟨o, es, ep, t, ho, rest⟩ := hS
    exact wpAny_pure (hR z (mv.mono up) ⟨o, es, ep, t, mv.heap S _ nSw ho, rest⟩)
  | succ k ih =>
    intro i s hk hi st hS hR
    have lt : i < m := by omega
    refine codeAny_builtin PyProof.Rows.F.entry_set_update_loop ?_; rw [Around.under_plainId PyProof.Rows.F.plain_set_update_loop _]
    show wpAny _ A.in1 (pyNext (.ref J) >>= _) _ _ s
    refine wpAny_bind (W.item i s _ _ lt st fun v z hP st1 mv => ?_)
    obtain ⟨t, rfl⟩ := hval i v hP
    have hS1 : z.heap.SetOf (PySem.strKind prog w) S (fun y => (xs.take i).contains y) (cntT xs i) := by
      obtain ⟨o, es, ep, tb, ho, rest⟩ := hS; exact ⟨o, es, ep, tb, mv.heap S _ nSw ho, rest⟩
    show wpAny _ A.in1 (holding [Value.str (xs.getD i Str.empty) t] (setAdd S (.str (xs.getD i Str.empty) t)) >>= _) _ _ z
    refine wpAny_bind (wpAny_holding ?_); unfold setAdd
    refine wpAny_holding (wpAny_bind ((PySem.strKind prog w).pyHash (k := xs.getD i Str.empty) (strKind_is _ _ _ _) ?_))
    have cl := cntT_le xs i
    refine wpAny_setAddHashed_of (knd := PySem.strKind prog w) (s := { z with toks := z.toks + 1 }) (strKind_is _ _ _ _) rfl hS1 (by unfold scanBound; omega) fun h1 sb hS2 => ?_
    have hSi : h1.SetOf (PySem.strKind prog w) S (fun y => (xs.take (i + 1)).contains y) (cntT xs (i + 1)) := by
      have li : i < xs.length := by omega
      have eg : xs.getD i Str.empty = xs[i] := by rw [List.getD_eq_getElem?_getD, List.getElem?_eq_getElem li]; rfl
      have et : xs.take (i + 1) = xs.take i ++ [xs[i]] := by rw [List.take_add_one, List.getElem?_eq_getElem li]; rfl
      refine SetOf_congr hS2 (fun y => ?_) (by rfl)
      have key : ∀ (L : List Str) (x : Str), (L.contains y || decide (y = x)) = (L ++ [x]).contains y := fun L x => by
        by_cases e : y = x <;> simp [e]
      rw [et, eg]
      exact key _ _
    refine wpAny_pure ⟨plainId_quiet PyProof.Rows.F.plain_set_update_loop _, ih (i + 1) _ (by omega) lt (W.frame _ z _ _ st1 (Nat.le_succ _) fun b hb o e => ?_) hSi fun z2 mv2 hS3 => ?_⟩
    · rw [sb.2 b (fun h : b = S => hSf (h ▸ hb))]; exact e
    · refine hR z2 (Moved.trans W.gtrans ((mv.mono up).then_heap (Nat.le_succ _) fun b o hb e => ?_) mv2) hS3
      rw [sb.2 b (fun h : b = S => hb (by rw [h]; exact List.mem_cons_self))]; exact e
end
section
variable {prog : Program} {w : World} {A : Around} {E : Value → Shared → Prop} {s : Shared}
theorem call_setTx {l : Addr} {items : Array Value} {xs : List Str} {Q : Value → Shared → Prop} (hh : A.handled = none) (hl : s.heap.IsTuple l items) (hi : PyProof.Rows.StrsAre items.toList xs) (h1000 : xs.length ≤ 1000)
    (h : ∀ (h1 : Heap) (tk : Nat), h1.SetOf (PySem.strKind prog w) s.heap.objs.size (fun y => (xs.take items.size).contains y) (cntT xs items.size) →
      (∀ b o, b < s.heap.objs.size → s.heap.get? b = some o → h1.get? b = some o) → Q (.ref s.heap.objs.size) { s with heap := h1, toks := tk }) :
    wpAny (model prog w) A (call (.type "set") [.ref l]) Q E s := by
  obtain ⟨c, tl, hmro⟩ := PySem.F.called_set.mro
  have kMade := PySem.F.called_set.made
  have kSub := PySem.F.called_set.sub
  refine wpAny_call (codeAny_of_tree ?_); show wpAny _ _ (callAny (.type "set") _) _ _ _
  refine wpAny_pure ⟨Code.quiet_builtin _ (by decide +kernel), codeAny_builtin PySem.F.entry_type_call ?_⟩; rw [Around.under_plain (weight_type_call_type "set" [.ref l] []) rfl]
  have kNot := PySem.F.called_set.notType
  have kCan := PySem.F.called_set.canCreate
  have kCt := PySem.F.typeCall_set_1 (.ref l)
  repeat (any_goals (first | assumption | wp_step))

  refine codeAny_mono (code_set_new_1 (.ref l) (E := E) (Q₁ := fun obj z => ∃ ld : Bool, obj = .ref s.heap.objs.size ∧ z = { s with heap := s.heap.push { cls := .type "set", dict := none, data := .set #[] 0 (.fresh 0 0 ld) } }) fun ld => ⟨ld, rfl, rfl⟩) fun r z hr => ?_
  cases r with
  | error e => exact hr
  | ok fl =>
    cases fl with
    | ret obj =>
      obtain ⟨ld, rfl, rfl⟩ := hr
      let nw : Obj := { cls := .type "set", dict := none, data := .set #[] 0 (.fresh 0 0 ld) }
      have eS : (s.heap.push nw).get? s.heap.objs.size = some nw := Heap.get?_push_size _ rfl
      have tS : Shared.TypeIs { s with heap := s.heap.push nw } (.ref s.heap.objs.size) "set" := ⟨_, eS, rfl⟩
      have kLi := PySem.F.called_set.init.lookup
      have kBi := PySem.F.called_set.init.bind (.ref s.heap.objs.size)
      repeat (any_goals (first | assumption | wp_step))

      refine codeAny_mono (codeAny_call_builtin (R := wants (fun r z => r = .none ∧ ∃ h1 tk, z = { s with heap := h1, toks := tk } ∧ h1.SetOf (PySem.strKind prog w) s.heap.objs.size (fun y => (xs.take items.size).contains y) (cntT xs items.size) ∧
          (∀ b o, b < s.heap.objs.size → s.heap.get? b = some o → h1.get? b = some o)) E) PySem.F.called_set.init.plain PySem.F.entry_set_init (check_set_init_1 tS ?_)) fun r2 z2 hr2 => ?_
      · obtain ⟨ol, hol, hcl, nl, hdl⟩ := hl
        obtain ⟨ocls, odict, odata, oslots⟩ := ol
        simp only at hcl hdl; subst hcl; subst hdl
        have holN : (s.heap.push nw).get? l = some { cls := .type "tuple", dict := odict, data := .seq items nl, slots := oslots } := Heap.get?_push_of_some _ hol
        have kTs := PySem.F.sub_tuple_set
        have kTf := PySem.F.sub_tuple_frozenset
        have kTd : (Value.type "tuple" == Value.type "dict") = false := by decide
        have isT : (s.heap.push nw).IsTuple l items := ⟨_, holN, rfl, nl, rfl⟩
        unfold Builtin.«set.__init__» noKeywords Builtin.Frozenset.updateFrom; generalize hPI : pyIter = PI
        wp_walk
        subst hPI

        refine wpAny_pyIter_tuple isT (wpAny_bind (wpAny_runValue ?_))
        have lS : l < s.heap.objs.size := Heap.lt_size hol
        have kH : A.in1.in1.in1.handled = none := by simp [hh]
        have kNe : l ≠ (s.heap.push nw).objs.size := by
          rw [Heap.size_push]; exact Nat.ne_of_lt (Nat.lt_succ_of_lt lS)
        have kSf : s.heap.objs.size ∉ [(s.heap.push nw).objs.size, l] := by
          rw [Heap.size_push]; simp only [List.mem_cons, List.mem_singleton, List.not_mem_nil, or_false, not_or]; exact ⟨Nat.ne_of_lt (Nat.lt_succ_self _), Nat.ne_of_gt lS⟩
        have eL : xs.length = items.size := by rw [← StrsAre.len_eq hi, Array.length_toList]
        have vals : ∀ (i : Nat) (v : Value), items[i]? = some v → ∃ t, v = .str (xs.getD i Str.empty) t := fun i v hv => SS.strs_at hi i v (by rw [Array.getElem?_toList]; exact hv)
        refine loopTx ((Walks.tuple kH _ l kNe items).toS) s.heap.objs.size kSf xs eL (by rw [← eL]; exact h1000) vals (items.size - 0) 0 _ (by omega) (Nat.zero_le _) ⟨⟨_, Heap.get?_push_size _ rfl, rfl, rfl⟩, (isT.push _)⟩ ?start ?rest
        case start =>
          have eG : ((s.heap.push nw).push { cls := .type "tuple_iterator", data := .fields #[.ref l, .int 0 0] }).get? s.heap.objs.size = some nw := Heap.get?_push_of_some _ eS
          exact PyProof.Rows.SetOf_congr ((PyProof.Rows.setObjOf_fresh (knd := PySem.strKind prog w) ld).setOf eG (by unfold scanBound; omega)) (fun _ => rfl) rfl
        case rest =>
          intro z mv hS1
          obtain ⟨h1, g1, d1, tk1, os1⟩ := z
          obtain rfl : g1 = s.gens := mv.gens
          obtain rfl : d1 = s.drawn := mv.drawn
          obtain rfl : os1 = s.os := mv.os
          show wpAny _ _ _ _ _ _
          refine wpAny_pure ?_; show wpAny _ _ (ret Value.none) _ _ _
          refine wpAny_pure ⟨rfl, h1, tk1, rfl, hS1, fun b o hb e => ?_⟩
          have b1 : b ≠ s.heap.objs.size := Nat.ne_of_lt hb
          have b2 : b ≠ (s.heap.push nw).objs.size := by
            rw [Heap.size_push]; exact Nat.ne_of_lt (Nat.lt_succ_of_lt hb)
          exact mv.heap b o (by simp only [List.mem_cons, List.mem_singleton, List.not_mem_nil, or_false, not_or]; exact ⟨b1, b2⟩) (Heap.get?_push_of_some _ (Heap.get?_push_of_some _ e))

      · cases r2 with
        | error e => exact hr2
        | ok f2 =>
          cases f2 with
          | ret r =>
            obtain ⟨rfl, h1, tk, rfl, hS1, hk1⟩ := hr2
            repeat (any_goals (first | assumption | wp_step))
            exact h _ _ hS1 hk1
          | _ => exact hr2.elim
    | _ => exact hr.elim
end
theorem pe_lenSetT {X : Cx} {a : Expr} {ta : TE} {p p2 q pos : Pos} (hc : X.calm = true) (hg : Gl X "len") (hm : X.mg "len" = none) (hg2 : Gl X "set") (hm2 : X.mg "set" = none) (ha : PE X a ta) (na : starEach [a] X.env = (false, eval a X.env) :: starEach [] X.env) :
    PE X (.Call (.Name "len" p) [.Call (.Name "set" p2) [a] [] q] [] pos) (tUn (fun x H Q => rLenSet X.K [x] H Q) ta) := by
  refine ⟨fun pins s σ H Q I h => ?_⟩
  refine Call_ (ld_blt I hg hm boot_len (PyProof.Rows.callWith_builtin1 (PyProof.Rows.args_cons ?_ rfl) rfl rfl))
  refine Call_ (ld_blt I hg2 hm2 boot_set (PyProof.Rows.callWith_type1 (PyProof.Rows.args_cons (thn (ha.run pins s σ H _ I h) fun v s1 ⟨x, H1, I1, r1, q1⟩ => PyProof.Rows.args_nil ?_) na) na rfl))
  obtain ⟨l, xs, e, hq, h1, q1⟩ := q1
  cases e
  cases r1
  obtain ⟨its, r, pl, hz⟩ := I1.tuple hq
  refine call_setTx (I1.ok.hd hc) pl (by simpa using strsAre_of r) h1 fun h2 tk hS hk => ?_
  refine PyProof.Rows.args_nil ?_
  have hl : its.toArray.size = xs.length := by rw [List.size_toArray, ← r.length, List.length_map]
  rw [hl] at hS
  obtain ⟨o, es, ep, t, ho, hex, hd, _, _, _, hf, hn⟩ := hS
  have I2 : Inv X pins σ H1 { s1 with heap := h2, toks := tk } := I1.kept fun b o e => hk b o (Heap.lt_size e) e
  have cl := cntT_le xs xs.length
  exact call_len_set ho hex hd hf (by rw [hn] <;> omega) ⟨.int (cntT xs xs.length), H1, I2.tok _, ⟨_, by rw [hn]⟩, q1⟩
end Ev
set_option maxHeartbeats 3200000
/-! Ru7: sum(lists, []). -/
namespace Ev
open PySem PySem.Spec PyProof.Rows L2
abbrev LsAt (h : Heap) (zs : List (Addr × List Value)) : Prop := ∀ z ∈ zs, ∃ n, IsL h z.1 z.2.toArray n
section
variable {prog : Program} {w : World} {A : Around} {R : Result → Shared → Prop} {J : Addr} {fp wr : List Addr} {G : Array GenState → Array GenState → Prop} {m : Nat} {P : Nat → Value → Prop} {St : Nat → Shared → Prop}
theorem loopSum (W : WalksS prog w A.in1 J fp wr G m P St) (S : Addr) (hSf : S ∉ fp) (zs : List (Addr × List Value)) (hm : zs.length = m) (hval : ∀ i v, P i v → ∃ z, zs[i]? = some z ∧ v = .ref z.1) (hzw : ∀ z ∈ zs, z.1 ∉ wr ∧ z.1 ≠ S) (hfp : ∀ i s, St i s → ∀ b ∈ fp, ∃ o, s.heap.get? b = some o) :
    ∀ (k i : Nat) (s : Shared) (T : Addr) (c nT : Nat) (acc : List Value), m - i = k → i ≤ m → St i s → LsAt s.heap zs →
      s.heap.get? S = some { cls := .type "list", dict := none, data := .seq #[.ref T] c, slots := #[] } → T ∉ wr → T ≠ S → IsL s.heap T acc.toArray nT → acc.length + ((zs.drop i).map (·.2)).flatten.length ≤ sizeLine →
      (∀ z T1 n1, Moved (S :: wr) G s z → (T1 = T ∨ s.heap.get? T1 = none) → IsL z.heap T1 (acc ++ ((zs.drop i).map (·.2)).flatten).toArray n1 → R (.ok (.ret (.ref T1))) z) →
      codeAny (model prog w) A (.builtin "sum.loop" ⟨[.ref J, .ref S, rawInt 2, rawInt 0], []⟩) R s := by
  have nSw : S ∉ wr := fun h => hSf (W.sub _ h)
  have up : ∀ b ∈ wr, b ∈ S :: wr := fun b hb => List.mem_cons_of_mem _ hb
  intro k
  induction k with
  | zero =>
    intro i s T c nT acc hk hi st hz hS tw tS hT hsz hR
    obtain rfl : i = m := by omega
    rw [List.drop_eq_nil_of_le (by omega), List.map_nil, List.flatten_nil, List.append_nil] at hR
    refine codeAny_builtin F.entry_sum_loop ?_; rw [Around.under_plainId F.plain_sum_loop _]
    show wpAny _ A.in1 (seqItems? (.ref S) >>= _) _ _ s
    refine wpAny_bind (wpAny_seqItems hS rfl ?_)
    show wpAny _ A.in1 (tryCatch (pyNext (.ref J)) _ >>= _) _ _ s
    refine wpAny_bind (wpAny_tryCatch (W.done s _ _ st fun z mv => ?_))
    exact wpAny_pure (hR z T nT (mv.mono up) (.inl rfl) (mv.heap T _ tw hT))
  | succ k ih =>
    intro i s T c nT acc hk hi st hz hS tw tS hT hsz hR
    have lt : i < m := by omega
    have li : i < zs.length := by omega
    have ed : zs.drop i = zs[i] :: zs.drop (i + 1) := List.drop_eq_getElem_cons li
    rw [ed, List.map_cons, List.flatten_cons] at hsz hR
    rw [List.length_append] at hsz
    rw [← List.append_assoc] at hR
    have mz : zs[i] ∈ zs := List.getElem_mem li
    refine codeAny_builtin F.entry_sum_loop ?_; rw [Around.under_plainId F.plain_sum_loop _]
    show wpAny _ A.in1 (seqItems? (.ref S) >>= _) _ _ s
    refine wpAny_bind (wpAny_seqItems hS rfl ?_)
    show wpAny _ A.in1 (tryCatch (pyNext (.ref J)) _ >>= _) _ _ s
    refine wpAny_bind (wpAny_tryCatch (W.item i s _ _ lt st fun v z hP st1 mv => ?_))
    obtain ⟨y, hy, rfl⟩ := hval i v hP
    rw [List.getElem?_eq_getElem li] at hy
    cases hy
    have hS1 := mv.heap S _ nSw hS
    have hT1 := mv.heap T _ tw hT
    obtain ⟨n1, hz1⟩ := hz _ mz
    have hz2 := mv.heap _ _ (hzw _ mz).1 hz1
    have lS : S < z.heap.objs.size := Heap.lt_size hS1
    show wpAny _ A.in1 ((holding [Value.ref zs[i].1] (binaryOp .Add (.ref T) (.ref zs[i].1))).attempt >>= _) _ _ _
    refine wpAny_bind (wpAny_attempt (wpAny_holding (PySem.P.add_list hT1 hz2 ?_ (by rw [List.size_toArray, List.size_toArray]; omega))))
    have hS2 : (z.heap.push { cls := .type "list", data := .seq (acc.toArray ++ zs[i].2.toArray) }).get? S = some { cls := .type "list", dict := none, data := .seq #[.ref T] c, slots := #[] } := Heap.get?_push_of_some _ hS1
    show wpAny _ A.in1 (updateSeq S (fun _ => #[.ref z.heap.objs.size]) >>= _) _ _ _
    refine wpAny_bind (wpAny_updateSeq hS2 rfl ?_)
    have hS3 := Heap.get?_update_self (Obj.mapSeq fun _ => #[Value.ref z.heap.objs.size]) hS2 rfl
    refine wpAny_bind (wpAny_letGo (wpAny_bind (wpAny_updateSeq hS3 rfl (wpAny_pure ⟨plainId_quiet F.plain_sum_loop _, ?_⟩))))
    have hS4 := Heap.get?_update_self (Obj.mapSeq fun _ => #[Value.ref z.heap.objs.size]) hS3 rfl
    have old : ∀ b o, b ≠ S → z.heap.get? b = some o → (((z.heap.push { cls := .type "list", data := .seq (acc.toArray ++ zs[i].2.toArray) }).update S (Obj.mapSeq fun _ => #[Value.ref z.heap.objs.size])).update S (Obj.mapSeq fun _ => #[Value.ref z.heap.objs.size])).get? b = some o := fun b o nb e =>
      (Heap.get?_update_other _ _ (Ne.symm nb)).trans ((Heap.get?_update_other _ _ (Ne.symm nb)).trans (Heap.get?_push_of_some _ e))
    have tf : z.heap.objs.size ∉ fp := fun h => by
      obtain ⟨o, e⟩ := hfp _ _ st1 _ h
      exact Nat.lt_irrefl _ (Heap.lt_size e)
    have st2 := W.frame _ z _ _ st1 (Nat.le_refl _) fun b hb o e => old b o (fun h => hSf (h ▸ hb)) e
    refine ih (i + 1) _ z.heap.objs.size _ 0 (acc ++ zs[i].2) (by omega) lt st2 (fun y my => ?_) hS4 (fun h => tf (W.sub _ h)) (fun h => Nat.ne_of_gt lS h) ?_ (by rw [List.length_append]; omega) fun z2 T2 n2 mv2 hT2 hI2 => ?_
    · obtain ⟨n, e⟩ := hz y my
      exact ⟨n, old _ _ (hzw y my).2 (mv.heap _ _ (hzw y my).1 e)⟩
    · show Heap.get? _ _ = _
      rw [Heap.get?_update_other _ _ (Nat.ne_of_lt lS), Heap.get?_update_other _ _ (Nat.ne_of_lt lS)]
      have : acc.toArray ++ zs[i].2.toArray = (acc ++ zs[i].2).toArray := by simp
      rw [this]
      exact Heap.get?_push_size _ rfl
    · refine hR z2 T2 n2 (Moved.trans W.gtrans ((mv.mono up).then_heap (Nat.le_refl _) fun b o hb e => old b o (fun h => hb (h ▸ List.mem_cons_self)) e) mv2) (.inr ?_) hI2
      cases h0 : s.heap.get? T2 with
      | none => rfl
      | some o =>
        exfalso
        have nw : T2 ∉ wr := fun h => by
          rcases hT2 with rfl | h2
          · exact tf (W.sub _ h)
          · obtain ⟨o2, e2⟩ := hfp _ _ st2 _ (W.sub _ h)
            rw [e2] at h2
            cases h2
        have e1 := mv.heap T2 o nw h0
        rcases hT2 with rfl | h2
        · exact Nat.lt_irrefl _ (Heap.lt_size e1)
        · by_cases eS : T2 = S
          · subst eS
            rw [hS4] at h2
            cases h2
          · rw [old T2 o eS e1] at h2
            cases h2
end
/-- what the layer tracks is there -/
theorem objOk_has {P : Program} {w : World} {H : Hp} {h : Heap} {a : Addr} {o : HO} (x : ObjOk P w H h a o) : ∃ u, h.get? a = some u := by
  cases o with
  | lst xs => obtain ⟨_, _, _, _, e⟩ := x; exact ⟨_, e⟩
  | tup xs => obtain ⟨_, _, _, u, e, _⟩ := x; exact ⟨_, e⟩
  | dK kvs => obtain ⟨_, _, _, _, u, _, _, e, _⟩ := x; exact ⟨_, e⟩
  | dT kvs => obtain ⟨_, _, _, _, u, _, _, e, _⟩ := x; exact ⟨_, e⟩
  | set S n => obtain ⟨u, _, _, _, e, _⟩ := x; exact ⟨_, e⟩
  | ins C dx fs => obtain ⟨_, _, _, e, _⟩ := x; exact ⟨_, e⟩
  | own y => exact x
  | xd fs => obtain ⟨_, ⟨_, _, _, e, _⟩, _⟩ := x; exact ⟨_, e⟩
  | rng lo hi => obtain ⟨_, _, _, e⟩ := x; exact ⟨_, e⟩
  | frz ob u => exact ⟨_, x.1⟩
  | tbl ps => exact ⟨_, x⟩
  | met f y => exact ⟨_, x⟩
  | ext φ => exact x.2.1
theorem args_sum2 (a b : Value) : argsOk "sum" ⟨[a, b], []⟩ := by unfold argsOk; kernel_rfl
section
variable {prog : Program} {w : World} {A : Around} {E : Value → Shared → Prop} {s : Shared}
theorem call_sumL {l t : Addr} {nt : Nat} {zs : List (Addr × List Value)} {Q : Value → Shared → Prop} (hh : A.handled = none) (hl : s.heap.IsList l (zs.map fun z => Value.ref z.1).toArray) (ht : IsL s.heap t #[] nt) (hz : LsAt s.heap zs) (hsz : (zs.map (·.2)).flatten.length ≤ sizeLine)
    (h : ∀ h1 tk T1 n1, (∀ b o, s.heap.get? b = some o → h1.get? b = some o) → (T1 = t ∨ s.heap.get? T1 = none) → IsL h1 T1 ((zs.map (·.2)).flatten).toArray n1 → Q (.ref T1) { s with heap := h1, toks := tk }) :
    wpAny (model prog w) A (call (.builtin "sum") [.ref l, .ref t]) Q E s := by
  refine call_function_tree F.kind_sum F.plain_sum F.entry_sum (args_sum2 _ _) ?_
  unfold Builtin.«sum»; simp only [List.length_cons, List.length_nil]
  rw [if_neg (by decide)]
  refine wpAny_bind (wpAny_of_eq (show Builtin.Builtins.bindParams "sum" ["start"] 0 ⟨[.ref t], []⟩ = pure [some (.ref t)] from rfl) ?_)
  refine wpAny_bind (wpAny_pyIter_list hl ?_)
  refine wpAny_bind (wpAny_pure ?_)
  let it : Obj := { cls := .type "list_iterator", data := .fields #[.ref l, .int 0 0] }
  have tyT : Shared.TypeIs { s with heap := s.heap.push it } (.ref t) "list" := ⟨_, Heap.get?_push_of_some _ ht, rfl⟩
  simp only [List.forIn_cons, List.forIn_nil]
  refine wpAny_bind (wpAny_bind (wpAny_bind (wpAny_isInstance (T := "list") (b := false) tyT F.sub_list_str ?_)))
  simp only [Bool.false_eq_true, if_false]
  refine wpAny_pure (wpAny_bind (wpAny_bind (wpAny_isInstance (T := "list") (b := false) tyT F.sub_list_bytes ?_))); simp only [Bool.false_eq_true, if_false]
  refine wpAny_pure (wpAny_bind (wpAny_bind (wpAny_isInstance (T := "list") (b := false) tyT F.sub_list_bytearray ?_))); simp only [Bool.false_eq_true, if_false]
  refine wpAny_pure (wpAny_pure ?_)
  refine wpAny_bind (wpAny_newObj_type ?_)
  have hh1 : A.in1.handled = none := by simp [hh]
  have lJ : l < s.heap.objs.size := by obtain ⟨o, e, _⟩ := hl; exact Heap.lt_size e
  have tJ : t < s.heap.objs.size := Heap.lt_size ht
  have nJ : l ≠ s.heap.objs.size := Nat.ne_of_lt lJ
  have sz1 : (s.heap.push it).objs.size = s.heap.objs.size + 1 := Heap.size_push ..
  have W := (Walks.list (prog := prog) (w := w) hh1 s.heap.objs.size l nJ (zs.map fun z => Value.ref z.1).toArray).toS
  have isl : ((s.heap.push it).push { cls := .type "list", data := .seq #[.ref t] }).IsList l (zs.map fun z => Value.ref z.1).toArray := (hl.push _).push _
  have isi : ((s.heap.push it).push { cls := .type "list", data := .seq #[.ref t] }).IsListIter s.heap.objs.size l 0 := ⟨_, Heap.get?_push_of_some _ (Heap.get?_push_size _ rfl), rfl, rfl⟩
  refine wpAny_pure ⟨plainId_quiet F.plain_sum_loop _, loopSum W (s.heap.push it).objs.size ?_ zs (by simp) (fun i v e => ?_) (fun z mz => ?_) (fun i z st b hb => ?_) (zs.length - 0) 0 _ t 0 nt [] (by simp) (Nat.zero_le _) ⟨isi, isl⟩ (fun z mz => ?_) (Heap.get?_push_size _ rfl) ?_ ?_ ?_ (by simpa using hsz) fun z T1 n1 mv hT hI => ?_⟩
  · rw [sz1]
    simp only [List.mem_cons, List.not_mem_nil, or_false, not_or]
    exact ⟨Nat.succ_ne_self _, Nat.ne_of_gt (Nat.lt_succ_of_lt lJ)⟩
  · have e : (zs.map fun z => Value.ref z.1).toArray[i]? = some v := e
    rw [List.getElem?_toArray, List.getElem?_map] at e
    cases hz0 : zs[i]? with
    | none => rw [hz0] at e; cases e
    | some y => rw [hz0] at e; cases e; exact ⟨y, rfl, rfl⟩
  · obtain ⟨n, e⟩ := hz z mz
    have := Heap.lt_size e
    rw [sz1]
    simp only [List.mem_cons, List.not_mem_nil, or_false]
    exact ⟨Nat.ne_of_lt this, Nat.ne_of_lt (Nat.lt_succ_of_lt this)⟩
  · have st : z.heap.IsListIter s.heap.objs.size l i ∧ z.heap.IsList l (zs.map fun z => Value.ref z.1).toArray := st
    simp only [List.mem_cons, List.not_mem_nil, or_false] at hb
    rcases hb with rfl | rfl
    · obtain ⟨o, e, _⟩ := st.1; exact ⟨o, e⟩
    · obtain ⟨o, e, _⟩ := st.2; exact ⟨o, e⟩
  · obtain ⟨n, e⟩ := hz z mz
    exact ⟨n, Heap.get?_push_of_some _ (Heap.get?_push_of_some _ e)⟩
  · simp only [List.mem_cons, List.not_mem_nil, or_false]; exact Nat.ne_of_lt tJ
  · rw [sz1]; exact Nat.ne_of_lt (Nat.lt_succ_of_lt tJ)
  · exact Heap.get?_push_of_some _ (Heap.get?_push_of_some _ ht)
  · obtain ⟨h1, g1, d1, tk1, os1⟩ := z
    obtain rfl : g1 = s.gens := mv.gens
    obtain rfl : d1 = s.drawn := mv.drawn
    obtain rfl : os1 = s.os := mv.os
    refine h h1 tk1 T1 n1 (fun b o e => ?_) ?_ (by simpa using hI)
    · have := Heap.lt_size e
      exact mv.heap b o (by rw [sz1]; simp only [List.mem_cons, List.not_mem_nil, or_false, not_or]; exact ⟨Nat.ne_of_lt (Nat.lt_succ_of_lt this), Nat.ne_of_lt this⟩) (Heap.get?_push_of_some _ (Heap.get?_push_of_some _ e))
    · rcases hT with hT | hT
      · exact .inl hT
      · refine .inr ?_
        cases h0 : s.heap.get? T1 with
        | none => rfl
        | some o =>
          rw [Heap.get?_push_of_some _ (Heap.get?_push_of_some _ h0)] at hT
          cases hT
end
theorem sqL_new {K : PySem.W.Frag} {H H1 : Hp} {a : Addr} {xs : List V} (h : SqL K H a xs) (n : New H H1) : SqL K H1 a xs := by
  rcases h with (h | ⟨o, h⟩) | h
  · exact .inl (.inl (n a _ h))
  · exact .inl (.inr ⟨o, n a _ h⟩)
  · exact .inr h
theorem pe_sumL {X : Cx} {a : Expr} {ta : TE} {p p2 pos : Pos} (hc : X.calm = true) (hg : Gl X "sum") (hm : X.mg "sum" = none) (ha : PE X a ta) (na : starEach [a, .List [] p2] X.env = (false, eval a X.env) :: starEach [.List [] p2] X.env) :
    PE X (.Call (.Name "sum" p) [a, .List [] p2] [] pos) (tUn (fun x H Q => rSumL X.K [x] H Q) ta) := by
  refine ⟨fun pins s σ H Q I h => ?_⟩
  refine wpAny_Call_Name_kw (ld_blt I hg hm (show bootBuiltins (Str.ofString "sum") = some (.builtin "sum") by decide +kernel) (PyProof.Rows.callWith_builtin1 (PyProof.Rows.args_cons (thn (ha.run pins s σ H _ I h) fun v s1 ⟨x, H1, I1, r1, q1⟩ => PyProof.Rows.args_cons (thn ((pe_lst (pos := p2) pa_nil).run pins s1 σ H1 (fun y H2 => ∃ t, y = .ref t ∧ H1 t = none ∧ H2 = upd H1 t (.lst [])) I1 ?_) fun u s2 ⟨y, H2, I2, r2, t, ey, ht, eH⟩ => PyProof.Rows.args_nil ?_) rfl) na) na rfl) (by decide) (by decide))
  · exact ⟨Nat.zero_le _, fun p hp => ⟨p, rfl, hp, rfl⟩⟩
  subst ey
  subst eH
  cases r2
  obtain ⟨l, ps, ls, e, hq, hp, hsz, q⟩ := q1
  cases e
  cases r1
  have nw : New H1 (upd H1 t (.lst [])) := New.upd ht
  obtain ⟨its, rv, hl, hz⟩ := I2.list (sqL_new hq nw)
  have ei := refs_at rv
  subst ei
  obtain ⟨zs, ez, hzs, hv⟩ : ∃ zs : List (Addr × List Value), zs.map (·.1) = ps ∧ LsAt s2.heap zs ∧ Vals ls.flatten (zs.map (·.2)).flatten := by
    clear hsz q hl hz rv hq
    induction hp with
    | nil => exact ⟨[], rfl, fun z hz => absurd hz List.not_mem_nil, .nil⟩
    | cons h t ih =>
      obtain ⟨zs, e1, e2, e3⟩ := ih
      obtain ⟨_, its, n, r, _, e⟩ := I2.lstM (nw _ _ h)
      refine ⟨(_, its) :: zs, by rw [List.map_cons, e1], fun z hz => ?_, ?_⟩
      · rcases List.mem_cons.mp hz with rfl | hz
        · exact ⟨n, e⟩
        · exact e2 z hz
      · rw [List.flatten_cons, List.map_cons, List.flatten_cons]
        exact r.append e3
  have hmap : ps.map Value.ref = zs.map fun z => Value.ref z.1 := by rw [← ez, List.map_map]; rfl
  rw [hmap] at hl
  obtain ⟨_, it0, n0, r0, l0, e0⟩ := I2.lstM (upd_same (H := H1) (a := t) (o := .lst []))
  cases r0
  have hln := hv.length
  refine call_sumL (I2.ok.hd hc) hl.isList e0 hzs (by rw [← hln]; exact hsz) fun h1 tk T1 n1 keep hT hI => ?_
  by_cases eT : T1 = t
  · subst eT
    have e1 := keep _ _ e0
    have e2 : ((zs.map (·.2)).flatten).toArray = (#[] : Array Value) := by
      have e3 := e1.symm.trans hI
      injection e3 with e4
      injection e4 with _ _ e5 _
      injection e5 with e6 _
      exact e6.symm
    have e3 : ls.flatten = [] := by
      apply List.length_eq_zero_iff.mp
      rw [hln]
      simpa using congrArg Array.size e2
    exact ⟨.ref T1, _, I2.kept keep, rfl, q _ T1 nw ht (by rw [e3]; exact upd_same)⟩
  · have hn : s2.heap.get? T1 = none := hT.resolve_left eT
    have hH : (upd H1 t (.lst [])) T1 = none := by
      cases h0 : (upd H1 t (.lst [])) T1 with
      | none => rfl
      | some o =>
        obtain ⟨u, e⟩ := objOk_has (I2.hok T1 o h0)
        rw [hn] at e
        cases e
    have hH1 : H1 T1 = none := by rw [upd_ne eT] at hH; exact hH
    refine ⟨.ref T1, _, I2.laidN (t' := tk) keep hn hH (o := .lst ls.flatten) ⟨hsz, _, n1, hv, hI⟩, rfl, q _ T1 (fun b o e => ?_) hH1 upd_same⟩
    rw [upd_ne (ne_of_none (nw b o e) hH)]
    exact nw b o e
end Ev
set_option maxHeartbeats 3200000
/-! Ru8: sorted of rows that may begin with like texts (nested tuples of whole numbers and texts). -/
namespace Ev
open PySem PySem.Spec PyProof.Rows L2 RZ StX PySem.SeqAt
/-- the pairs of two rows, as far as they are looked at -/
inductive Lz (A : Around) (s : Shared) (fin : Bool) : List (Value × Value) → Bool → Prop
  | nil : Lz A s fin [] fin
  | yes {u v : Value} {r : List (Value × Value)} {k : Bool} : EqAt A s u v true → Lz A s fin r k → Lz A s fin ((u, v) :: r) k
  | no {u v : Value} {r : List (Value × Value)} {k : Bool} : EqAt A s u v false → RcLt A s u v k → Lz A s fin ((u, v) :: r) k
section
open AutoSeq1 (wpAny_loadPart')
open MeetsSeq MeetsSeq2 MeetsSeq3 SeqRoads2
theorem tup_ltz (p q : Addr) (ps qs : Array Value) (n m : Nat) (d1 d2 : Option Addr) (t1 t2 : Array (Option Value)) (k : Bool) :
    Meets (Builtin.«tuple.__lt__» ⟨[.ref p, .ref q], []⟩)
      (fun A R s => s.heap.get? p = some { cls := .type "tuple", dict := d1, data := .seq ps n, slots := t1 } ∧
        s.heap.get? q = some { cls := .type "tuple", dict := d2, data := .seq qs m, slots := t2 } ∧
        Lz A.in1 s (decide (ps.size < qs.size)) (ps.toList.zip qs.toList) k ∧ R (.ok (.ret (.bool k))) s) :=
  .of_wp fun prog w A R s hz => by
    obtain ⟨hp, g, d, tk, os⟩ := s
    obtain ⟨h1, h2, hl, hr⟩ := hz
    have sub := AutoSeq1.sub_tuple_tuple
    wp_walk using wpAny_loadPart' h1, wpAny_loadPart' h2, wpAny_forIn_list _ (fun left st z => st.1 = none ∧ z = ⟨hp, g, d, tk, os⟩ ∧ Lz A.in1 ⟨hp, g, d, tk, os⟩ (decide (ps.size < qs.size)) left k) _
    case turn =>
      rintro ⟨u, v⟩ left st z ⟨hn, rfl, hz⟩
      cases hz with
      | yes he hr2 =>
        refine wpAny_bind (he prog w _ _ ?_)
        wp_walk
        exact ⟨rfl, rfl, hr2⟩
      | no he hlt =>
        refine wpAny_bind (he prog w _ _ ?_)
        have less : ∀ (E : Value → Shared → Prop) (Q : Value → Shared → Prop), Q (.bool k) ⟨hp, g, d, tk, os⟩ → wpAny (model prog w) A.in1 (PySem.richCompare .Lt u v) Q E ⟨hp, g, d, tk, os⟩ := fun E Q h => hlt prog w E Q h
        generalize hRC : @PySem.richCompare = RC at less ⊢
        wp_walk
        refine less _ _ ?_
        wp_walk
        exact ⟨_, rfl, hr⟩
    case fin =>
      rintro ⟨st, _⟩ z ⟨hn, rfl, hz⟩
      simp only at hn
      subst hn
      cases hz
      wp_walk
      exact ⟨_, rfl, by simpa [Builtin.Tuple.tupleCompareSizes] using hr⟩
    case h =>
      exact ⟨rfl, rfl, hl⟩
end
section
variable {A : Around} {s : Shared}
theorem rc_ltz {p q : Addr} {ps qs : Array Value} {k : Bool} (hp : s.heap.IsTuple p ps) (hq : s.heap.IsTuple q qs) (hu : A.units < cLine) (hz : Lz A.in1 s (decide (ps.size < qs.size)) (ps.toList.zip qs.toList) k) : RcLt A s (.ref p) (.ref q) k := by
  intro prog w E Q hQ
  obtain ⟨⟨c1, d1, a1, t1⟩, g1, e1, n1, e2⟩ := id hp
  obtain ⟨⟨c2, d2, a2, t2⟩, g2, e3, n2, e4⟩ := id hq
  simp only at e1 e2 e3 e4
  subst e1 e2 e3 e4
  refine richCompare_meets_room (op := .Lt) ⟨_, g1, rfl⟩ ⟨_, g2, rfl⟩ F.slot_tuple_lt F.entry_tuple_lt (F.args_tuple_lt_2 _ _) (tup_ltz p q ps qs n1 n2 d1 d2 t1 t2 k) ?_ hu
  exact ⟨g1, g2, hz, (show Value.bool k ≠ Value.notImplemented ∧ Q (.bool k) s from ⟨(fun x => nomatch x), hQ⟩)⟩
theorem canLayAll_cons {x : PyData} {xs : List PyData} (h : PyData.canLayAll0 (x :: xs) = true) : x.canLay0 = true ∧ PyData.canLayAll0 xs = true := by
  simpa [PyData.canLayAll0] using h
mutual
theorem rc_tr : ∀ (da db : PyData) (A : Around) (a b : Value) (as bs : List Addr), Reads s.heap a da as → Reads s.heap b db bs → da.canLay0 = true → db.canLay0 = true → cpP da db = true → A.units + min da.depth db.depth < cLine → RcLt A s a b (ltP da db)
  | .int i, db, A, a, b, as, bs, ra, rb, _, _, hc, _ => by
    cases db with
    | int j =>
      cases ra
      cases rb
      rw [ltP]
      intro prog w E Q hQ
      exact P.lt_int hQ
    | _ => simp [cpP] at hc
  | .str i, db, A, a, b, as, bs, ra, rb, _, _, hc, _ => by
    cases db with
    | str j =>
      cases ra
      cases rb
      rw [ltP]
      intro prog w E Q hQ
      exact P.lt_str hQ
    | _ => simp [cpP] at hc
  | .tuple xs, db, A, a, b, as, bs, ra, rb, ca, cb, hc, hu => by
    cases db with
    | tuple ys =>
      cases ra with
      | @tuple l o vs n _ as₁ h1 h2 h3 h4 =>
        cases rb with
        | @tuple l' o' ws m _ bs₁ k1 k2 k3 k4 =>
          have n1 : vs.size = xs.length := by simpa using ReadsAll.length _ _ _ h4
          have n2 : ws.size = ys.length := by simpa using ReadsAll.length _ _ _ k4
          rw [PyData.depth, PyData.depth] at hu
          rw [ltP]
          refine rc_ltz ⟨_, h1, h2, _, h3⟩ ⟨_, k1, k2, _, k3⟩ (room_here hu) ?_
          refine lz_tr xs ys A.in1 vs.toList ws.toList _ _ _ h4 k4 (by simpa [PyData.canLay0] using ca) (by simpa [PyData.canLay0] using cb) (by simpa [cpP] using hc) (room_in hu) (by rw [n1, n2])
    | _ => simp [cpP] at hc
  | .none, _, _, _, _, _, _, _, _, _, _, hc, _ => by simp [cpP] at hc
  | .bool _, _, _, _, _, _, _, _, _, _, _, hc, _ => by simp [cpP] at hc
  | .list _, _, _, _, _, _, _, _, _, _, _, hc, _ => by simp [cpP] at hc
  | .dict _, _, _, _, _, _, _, _, _, _, _, hc, _ => by simp [cpP] at hc
theorem lz_tr : ∀ (xs ys : List PyData) (A : Around) (vs ws : List Value) (as bs : List Addr) (fin : Bool), ReadsAll s.heap vs xs as → ReadsAll s.heap ws ys bs → PyData.canLayAll0 xs = true → PyData.canLayAll0 ys = true → cpPs xs ys = true → A.units + min (PyData.depthAll xs) (PyData.depthAll ys) < cLine → fin = decide (xs.length < ys.length) → Lz A s fin (vs.zip ws) (ltPs xs ys)
  | [], ys, A, vs, ws, as, bs, fin, ra, rb, _, _, _, _, hf => by
    cases ra
    have e : ltPs [] ys = fin := by
      rw [ltPs, hf]
      cases ys <;> simp
    rw [e, List.zip_nil_left]
    exact .nil
  | x :: xs, [], A, vs, ws, as, bs, fin, ra, rb, _, _, _, _, hf => by
    cases rb
    have e : ltPs (x :: xs) [] = fin := by
      rw [ltPs, hf]
      simp
    rw [e, List.zip_nil_right]
    exact .nil
  | x :: xs, y :: ys, A, vs, ws, as, bs, fin, ra, rb, ca, cb, hc, hu, hf => by
    cases ra with
    | cons r1 r2 =>
      cases rb with
      | cons q1 q2 =>
        have ca := canLayAll_cons ca
        have cb := canLayAll_cons cb
        rw [PyData.depthAll, PyData.depthAll] at hu
        have he := eqAt_reads x y A s _ _ _ _ r1 q1 ca.1 cb.1 (room_head hu)
        rw [cpPs] at hc
        rw [ltPs, List.zip_cons_cons]
        cases e : PyData.eqv x y with
        | true =>
          rw [e] at he hc
          simp only [if_true] at hc ⊢
          exact .yes he (lz_tr xs ys A _ _ _ _ fin r2 q2 ca.2 cb.2 hc (room_tail hu) (by rw [hf]; simp))
        | false =>
          rw [e] at he hc
          simp only [Bool.false_eq_true, if_false] at hc ⊢
          exact .no he (rc_tr x y A _ _ _ _ r1 q1 ca.1 cb.1 hc (room_head hu))
end
/-- as the sort looks at two rows, behind the first items -/
theorem kat_lz {prog : Program} {w : World} {A : Around} {b fin : Bool} {Q : Bool → Shared → Prop} {k : Bool} : ∀ {l : List (Value × Value)} {i : Nat}, Lz A s fin l k → 0 < i → Q k s → PySem.W.KatLex prog w A b fin Q l i s
  | _, _, .nil, _, hq => PySem.W.kat_nil hq
  | _, i, .yes e r, hi, hq => PySem.W.kat_cons (e prog w _ _ (PySem.W.kat_yes (kat_lz r (Nat.succ_pos i) hq)))
  | _, i, .no e r, hi, hq => PySem.W.kat_cons (e prog w _ _ (PySem.W.kat_no (by
      have hb : (b && i == 0) = false := by
        have : (i == 0) = false := by simp; omega
        rw [this, Bool.and_false]
      rw [hb, oneLt'_eq]
      simp only [Bool.false_eq_true, if_false]
      exact wpAny_bind (r prog w _ _ (wpAny_truthy_bool hq)))))
end
end Ev
set_option maxHeartbeats 3200000
/-! Ru9: the call sorted(..) of such rows. -/
namespace Ev
open PySem PySem.Spec PyProof.Rows L2 RZ StX PySem.SeqAt
section
variable {prog : Program} {w : World} {A : Around} {E : Value → Shared → Prop} {s : Shared}
/-- what a tuple's items are when they are collected -/
theorem collect_tp {p : Addr} {us : List Value} {Q : List Value → Shared → Prop} (ht : s.heap.IsTuple p us.toArray) (hn : us.length ≤ sizeLine)
    (hQ : Q us { s with heap := (s.heap.push (seqObj "list" #[] 0)).update s.heap.objs.size (Obj.mapSeq (· ++ us.toArray)) }) : wpAny (model prog w) A (collect (.ref p)) Q E s := by
  obtain ⟨ob, g1, g2, m, g3⟩ := id ht
  have fresh : (s.heap.push (seqObj "list" #[] 0)).get? s.heap.objs.size = some (seqObj "list" #[] 0) := Heap.get?_push_size _ rfl
  have g4 : (s.heap.push (seqObj "list" #[] 0)).get? p = some ob := Heap.get?_push_of_some _ g1
  have small : (#[] ++ us.toArray).size ≤ sizeLine + 1 := by
    simp only [Array.size_append, List.size_toArray, List.length_nil]
    omega
  unfold collect
  refine wpAny_bind (wpAny_runValue (codeAny_builtin entry_proto_collect' (?_ : wpAny _ _ (do again (.builtin "list.__iadd__" ⟨[← newList [], .ref p], []⟩)) _ _ s)))
  refine wpAny_bind (wpAny_newList (wpAny_pure ⟨Code.quiet_builtin _ (by decide +kernel), codeAny_builtin entry_list_iadd' (?_ : wpAny _ _ (Builtin.List.listExtendWith (.ref s.heap.objs.size) (.ref p) (.ref s.heap.objs.size)) _ _ { s with heap := s.heap.push (seqObj "list" #[] 0) })⟩))
  unfold Builtin.List.listExtendWith
  refine wpAny_bind (wpAny_typeOf (T := "tuple") ⟨ob, g4, g2⟩ ?_)
  have isT : (Value.type "tuple" == Value.type "tuple") = true := rfl
  rw [if_pos (by rw [isT]; simp)]
  refine wpAny_bind (listItems_at g4 g3 (wpAny_bind (listItems_at fresh rfl ?_)))
  rw [if_neg (by simp)]
  refine wpAny_bind (listUpdate_at fresh rfl ?_ (Nat.zero_le _) small)
  refine wpAny_pure (?_ : wpAny (model prog w) A (load s.heap.objs.size >>= _) Q E { s with heap := (s.heap.push (seqObj "list" #[] 0)).update s.heap.objs.size (Obj.mapSeq (· ++ us.toArray)) })
  refine wpAny_bind (wpAny_load (get?_update_seq fresh _) (?_ : wpAny _ _ (pure ((#[] : Array Value) ++ us.toArray).toList) Q E _))
  have el : ((#[] : Array Value) ++ us.toArray).toList = us := by simp
  rw [el]
  exact wpAny_pure hQ
open SrtO in
theorem sorted_tp {p : Addr} {us : List Value} {lt : Value → Value → Bool} {Q : Value → Shared → Prop} (O : Swo lt) (ht : s.heap.IsTuple p us.toArray) (hn : us.length ≤ sizeLine)
    (hS : 2 ≤ us.length → ∀ (h₁ : Heap) (a : Addr), h₁.get? a = some (seqObj "list" us.toArray 0) → (∀ b o, s.heap.get? b = some o → b ≠ a ∧ h₁.get? b = some o) → SortableO prog w A.in1.in1 { s with heap := h₁ } a us lt)
    (hQ : ∀ out : List Value, Srtd lt out → Stb lt out us → Q (.ref (s.heap.objs.size + 1)) { s with heap := sortedAll s.heap us out.toArray }) : wpAny (model prog w) A (call (.builtin "sorted") [.ref p]) Q E s := by
  refine Calls.call_function_entry kind_sorted plain_sorted entry_sorted (args_sorted1 _) ?_
  unfold Builtin.«sorted»
  refine wpAny_bind (m := checkCount "sorted" 1 1 _) (wpAny_pure (wpAny_bind (collect_tp ht hn (wpAny_bind (wpAny_newList ?_ hn)))))
  generalize hh : (s.heap.push (seqObj "list" #[] 0)).update s.heap.objs.size (Obj.mapSeq (· ++ us.toArray)) = hp
  have size : hp.objs.size = s.heap.objs.size + 1 := by rw [← hh, Heap.size_update, size_push']
  have new : (hp.push (seqObj "list" us.toArray 0)).get? (s.heap.objs.size + 1) = some (seqObj "list" us.toArray 0) := by
    rw [← size]
    exact Heap.get?_push_size _ rfl
  have old : ∀ b o, s.heap.get? b = some o → b ≠ s.heap.objs.size + 1 ∧ (hp.push (seqObj "list" us.toArray 0)).get? b = some o := fun b o e => by
    have l := Heap.lt_size e
    refine ⟨Nat.ne_of_lt (Nat.lt_succ_of_lt l), Heap.get?_push_of_some _ ?_⟩
    rw [← hh, Heap.get?_update_ne _ _ _ _ (Nat.ne_of_lt l)]
    exact Heap.get?_push_of_some _ e
  show wpAny _ _ _ _ _ { s with heap := hp.push (seqObj "list" us.toArray 0) }
  rw [size]
  refine wpAny_bind (wpAny_holding (wpAny_call_entry slot_list_sort ⟨_, new, rfl⟩ entry_list_sort (list_sort_ord O new hn (fun h2 => hS h2 _ _ new old) fun out o1 o2 => ⟨_, rfl, wpAny_pure ⟨_, rfl, ?_⟩⟩) (args_list_sort _)))
  have := hQ out o1 o2
  unfold sortedAll at this
  rw [hh] at this
  exact this
end
/-- the datum at a reference -/
def datAt (zs : List (D × Addr)) (v : Value) : PyData := match v with
  | .ref a => ((zs.find? fun z => z.2 == a).map fun z => py z.1).getD (.int 0)
  | _ => .int 0
theorem datAt_tr {zs : List (D × Addr)} (h : ∀ z ∈ zs, trP (py z.1) = true) (v : Value) : trP (datAt zs v) = true := by
  unfold datAt
  split
  · rename_i a
    cases hf : zs.find? (fun z => z.2 == a) with
    | none => rfl
    | some z => exact h z (List.mem_of_find?_eq_some hf)
  · rfl
theorem swoT {zs : List (D × Addr)} (h : ∀ z ∈ zs, trP (py z.1) = true) : SrtO.Swo (fun v u : Value => ltP (datAt zs v) (datAt zs u)) :=
  ⟨fun x y e => ltP_asym (datAt_tr h x) (datAt_tr h y) e, fun x y z e e' => ltP_neg (datAt_tr h x) (datAt_tr h y) (datAt_tr h z) e e'⟩
mutual
theorem rd_uniq {h : Heap} : ∀ (d e : PyData) (v : Value) (as bs : List Addr), trP d = true → trP e = true → Reads h v d as → Reads h v e bs → d = e
  | .int _, e, v, _, _, _, te, r, r' => by
    cases r
    rcases tr_cases te with ⟨b, rfl⟩ | ⟨b, rfl⟩ | ⟨b, rfl, _⟩ <;> cases r'
    rfl
  | .str _, e, v, _, _, _, te, r, r' => by
    cases r
    rcases tr_cases te with ⟨b, rfl⟩ | ⟨b, rfl⟩ | ⟨b, rfl, _⟩ <;> cases r'
    rfl
  | .tuple xs, e, v, _, _, td, te, r, r' => by
    rw [trP] at td
    cases r with
    | @tuple a o vs n _ as h1 h2 h3 h4 =>
      rcases tr_cases te with ⟨b, rfl⟩ | ⟨b, rfl⟩ | ⟨ys, rfl, ty⟩
      · cases r'
      · cases r'
      · cases r' with
        | @tuple a o' vs' n' _ as' k1 k2 k3 k4 =>
          rw [h1] at k1
          cases k1
          rw [h3] at k3
          cases k3
          rw [rds_uniq xs ys _ _ _ td ty h4 k4]
  | .none, _, _, _, _, td, _, _, _ => by simp [trP] at td
  | .bool _, _, _, _, _, td, _, _, _ => by simp [trP] at td
  | .list _, _, _, _, _, td, _, _, _ => by simp [trP] at td
  | .dict _, _, _, _, _, td, _, _, _ => by simp [trP] at td
theorem rds_uniq {h : Heap} : ∀ (ds es : List PyData) (vs : List Value) (as bs : List Addr), trPs ds = true → trPs es = true → ReadsAll h vs ds as → ReadsAll h vs es bs → ds = es
  | [], es, _, _, _, _, _, r, r' => by
    cases r
    cases r'
    rfl
  | d :: ds, es, _, _, _, td, te, r, r' => by
    cases r with
    | cons r1 r2 =>
      cases r' with
      | cons q1 q2 =>
        have td := trPs_cons td
        have te := trPs_cons te
        rw [rd_uniq _ _ _ _ _ td.1 te.1 r1 q1, rds_uniq _ _ _ _ _ td.2 te.2 r2 q2]
end
theorem perm_back {α β : Type} {f : α → β} : ∀ {out : List β} {l : List α}, out.Perm (l.map f) → ∃ m : List α, m.Perm l ∧ m.map f = out
  | [], l, p => by
    have := p.length_eq
    rw [List.length_map] at this
    have : l = [] := List.length_eq_zero_iff.mp this.symm
    subst this
    exact ⟨[], List.Perm.refl _, rfl⟩
  | y :: out, l, p => by
    obtain ⟨x, hx, rfl⟩ := List.mem_map.mp (p.mem_iff.mp (List.mem_cons_self ..))
    obtain ⟨l1, l2, rfl⟩ := List.append_of_mem hx
    have p1 : (l1 ++ x :: l2).Perm (x :: (l1 ++ l2)) := List.perm_middle
    have p2 : out.Perm ((l1 ++ l2).map f) := List.Perm.cons_inv (p.trans (p1.map f))
    have ih : ∃ m : List α, m.Perm (l1 ++ l2) ∧ m.map f = out := perm_back p2
    obtain ⟨m, q1, q2⟩ := ih
    exact ⟨x :: m, (q1.cons x).trans p1.symm, by rw [List.map_cons, q2]⟩
section
variable {prog : Program} {w : World} {A : Around} {s : Shared}
theorem row_rd {a : Addr} {d : PyData} {as : List Addr} (r : Reads s.heap (.ref a) d as) (hd : rowP d = true) : ∃ (o : Obj) (x : Str) (t : Tok) (rest : List Value) (xs : List PyData) (bs : List Addr) (n : Nat), d = .tuple (.str x :: xs) ∧ s.heap.get? a = some o ∧ o.cls = .type "tuple" ∧ o.data = .seq (.str x t :: rest).toArray n ∧ ReadsAll s.heap rest xs bs := by
  cases d with
  | tuple ys =>
    cases ys with
    | nil => simp [rowP] at hd
    | cons y xs =>
      cases y with
      | str x =>
        cases r with
        | @tuple a o vs n _ as h1 h2 h3 h4 =>
          generalize hv : vs.toList = l at h4
          cases h4 with
          | @cons v rest _ _ as bs r1 r2 =>
            cases r1 with
            | str _ t =>
              have e : vs = (Value.str x t :: rest).toArray := by rw [← hv]
              exact ⟨o, x, t, rest, xs, bs, n, rfl, h1, h2, by rw [h3, e], r2⟩
      | _ => simp [rowP] at hd
  | _ => simp [rowP] at hd
theorem row_ltT {a b : Addr} {d e : PyData} {as bs : List Addr} {Q : Bool → Shared → Prop} {E : Value → Shared → Prop} (ra : Reads s.heap (.ref a) d as) (rb : Reads s.heap (.ref b) e bs) (hd : rowP d = true) (he : rowP e = true) (cd : d.canLay0 = true) (ce : e.canLay0 = true) (hc : cpP d e = true)
    (hu : A.units + min d.depth e.depth < cLine) (hq : Q (ltP d e) s) : wpAny (model prog w) A (keyLt' (tuples' true) (.ref a) (.ref b)) Q E s := by
  obtain ⟨o, x, t, l, xs, as', n, rfl, h1, h2, h3, h4⟩ := row_rd ra hd
  obtain ⟨o', y, t', m, ys, bs', n', rfl, k1, k2, k3, k4⟩ := row_rd rb he
  refine PySem.W.kat_lt h1 h3 k1 k3 ?_
  have l1 : l.length = xs.length := by simpa using ReadsAll.length _ _ _ h4
  have l2 : m.length = ys.length := by simpa using ReadsAll.length _ _ _ k4
  have cd : PyData.canLayAll0 (.str x :: xs) = true := by simpa [PyData.canLay0] using cd
  have ce : PyData.canLayAll0 (.str y :: ys) = true := by simpa [PyData.canLay0] using ce
  rw [ltP, ltPs] at hq
  rw [cpP, cpPs] at hc
  rw [PyData.depth, PyData.depth, PyData.depthAll, PyData.depthAll, PyData.depth, PyData.depth] at hu
  show PySem.W.KatLex prog w A true _ Q ((.str x t, .str y t') :: l.zip m) 0 s
  refine PySem.W.kat_cons (SeqAt.EqAt.str_str x t y t' prog w _ _ ?_)
  have ex : PyData.eqv (.str x) (.str y) = (x == y) := by rw [PyData.eqv]
  rw [ex] at hq hc
  cases e : (x == y) with
  | true =>
    rw [e] at hq hc
    simp only [if_true] at hq hc
    refine PySem.W.kat_yes (kat_lz (k := ltPs xs ys) (lz_tr xs ys A l m _ _ _ h4 k4 (canLayAll_cons cd).2 (canLayAll_cons ce).2 hc (by omega) ?_) (Nat.succ_pos 0) hq)
    simp [l1, l2]
  | false =>
    rw [e] at hq
    simp only [Bool.false_eq_true, if_false] at hq
    rw [ltP] at hq
    exact PySem.W.kat_no (oneLt_str hq)
theorem rows_tupsT {h : Heap} (s : Shared) : ∀ {zs : List (D × Addr)}, (∀ z ∈ zs, (∃ as, Reads h (.ref z.2) (py z.1) as) ∧ rowP (py z.1) = true) → ∃ fs : List Value, PySem.W.KatTups h (zs.map fun z => Value.ref z.2) fs ∧ fs.length = zs.length ∧ ∀ f ∈ fs, ∃ x t, f = Value.str x t
  | [], _ => ⟨[], PySem.W.KatTups.nil, rfl, fun f hf => absurd hf List.not_mem_nil⟩
  | z :: zs, hz => by
    obtain ⟨fs, h1, h2, h3⟩ := rows_tupsT s (zs := zs) fun y hy => hz y (List.mem_cons_of_mem _ hy)
    obtain ⟨⟨as, r⟩, hr⟩ := hz z (List.mem_cons_self ..)
    obtain ⟨o, x, t, l, xs, bs, n, _, ho, hc, hd, _⟩ := row_rd (s := { s with heap := h }) r hr
    refine ⟨.str x t :: fs, PySem.W.KatTups.cons ho hc hd rfl h1, by simp [h2], fun f hf => ?_⟩
    rcases List.mem_cons.mp hf with rfl | hf
    · exact ⟨_, _, rfl⟩
    · exact h3 f hf
open SrtO in
theorem rows_sortT {a : Addr} {zs : List (D × Addr)} (hne : zs ≠ []) (hk : ∀ z ∈ zs, datAt zs (.ref z.2) = py z.1) (hr : ∀ z ∈ zs, rowOk z.1 = true) (hc : ∀ z ∈ zs, ∀ y ∈ zs, cpP (py z.1) (py y.1) = true)
    (hn : ∀ z ∈ zs, ∀ (h' : Heap), (∀ b o, b ≠ a → s.heap.get? b = some o → h'.get? b = some o) → ∃ as, Reads h' (.ref z.2) (py z.1) as) (hu : A.units + 60 < cLine) :
    SortableO prog w A s a (zs.map fun z => Value.ref z.2) (fun v u => ltP (datAt zs v) (datAt zs u)) := by
  intro h1 keep
  have rd : ∀ z ∈ zs, (∃ as, Reads h1 (.ref z.2) (py z.1) as) ∧ rowP (py z.1) = true := fun z m => ⟨hn z m h1 keep, (rowOk_all (hr z m)).1⟩
  refine ⟨tuples' true, fun Q E hq => ?_, fun p q hp hq => ?_⟩
  · obtain ⟨fs, t1, t2, t3⟩ := rows_tupsT s rd
    refine PySem.W.kat_kind (s := { s with heap := h1 }) (T := .type "str") t1 (by rw [t2]; exact List.length_pos_iff.mpr hne) (fun f hm => ?_) (by rfl) ?_
    · obtain ⟨x, t, rfl⟩ := t3 f hm
      exact PySem.W.Looks.now
    · have e : (Value.type "str" != Value.type "tuple") = true := by first | decide +kernel | rfl | decide
      rw [e]
      exact hq
  · obtain ⟨z, mz, ez⟩ := List.mem_map.mp hp
    obtain ⟨y, my, ey⟩ := List.mem_map.mp hq
    have fin : ltP (py z.1) (py y.1) = lt2 (fun v u => ltP (datAt zs v) (datAt zs u)) p q := by
      show _ = ltP (datAt zs p.1) (datAt zs q.1)
      rw [← ez, ← ey, hk z mz, hk y my]
    rw [← ez, ← ey]
    obtain ⟨⟨as, r1⟩, o1⟩ := rd z mz
    obtain ⟨⟨bs, r2⟩, o2⟩ := rd y my
    have k1 := rowOk_all (hr z mz)
    have k2 := rowOk_all (hr y my)
    refine row_ltT (s := { s with heap := h1 }) r1 r2 o1 o2 k1.2.2.1 k2.2.2.1 (hc z mz y my) ?_ ⟨rfl, fin⟩
    have := k1.2.2.2
    omega
end
open SrtO in
theorem call_sortT {X : Cx} (hu : X.A.units + 200 < cLine) : CallR X (.builtin "sorted") (rSortT X.K) := by
  intro pins s σ H vs us Q I r h
  obtain ⟨a, zs, rfl, hs, hp, hc, hn, q⟩ := h
  rw [Vals.ref1 r]
  have tr : ∀ z ∈ zs, trP (py z.1) = true := fun z hz => (rowOk_all (hp z hz).2).2.1
  have rd : ∀ z ∈ zs, ∃ as, Reads s.heap (.ref z.2) (py z.1) as := fun z hz => Dp.reads I _ _ (.ref z.2) (hp z hz).1 rfl
  have hk : ∀ z ∈ zs, datAt zs (.ref z.2) = py z.1 := by
    intro z hz
    unfold datAt
    simp only
    cases hf : zs.find? fun y => y.2 == z.2 with
    | none =>
      have := List.find?_eq_none.mp hf z hz
      simp at this
    | some y =>
      have e := List.find?_some hf
      have e : y.2 = z.2 := by simpa using e
      have my := List.mem_of_find?_eq_some hf
      obtain ⟨as, r1⟩ := rd y my
      obtain ⟨bs, r2⟩ := rd z hz
      rw [e] at r1
      exact rd_uniq _ _ _ _ _ (tr y my) (tr z hz) r1 r2
  have sz : (zs.map fun z => Value.ref z.2).length ≤ sizeLine := by
    rw [List.length_map]
    have : 1000 ≤ sizeLine := by decide
    omega
  have hS : 2 ≤ (zs.map fun z => Value.ref z.2).length → ∀ (h₁ : Heap) (b : Addr), h₁.get? b = some (seqObj "list" (zs.map fun z => Value.ref z.2).toArray 0) → (∀ c o, s.heap.get? c = some o → c ≠ b ∧ h₁.get? c = some o) →
      SortableO X.prog X.w X.A.in1.in1 { s with heap := h₁ } b (zs.map fun z => Value.ref z.2) (fun v u => ltP (datAt zs v) (datAt zs u)) := by
    intro h2 h₁ b _ kk
    refine rows_sortT (s := { s with heap := h₁ }) (fun e => ?_) hk (fun z hz => (hp z hz).2) hc (fun z hz h' keep => ?_) (by show X.A.units + 1 + 1 + 60 < cLine; omega)
    · rw [e] at h2
      simp at h2
    · obtain ⟨as, r1⟩ := rd z hz
      exact ⟨as, PyProof.Rows.Reads.keeps (fun c o e => keep c o (kk c o e).1 (kk c o e).2) r1⟩
  have fin : ∀ out : List Value, Srtd (fun v u => ltP (datAt zs v) (datAt zs u)) out → Stb (fun v u => ltP (datAt zs v) (datAt zs u)) out (zs.map fun z => Value.ref z.2) →
      ∃ x H', Inv X pins σ H' { s with heap := sortedAll s.heap (zs.map fun z => Value.ref z.2) out.toArray } ∧ RelV x (.ref (s.heap.objs.size + 1)) ∧ Q x H' := by
    intro out o1 o2
    obtain ⟨ys, p1, rfl⟩ := perm_back o2.perm
    have my : ∀ y ∈ ys, y ∈ zs := fun y hy => p1.mem_iff.mp hy
    have sd : Srd (ys.map (·.1)) := by
      have o1 := List.pairwise_map.mp o1
      refine List.pairwise_map.mpr (o1.imp_of_mem fun {x y} hx hy h => ?_)
      have h : ltP (datAt zs (Value.ref y.2)) (datAt zs (Value.ref x.2)) = false := h
      rw [hk x (my x hx), hk y (my y hy)] at h
      exact h
    obtain ⟨ep, he⟩ := PyProof.Rows.sortedAll_at s.heap (zs.map fun z => Value.ref z.2) (ys.map fun z => Value.ref z.2).toArray
    have lo : (ys.map fun z => V.ref z.2).length ≤ sizeLine := by
      rw [List.length_map, p1.length_eq]
      rw [List.length_map] at sz
      exact sz
    have vo : ∀ l : List (D × Addr), Vals (l.map fun z => V.ref z.2) (l.map fun z => Value.ref z.2) := fun l => by
      induction l with
      | nil => exact .nil
      | cons z l ih => exact .cons rfl ih
    exact ⟨.ref _, upd H (s.heap.objs.size + 1) (.lst (ys.map fun z => V.ref z.2)), I.laid (t' := s.toks) (fun _ _ => PyProof.Rows.sortedAll_old) (Nat.le_succ _) ⟨lo, _, ep, vo ys, he⟩, rfl, q _ (I.hok.fresh (Nat.le_succ _)) ys p1 sd⟩
  have same : ∀ its : List Value, Vals (zs.map fun z => V.ref z.2) its → its = zs.map fun z => Value.ref z.2 := by
    have : ∀ (l : List (D × Addr)) (its : List Value), Vals (l.map fun z => V.ref z.2) its → its = l.map fun z => Value.ref z.2 := by
      intro l
      induction l with
      | nil => intro its h; cases h; rfl
      | cons z l ih =>
        intro its h
        cases h with
        | cons h1 h2 =>
          have h1 : _ = Value.ref z.2 := h1
          rw [h1, ih _ h2, List.map_cons]
    exact this zs
  rcases hs with hs | hs
  · obtain ⟨its, rv, hl, _⟩ := I.list hs
    have e := same _ rv
    subst e
    exact sorted_ord (swoT tr) hl.isList sz hS fin
  · obtain ⟨its, rv, hl, _⟩ := I.tuple hs
    have e := same _ rv
    subst e
    exact sorted_tp (swoT tr) hl sz hS fin
theorem call_sortAll {X : Cx} (hu : X.A.units + 200 < cLine) : CallR X (.builtin "sorted") (rSortAll X.K) := by
  intro pins s σ H vs us Q I r h
  rcases h with h | h | h | h
  · exact call_sort2 pins s σ H vs us Q I r h
  · exact cr_sortedS pins s σ H vs us Q I r h
  · exact call_sortRows pins s σ H vs us Q I r h
  · exact call_sortT hu pins s σ H vs us Q I r h
end Ev
/-! Tr1: what is seen of the text; calls; assignments of comprehensions. -/
namespace Ev
open PySem PySem.Spec PyProof.Rows L2 RZ StX
/-- no star, no slice, no set -/
def plE : Expr → Bool
  | .Starred .. => false
  | .Slice .. => false
  | .Set .. => false
  | _ => true
theorem plE_star {e : Expr} (h : plE e = true) (es : List Expr) (env : Env) : starEach (e :: es) env = (false, eval e env) :: starEach es env := by cases e <;> first | rfl | cases h
theorem plE_fold {e : Expr} (h : plE e = true) (env : Env) (x : Value) : foldedSetIterable e env x = pure x := by cases e <;> first | rfl | cases h
theorem plE_mark {e : Expr} (h : plE e = true) (op : CmpOp) : behindInMarks op e = false := by cases e <;> first | rfl | cases h
theorem plE_ix {e : Expr} (h : plE e = true) : PlainIx e := by
  intro o i
  cases e <;> first | rfl | cases h
theorem plEs_any {pos : Pos} {env : Env} : ∀ {es : List Expr}, es.all plE = true → (backTo pos (starEach es env)).any (·.1) = false
  | [], _ => rfl
  | e :: es, h => by
    rw [List.all_cons, Bool.and_eq_true] at h
    rw [plE_star h.1]
    have ih := plEs_any (pos := pos) (env := env) h.2
    show (false || _) = false
    exact ih
/-- a base that is no call -/
def ncE : Expr → Bool
  | .Call .. => false
  | _ => true
theorem ncE_base {o : Expr} (h : ncE o = true) (m : Str) (env : Env) (w : Sem Value) : attributeBase o m env w = w := by cases o <;> first | rfl | cases h
/-- a test by truth -/
def trE : Expr → Bool
  | .UnaryOp op _ _ => match op with
    | .Not => false
    | _ => true
  | .BoolOp .. => false
  | .IfExp .. => false
  | .Compare .. => false
  | _ => true
theorem trE_ok {e : Expr} (h : trE e = true) (env : Env) (w : Sem Value) : isTrue e env w = (do let v ← w; standAt e.pos; holding [v] (truthy v)) := by
  cases e <;> first | rfl | (cases h; done) | skip
  rename_i op _ _
  cases op <;> first | rfl | cases h
/-- no comprehension -/
def nkE : Expr → Bool
  | .ListComp .. => false
  | .SetComp .. => false
  | .DictComp .. => false
  | _ => true
theorem nkE_sw {e : Expr} (h : nkE e = true) (t : Option Expr) (l : Nat) (env : Env) : swapsWith e t l env = pure false := by cases e <;> first | rfl | cases h
theorem pt_pw {X : Cx} {op : BoolOp} {es : List Expr} {pos : Pos} {t : TT} (h : PT X (.BoolOp op es pos) t) : PW X (.BoolOp op es pos) t := ⟨fun whole pins s σ H Q I q => h.run pins s σ H Q I q⟩
/-! ### calls -/
def FnG (P : Program) (w : World) (K : PySem.W.Frag) (mg : Str → Option Value) (base : Heap) (k : Nat) (f : Addr) (sp : Sp) : Prop :=
  ∀ (A : Around) (outer : List Env) (s : Shared) (H : Hp) (us : List Value) (vs : List V) (Q : VK), A.guards = some [] → Room k A → Env0 P w K mg base A outer s H → Vals vs us → sp vs H Q E0 →
    codeAny (model P w) A (.call (.ref f) ⟨us, []⟩) (CR CX0 outer P w H s Q E0) s
section
variable {X : Cx} {k : Nat} {f : Addr} {sp : Sp}
theorem run_fnG {pins : List (Addr × Obj)} {σ : L2.St} {H : Hp} {s : Shared} {Q : VK} {us : List Value} {vs : List V} (F : FnG X.prog X.w X.K X.mg X.base k f sp) (hg : X.A.guards = some []) (hr : Room k X.A) (I : Inv X pins σ H s) (r : Vals vs us) (h : sp vs H Q E0) :
    wpAny (model X.prog X.w) X.A (call (.ref f) us) (EP X pins σ Q) X.xe s := by
  refine wpAny_call (codeAny_mono (F X.A X.stack s H us vs Q hg hr I.env0 r h) fun r s' hq => ?_)
  cases r with
  | error e => exact False.elim hq
  | ok fl => cases fl with
    | ret u => exact I.after hq
    | next => exact False.elim hq
    | brk => exact False.elim hq
    | cont => exact False.elim hq
theorem pe_callG {x : Str} {e : Expr} {es : List Expr} {t : TA} {p pos : Pos} (F : FnG X.prog X.w X.K X.mg X.base k f sp) (hgd : X.A.guards = some []) (hr : Room k X.A) (hg : Gl X x) (hm : X.mg x = some (.ref f)) (hk : PySem.W.keepIn X.K (.ref f) = true) (hdb : (x == ("__debug__" : Str)) = false)
    (hp : (e :: es).all plE = true) (ha : PA X (e :: es) t) : PE X (.Call (.Name x p) (e :: es) [] pos) (tCall sp [] E0 t) := by
  refine ⟨fun pins s σ H Q I h => ?_⟩
  refine wpAny_Call_Name_kw (ld_glob I hg hm ?_ hdb)
  rw [List.all_cons, Bool.and_eq_true] at hp
  refine PySem.W.callWith_K (h₀ := X.base) I.ok.mod.kin hk (thn (ha.run pos pins s σ H _ I h) fun us s1 ⟨vs, H1, I1, r, q⟩ => ⟨I1.kIn, ?_⟩) (plE_star hp.1 _ _) (plEs_any hp.2)
  have q : sp (vs ++ []) H1 Q E0 := q
  rw [List.append_nil] at q
  exact run_fnG F hgd hr I1 r q
theorem pe_callG0 {x : Str} {p pos : Pos} (F : FnG X.prog X.w X.K X.mg X.base k f sp) (hgd : X.A.guards = some []) (hr : Room k X.A) (hg : Gl X x) (hm : X.mg x = some (.ref f)) (hk : PySem.W.keepIn X.K (.ref f) = true) (hdb : (x == ("__debug__" : Str)) = false) :
    PE X (.Call (.Name x p) [] [] pos) (tCall sp [] E0 tNil) := by
  refine ⟨fun pins s σ H Q I h => ?_⟩
  refine wpAny_Call_Name_kw (ld_glob I hg hm ?_ hdb)
  exact PySem.W.callWith_K0 I.kIn hk (run_fnG (us := []) F hgd hr I .nil h)
theorem pe_callV {fa : Nat → Option Addr} {sps : Nat → Sp} {i : Nat} {x : Str} {e : Expr} {es : List Expr} {t : TA} {p pos : Pos} (F : ∀ j a, fa j = some a → FnG X.prog X.w X.K X.mg X.base k a (sps j) ∧ PySem.W.keepIn X.K (.ref a) = true) (hgd : X.A.guards = some []) (hr : Room k X.A)
    (hv : PE X (.Name x p) (tVar i)) (hp : (e :: es).all plE = true) (ha : PA X (e :: es) t) : PE X (.Call (.Name x p) (e :: es) [] pos) (tCallV fa sps i t) := by
  refine ⟨fun pins s σ H Q I h => ?_⟩
  obtain ⟨j, a, h1, h2, h⟩ := h
  obtain ⟨F, hk⟩ := F j a h2
  refine wpAny_Call_Name_kw (thn (hv.run pins s σ H (fun v H1 => v = .ref a ∧ H1 = H) I ⟨_, h1, rfl, rfl⟩) fun u s1 ⟨v, H1, I1, r1, e1, e2⟩ => ?_)
  subst e1 e2
  obtain rfl : u = Value.ref a := r1
  rw [List.all_cons, Bool.and_eq_true] at hp
  refine PySem.W.callWith_K (h₀ := X.base) I1.ok.mod.kin hk (thn (ha.run pos pins s1 σ H1 _ I1 h) fun us s2 ⟨vs, H2, I2, r, q⟩ => ⟨I2.kIn, ?_⟩) (plE_star hp.1 _ _) (plEs_any hp.2)
  exact run_fnG F hgd hr I2 r q
end
/-! ### name = a comprehension, on one line -/
/-- the model stores the name ahead of the block's end -/
def swB (sc : Scope) (x : Str) (p : Pos) (cs : Scope) (cp : Pos) : Bool := (match sc.names.lookup x with
  | some .local => true
  | _ => false) && p.line == cp.line && !(cs.names.any fun (n, k) => n == x && (k == .local || k == .cell))
section
variable {X : Cx}
theorem sw_of {v : Expr} {cs : Scope} {x : Str} {p cp : Pos} {l : Nat} (hk : X.env.scope.kind = .function) (hv : (∃ a gs, v = .ListComp a gs cs cp) ∨ ∃ a b gs, v = .DictComp a b gs cs cp) : swapsWith v (some (.Name x p)) l X.env = pure (swB X.env.scope x p cs cp) := by
  have hb : X.env.blockKind = .function := by unfold Env.blockKind; rw [hk]; rfl
  have key : (X.env.blockKind == .function && X.env.kindOf x == some .local && p.line == cp.line && !(cs.names.any fun (n, k) => n == x && (k == .local || k == .cell))) = swB X.env.scope x p cs cp := by
    unfold swB
    rw [hb]
    have e : (X.env.kindOf x == some .local) = (match X.env.scope.names.lookup x with
      | some .local => true
      | _ => false) := by
      show (X.env.scope.names.lookup x == some .local) = _
      cases X.env.scope.names.lookup x with
      | none => rfl
      | some k => cases k <;> rfl
    rw [e]
    rfl
  rcases hv with ⟨a, gs, rfl⟩ | ⟨a, b, gs, rfl⟩
  · rw [← key]
    rfl
  · rw [← key]
    rfl
theorem swB_local {sc cs : Scope} {x : Str} {p cp : Pos} (h : swB sc x p cs cp = true) : sc.names.lookup x = some .local := by
  unfold swB at h
  rw [Bool.and_eq_true, Bool.and_eq_true] at h
  have h := h.1.1
  split at h
  · assumption
  · cases h
theorem ps_setDc {i : Nat} {y : Str} {py : Pos} {kx vx tg iter : Expr} {ifs : List Expr} {scope : Scope} {own : List (Str × Nat)} {pos spos : Pos} {wi : TI} {g : TG} {tt : TT} {tk tv : TE} (hc : X.calm = true) (hN : X.N.Nodup) (hy : X.N[i]? = some y) (hyl : X.env.scope.names.lookup y = some .local)
    (hsw : swapsWith (.DictComp kx vx [⟨tg, iter, ifs, 0⟩] scope pos) (some (.Name y py)) spos.line X.env = pure true) (hi : PI X tg iter wi) (ok : BlkOk X.N X.env.scope scope own)
    (hg : ∀ (s : Shared) (H : Hp) (C : Addr) (cl : List (Str × Addr)) (fp : List Addr), PG (X.blk s H scope (compEnvC scope cl C X.env) fp) tg g) (ht : ∀ (s : Shared) (H : Hp) (C : Addr) (cl : List (Str × Addr)) (fp : List Addr), PTs (X.blk s H scope (compEnvC scope cl C X.env) fp) ifs tt)
    (hk : ∀ (s : Shared) (H : Hp) (C : Addr) (cl : List (Str × Addr)) (fp : List Addr), PE (X.blk s H scope (compEnvC scope cl C X.env) fp) kx tk)
    (he : ∀ (s : Shared) (H : Hp) (C : Addr) (cl : List (Str × Addr)) (fp : List Addr), PE (X.blk s H scope (compEnvC scope cl C X.env) fp) vx tv) (hs : ∀ x, foldedSetIterable iter X.env x = pure x) :
    PS X (.Assign [.Name y py] (.DictComp kx vx [⟨tg, iter, ifs, 0⟩] scope pos) spos) (tAsg (tDc wi g tt tk tv (own.map (·.2))) (gName i)) := by
  refine ⟨fun pins s σ H D I h => ?_⟩
  rw [exec_Assign_Name_used _ _ _ _ hsw]
  refine wpAny_bind (wpAny_standAt (wpAny_bind ?_))
  show wpAny _ X.A (do let _ ← comprehension (.DictComp kx vx [⟨tg, iter, ifs, 0⟩] scope pos) scope X.env (firstIterPos [⟨tg, iter, ifs, 0⟩] pos) newDict false (eval iter X.env) (some (assign (.Name y py) X.env))) _ _ s
  have h : tDc wi g tt tk tv (own.map (·.2)) σ H (fun x H1 => gName i x σ H1 D.nx) := h
  refine wpAny_bind (thn (dc_core (Qf := fun _ s' => SP X pins D .next s') hc hN I hi ok hg ht hk he hs h fun L C s' m H' I' q hn f => ?_) fun _ s' hq => wpAny_pure (wpAny_pure hq))
  show wpAny _ _ (assign (.Name y py) X.env (.ref L)) _ _ _
  refine wpAny_assign_Name (store_ok2 (v := V.ref L) I' hN hy (.inl hyl) rfl (fun s2 I2 ⟨a, sb, ha⟩ => ?_) (.inr hyl))
  obtain ⟨f0, f1, f2, f3, f4, f5⟩ := f
  have haC : C ≠ a := ha.elim (fun z => by rw [z]; exact f1) fun z e => f4 y a z e.symm
  exact ⟨m, hn.sameBut sb haC, fun h3 sb3 => ⟨_, H', I2.turned (t' := s2.toks) (fun b o hb e => (sb3.2 b hb).trans e) f0 f1 f3 f4 f5, q⟩⟩
end
end Ev
/-! Tr2: a, b = e, f. -/
namespace Ev
open PySem PySem.Spec PyProof.Rows L2 RZ StX
def lcB (sc : Scope) (x : Str) : Bool := match sc.names.lookup x with
  | some .local => true
  | _ => false
theorem lcB_eq {sc : Scope} {x : Str} : (sc.names.lookup x == some NameKind.local) = lcB sc x := by
  unfold lcB
  cases sc.names.lookup x with
  | none => rfl
  | some k => cases k <;> rfl
theorem lcB_ok {sc : Scope} {x : Str} (h : lcB sc x = true) : sc.names.lookup x = some .local := by
  rw [← lcB_eq] at h
  exact eq_of_beq h
def sw2 (sc : Scope) (x y : Str) (px py : Pos) (a b : Expr) : Option Bool :=
  if lcB sc x && (lcB sc y && py.line == px.line) then
    if decide (x ≠ y) && (plE a && plE b) && !(foldedForSure 8 a && foldedForSure 8 b) && !(constantsAlone 8 a && constantsAlone 8 b) then some true else none
  else some false
def sw3 (sc : Scope) (x y z : Str) (px py pz : Pos) (a b c : Expr) : Option Bool :=
  if lcB sc x && (lcB sc y && py.line == px.line) && (lcB sc z && pz.line == px.line) then
    if decide (x ≠ y) && decide (x ≠ z) && decide (y ≠ z) && (plE a && plE b && plE c) && !(foldedForSure 8 a && (foldedForSure 8 b && foldedForSure 8 c)) && !(constantsAlone 8 a && (constantsAlone 8 b && constantsAlone 8 c)) then some true else none
  else some false
section
variable {X : Cx}
theorem blk_fn (hk : X.env.scope.kind = .function) : (X.env.blockKind != .function) = false := by
  have hb : X.env.blockKind = .function := by unfold Env.blockKind; rw [hk]; rfl
  rw [hb]; rfl
def isStar : Expr → Bool
  | .Starred .. => true
  | _ => false
theorem plE_nstar {e : Expr} (h : plE e = true) : isStar e = false := by cases e <;> first | rfl | cases h
theorem dups2 {x y : Str} (h : x ≠ y) : [x, y].eraseDups = [x, y] := by
  have e : (y == x) = false := beq_eq_false_iff_ne.mpr (Ne.symm h)
  simp [List.eraseDups_cons, e]
theorem dups3 {x y z : Str} (h : x ≠ y) (h2 : x ≠ z) (h3 : y ≠ z) : [x, y, z].eraseDups = [x, y, z] := by
  have e : (y == x) = false := beq_eq_false_iff_ne.mpr (Ne.symm h)
  have e2 : (z == x) = false := beq_eq_false_iff_ne.mpr (Ne.symm h2)
  have e3 : (z == y) = false := beq_eq_false_iff_ne.mpr (Ne.symm h3)
  simp [List.eraseDups_cons, e, e2, e3]
theorem sw2_ok {x y : Str} {px py pt pt2 : Pos} {kt k2 : Nat} {a b : Expr} (hk : X.env.scope.kind = .function) {r : Bool} (h : sw2 X.env.scope x y px py a b = some r) :
    swappedStores [.Tuple [.Name x px, .Name y py] kt pt] (.Tuple [a, b] k2 pt2) X.env = pure (if r then some [x, y] else none) := by
  have hb := blk_fn hk
  have ex : (X.env.kindOf x == some NameKind.local) = lcB X.env.scope x := lcB_eq
  have ey : (X.env.kindOf y == some NameKind.local) = lcB X.env.scope y := lcB_eq
  unfold sw2 at h
  unfold swappedStores
  simp only [List.length_cons, List.length_nil, hb, ex, ey, List.filterMap_cons, List.filterMap_nil, List.head?_cons, Option.map_some, Option.getD_some, Expr.pos, List.any_cons, List.any_nil, List.all_cons, List.all_nil, beq_self_eq_true, Bool.and_true]
  cases hx : lcB X.env.scope x <;> cases hy : (lcB X.env.scope y && py.line == px.line) <;> rw [hx, hy] at h <;> simp only [Bool.false_and, Bool.true_and, Bool.and_true, Bool.and_false, Bool.false_eq_true, if_false, if_true] at h ⊢
  · cases h
    rw [if_neg (by decide)]
    show (if (isStar a || (isStar b || false)) = true then _ else _) = _
    split <;> rfl
  · cases h
    rw [if_neg (by decide)]
    show (if (isStar a || (isStar b || false)) = true then _ else _) = _
    split <;> rfl
  · cases h
    rw [if_neg (by decide)]
    show (if (isStar a || (isStar b || false)) = true then _ else _) = _
    split <;> rfl
  · split at h
    · rename_i hc
      cases h
      simp only [Bool.and_eq_true, Bool.not_eq_true', decide_eq_true_eq] at hc
      obtain ⟨⟨⟨hne, pa, pb⟩, hf⟩, hcn⟩ := hc
      have sa := plE_nstar pa
      have sb := plE_nstar pb
      rw [if_neg (by decide)]
      show (if (isStar a || (isStar b || false)) = true then _ else _) = _
      rw [sa, sb, if_neg (by decide), dups2 hne, if_neg (by simp), hf, if_neg (by decide), hcn, if_neg (by decide)]
      rfl
    · cases h
theorem sw3_ok {x y z : Str} {px py pz pt pt2 : Pos} {kt k2 : Nat} {a b c : Expr} (hk : X.env.scope.kind = .function) {r : Bool} (h : sw3 X.env.scope x y z px py pz a b c = some r) :
    swappedStores [.Tuple [.Name x px, .Name y py, .Name z pz] kt pt] (.Tuple [a, b, c] k2 pt2) X.env = pure (if r then some [x, y, z] else none) := by
  have hb := blk_fn hk
  have ex : (X.env.kindOf x == some NameKind.local) = lcB X.env.scope x := lcB_eq
  have ey : (X.env.kindOf y == some NameKind.local) = lcB X.env.scope y := lcB_eq
  have ez : (X.env.kindOf z == some NameKind.local) = lcB X.env.scope z := lcB_eq
  unfold sw3 at h
  unfold swappedStores
  simp only [List.length_cons, List.length_nil, hb, ex, ey, ez, List.filterMap_cons, List.filterMap_nil, List.head?_cons, Option.map_some, Option.getD_some, Expr.pos, List.any_cons, List.any_nil, List.all_cons, List.all_nil, beq_self_eq_true, Bool.and_true]
  cases hx : lcB X.env.scope x <;> cases hy : (lcB X.env.scope y && py.line == px.line) <;> cases hz : (lcB X.env.scope z && pz.line == px.line) <;> rw [hx, hy, hz] at h <;> simp only [Bool.false_and, Bool.true_and, Bool.and_true, Bool.and_false, Bool.false_eq_true, if_false, if_true] at h ⊢
  rotate_left 7
  · split at h
    · rename_i hc
      cases h
      simp only [Bool.and_eq_true, Bool.not_eq_true', decide_eq_true_eq] at hc
      obtain ⟨⟨⟨⟨⟨h1, h2⟩, h3⟩, ⟨pa, pb⟩, pc⟩, hf⟩, hcn⟩ := hc
      have sa := plE_nstar pa
      have sb := plE_nstar pb
      have sc := plE_nstar pc
      rw [if_neg (by decide)]
      show (if (isStar a || (isStar b || (isStar c || false))) = true then _ else _) = _
      rw [sa, sb, sc, if_neg (by decide), dups3 h1 h2 h3, if_neg (by simp), hf, if_neg (by decide), hcn, if_neg (by decide)]
      rfl
    · cases h
  all_goals
    cases h
    rw [if_neg (by decide)]
    show (if (isStar a || (isStar b || (isStar c || false))) = true then _ else _) = _
    split <;> rfl
end
end Ev
/-! Tr3: a term is held against a text. -/
namespace Ev
open PySem PySem.Spec PyProof.Rows L2 RZ StX
/-- the module's names: defs, plain constants, written dicts, a class's constants; names that are the built-ins' -/
structure Tb where
  fns : List (Str × Nat)
  gcs : List (Str × Nat)
  gds : List (Str × Nat)
  cls : List ((Str × Str) × Nat)
  free : List Str
  ers : List (Str × Nat) := []
  kws : List (Nat × Nat × List Str × List Nat) := []
  ises : List (Str × Nat) := []
structure Sx where
  N : List Str
  sc : Scope
  os : Scope
def visB (sx : Sx) (i : Nat) (x : Str) : Bool := decide (sx.N[i]? = some x) && (match sx.sc.names.lookup x with
  | some .local => true
  | some .cell => true
  | some .free => true
  | _ => false) && (!(x == ("__debug__" : Str)) && !(x == ("__classdict__" : Str)))
def locB (sx : Sx) (i : Nat) (x : Str) : Bool := decide (sx.N[i]? = some x) && (match sx.sc.names.lookup x with
  | some .local => true
  | some .cell => (match sx.os.names.lookup x with
    | some .cell => true
    | _ => false)
  | _ => false)
def glB (sx : Sx) (x : Str) : Bool := (match sx.sc.names.lookup x with
  | some .globalImplicit => true
  | _ => false) && !(x == ("__debug__" : Str))
def frB (tb : Tb) (sx : Sx) (x : Str) : Bool := glB sx x && tb.free.contains x
def cstB : D → Const → Bool
  | .non, .none => true
  | .bl a, .bool b => a == b
  | .int a, .int b => decide (a = b)
  | .str a, .str b => decide (a = b)
  | _, _ => false
def biN : Bi → Option (Str × Value)
  | .len => some ("len", .builtin "len")
  | .all => some ("all", .builtin "all")
  | .any => some ("any", .builtin "any")
  | .list => some ("list", .type "list")
  | .tuple => some ("tuple", .type "tuple")
  | .sorted => some ("sorted", .builtin "sorted")
  | .int => some ("int", .type "int")
  | .abs => some ("abs", .builtin "abs")
  | .repr => some ("repr", .builtin "repr")
  | .dict => some ("dict", .type "dict")
  | _ => none
def isiB : Bi → Bool
  | .isInt => true
  | .isBool => true
  | .isStr => true
  | .isTuple => true
  | .isList => true
  | _ => false
def muN : Mu → Str
  | .append => "append"
  | .extend => "extend"
  | .pop => "pop"
  | .popAt => "pop"
  | .clear => "clear"
def ownP (sx : Sx) (own : List Nat) : List (Str × Nat) := own.map fun i => (sx.N.getD i Str.empty, i)
theorem ownP_snd (sx : Sx) (own : List Nat) : (ownP sx own).map (·.2) = own := by
  unfold ownP
  rw [List.map_map]
  exact List.map_id' own
def blkX (sx : Sx) (scope : Scope) : Sx := ⟨sx.N, relS scope sx.sc, scope⟩
def nmB (sx : Sx) (i : Nat) : Expr → Bool
  | .Name x _ => locB sx i x
  | _ => false
def ckNs (sx : Sx) : List Nat → List Expr → Bool
  | [], [] => true
  | i :: is, e :: es => nmB sx i e && ckNs sx is es
  | _, _ => false
def ckTg (sx : Sx) (tg : List Nat) (one : Bool) (e : Expr) : Bool := match one, tg with
  | true, [i] => nmB sx i e
  | false, is => (match e with
    | .Tuple es _ _ => ckNs sx is es
    | _ => false)
  | _, _ => false
def isTup : Expr → Bool
  | .Tuple .. => true
  | _ => false
abbrev FE := Sx → Expr → Bool
abbrev FO := Sx → Option Expr → Bool
abbrev FL := Sx → List Expr → Bool
abbrev FP := Sx → List (Option Expr) → List Expr → Bool
abbrev F2 := Sx → Expr → Expr → Bool
abbrev FS := Sx → Stmt → Bool
abbrev FSs := Sx → List Stmt → Bool
def mVar  (i : Nat) (sx : Sx) (e : Expr) : Bool := (match e with
    | .Name x _ => visB sx i x
    | _ => false)
def mCst  (d : D) (sx : Sx) (e : Expr) : Bool := (match e with
    | .Constant c _ _ => cstB d c
    | _ => false)
def mGl (tb : Tb) (i : Nat) (sx : Sx) (e : Expr) : Bool := (match e with
    | .Name x _ => glB sx x && decide (tb.gcs.lookup x = some i)
    | .Attribute b f _ => (match b with
      | .Name c _ => glB sx c && decide (tb.cls.lookup (c, f) = some i)
      | _ => false)
    | _ => false)
def mFnv (tb : Tb) (i : Nat) (sx : Sx) (e : Expr) : Bool := (match e with
    | .Name x _ => glB sx x && decide (tb.fns.lookup x = some i)
    | _ => false)
def mBin  (o : BOp) (f_a : FE) (f_b : FE) (sx : Sx) (e : Expr) : Bool := (match e with
    | .BinOp l op r _ => decide (op = opOf o) && (f_a sx l && f_b sx r)
    | _ => false)
def mNeg  (f_a : FE) (sx : Sx) (e : Expr) : Bool := (match e with
    | .UnaryOp op x _ => decide (op = .USub) && f_a sx x
    | _ => false)
def mNotv  (f_a : FE) (sx : Sx) (e : Expr) : Bool := (match e with
    | .UnaryOp op x _ => decide (op = .Not) && f_a sx x
    | _ => false)
def mCmp  (o : COp) (f_a : FE) (f_b : FE) (sx : Sx) (e : Expr) : Bool := (match e with
    | .Compare l [op] [r] _ => decide (op = cmpOf o) && plE r && (f_a sx l && f_b sx r)
    | _ => false)
def mIsn  (f_a : FE) (sx : Sx) (e : Expr) : Bool := (match e with
    | .Compare l [op] [.Constant .none _ _] _ => decide (op = .Is) && f_a sx l
    | _ => false)
def mIsnn  (f_a : FE) (sx : Sx) (e : Expr) : Bool := (match e with
    | .Compare l [op] [.Constant .none _ _] _ => decide (op = .IsNot) && f_a sx l
    | _ => false)
def mChain  (o : COp) (p : COp) (f_a : FE) (f_b : FE) (f_c : FE) (sx : Sx) (e : Expr) : Bool := (match e with
    | .Compare l [op, op'] [m, r] _ => decide (op = cmpOf o) && decide (op' = cmpOf p) && plE r && (f_a sx l && (f_b sx m && f_c sx r))
    | _ => false)
def mAndv  (f_a : FE) (f_b : FE) (sx : Sx) (e : Expr) : Bool := (match e with
    | .BoolOp op [x, y] _ => decide (op = .And) && (f_a sx x && f_b sx y)
    | .BoolOp op (x :: y :: z :: r) pos => decide (op = .And) && (f_a sx x && f_b sx (.BoolOp .And (y :: z :: r) pos))
    | _ => false)
def mOrv  (f_a : FE) (f_b : FE) (sx : Sx) (e : Expr) : Bool := (match e with
    | .BoolOp op [x, y] _ => decide (op = .Or) && (f_a sx x && f_b sx y)
    | .BoolOp op (x :: y :: z :: r) pos => decide (op = .Or) && (f_a sx x && f_b sx (.BoolOp .Or (y :: z :: r) pos))
    | _ => false)
def mIfe  (f_c : FE) (f_a : FE) (f_b : FE) (sx : Sx) (e : Expr) : Bool := (match e with
    | .IfExp t x y _ => f_c sx t && (f_a sx x && f_b sx y)
    | _ => false)
def mIdx  (f_a : FE) (f_b : FE) (sx : Sx) (e : Expr) : Bool := (match e with
    | .Subscript l r _ => plE r && (f_a sx l && f_b sx r)
    | _ => false)
def mSlc  (f_a : FE) (f_lo : FO) (f_hi : FO) (sx : Sx) (e : Expr) : Bool := (match e with
    | .Subscript l (.Slice x y none _) _ => f_a sx l && (f_lo sx x && f_hi sx y)
    | _ => false)
def mEvn  (f_a : FE) (f_lo : FO) (sx : Sx) (e : Expr) : Bool := (match e with
    | .Subscript l (.Slice x none (some (.Constant (.int i) _ _)) _) _ => decide (i = 2) && (f_a sx l && f_lo sx x)
    | _ => false)
def mRev  (f_a : FE) (sx : Sx) (e : Expr) : Bool := (match e with
    | .Subscript l (.Slice none none (some (.UnaryOp op (.Constant (.int i) _ _) _)) _) _ => decide (op = .USub) && decide (i = 1) && f_a sx l
    | _ => false)
/-- len(set(z)) -/
def mSetI (tb : Tb) (f_a : FE) (sx : Sx) (x : Str) (y : Expr) : Bool := (match y with
    | .Call (.Name t _) [z] [] _ => decide (x = ("len" : Str)) && frB tb sx "len" && decide (t = ("set" : Str)) && frB tb sx "set" && plE z && f_a sx z
    | _ => false)
def mBi (tb : Tb) (f : Bi) (f_a : FE) (sx : Sx) (e : Expr) : Bool := (match e with
    | .Call (.Name x _) [y] [] _ => (match biN f with
      | some (n, _) => decide (x = n) && frB tb sx n && plE y && f_a sx y
      | none => decide (f = .set) && mSetI tb f_a sx x y)
    | .Call (.Name x _) [y, .List [] _] [] _ => decide (f = .sum) && decide (x = ("sum" : Str)) && frB tb sx "sum" && plE y && f_a sx y
    | .Call (.Name x _) [y, .Name t _] [] _ => isiB f && decide (x = ("isinstance" : Str)) && frB tb sx "isinstance" && decide (t = Str.ofString (isiT f)) && frB tb sx (Str.ofString (isiT f)) && plE y && f_a sx y
    | _ => false)
def mJoin  (f_s : FE) (f_a : FE) (sx : Sx) (e : Expr) : Bool := (match e with
    | .Call (.Attribute o m apos) [y] [] pos => decide (m = ("join" : Str)) && ncE o && apos.endLine == pos.line && plE y && (f_s sx o && f_a sx y)
    | _ => false)
def mDget  (f_d : FE) (f_k : FE) (f_x : FE) (sx : Sx) (e : Expr) : Bool := (match e with
    | .Call (.Attribute o m apos) [y, z] [] pos => decide (m = ("get" : Str)) && ncE o && apos.endLine == pos.line && plE y && plE z && (f_d sx o && (f_k sx y && f_x sx z))
    | _ => false)
def mZipl (tb : Tb) (f_a : FE) (f_b : FE) (sx : Sx) (e : Expr) : Bool := (match e with
    | .Call (.Name x _) [.Call (.Name y _) [l, r] [] _] [] _ => decide (x = ("list" : Str)) && frB tb sx "list" && decide (y = ("zip" : Str)) && frB tb sx "zip" && plE l && plE r && (f_a sx l && f_b sx r)
    | _ => false)
def mGin (tb : Tb) (g : Nat) (f_a : FE) (sx : Sx) (e : Expr) : Bool := (match e with
    | .Compare l [op] [.Name x _] _ => decide (op = .In) && glB sx x && decide (tb.gds.lookup x = some g) && f_a sx l
    | _ => false)
def mGidx (tb : Tb) (g : Nat) (f_a : FE) (sx : Sx) (e : Expr) : Bool := (match e with
    | .Subscript (.Name x _) r _ => glB sx x && decide (tb.gds.lookup x = some g) && plE r && f_a sx r
    | _ => false)
def mGdict (tb : Tb) (g : Nat) (sx : Sx) (e : Expr) : Bool := (match e with
    | .Call (.Name d _) [.Name x _] [] _ => decide (d = ("dict" : Str)) && frB tb sx "dict" && glB sx x && decide (tb.gds.lookup x = some g)
    | _ => false)
def mTupd  (f_es : FL) (sx : Sx) (e : Expr) : Bool := (match e with
    | .Tuple l _ _ => f_es sx l
    | _ => false)
def mLstd  (f_es : FL) (sx : Sx) (e : Expr) : Bool := (match e with
    | .List l _ => f_es sx l
    | _ => false)
def mDctd  (f_ps : FP) (sx : Sx) (e : Expr) : Bool := (match e with
    | .Dict ks vs _ => decide (ks.length ≤ 15) && f_ps sx ks vs
    | _ => false)
def mCall (tb : Tb) (f : Nat) (f_as : FL) (sx : Sx) (e : Expr) : Bool := (match e with
    | .Call (.Name x _) l [] _ => glB sx x && decide (tb.fns.lookup x = some f) && l.all plE && f_as sx l
    | _ => false)
def mCallv  (i : Nat) (f_as : FL) (sx : Sx) (e : Expr) : Bool := (match e with
    | .Call (.Name x _) (y :: l) [] _ => visB sx i x && (y :: l).all plE && f_as sx (y :: l)
    | _ => false)
def mComp  (f_x : FE) (tg : List Nat) (one : Bool) (f_it : F2) (f_c : FL) (own : List Nat) (sx : Sx) (e : Expr) : Bool := (match e with
    | .ListComp elt [⟨t, iter, ifs, n⟩] scope _ => decide (n = 0) && blkC sx.N sx.sc scope (ownP sx own) && plE iter && f_it sx t iter && ckTg (blkX sx scope) tg one t && f_c (blkX sx scope) ifs && f_x (blkX sx scope) elt
    | _ => false)
def mDcomp  (f_k : FE) (f_v : FE) (tg : List Nat) (one : Bool) (f_it : F2) (own : List Nat) (sx : Sx) (e : Expr) : Bool := (match e with
    | .DictComp kx vx [⟨t, iter, [], n⟩] scope _ => decide (n = 0) && blkC sx.N sx.sc scope (ownP sx own) && plE iter && f_it sx t iter && ckTg (blkX sx scope) tg one t && f_k (blkX sx scope) kx && f_v (blkX sx scope) vx
    | _ => false)
def mMin2 (tb : Tb) (f_a : FE) (f_b : FE) (sx : Sx) (e : Expr) : Bool := (match e with
    | .Call (.Name x _) [l, r] [] _ => decide (x = ("min" : Str)) && frB tb sx "min" && plE l && plE r && (f_a sx l && f_b sx r)
    | _ => false)
def kwNames : List Keyword → Option (List Str)
  | [] => some []
  | k :: r => match k.arg with
    | some n => (kwNames r).map (n :: ·)
    | none => none
def mMkx (tb : Tb) (c n m : Nat) (pm : List Nat) (f_as f_ks : FL) (sx : Sx) (e : Expr) : Bool := (match e with
    | .Call (.Name x _) l kws _ => glB sx x && (decide (tb.ers.lookup x = some c) && (l.all plE && ((kws.map (·.value)).all plE && (match kwNames kws with
      | some ks => (l.isEmpty || kws.isEmpty) && ((!kws.isEmpty || pm.isEmpty) && (decide (l.length = n ∧ ks.length = m) && (tb.kws.contains (c, n, ks, pm) && (f_as sx l && f_ks sx (kws.map (·.value))))))
      | none => false))))
    | _ => false)
/-- a field's base -/
def abB : Expr → Bool
  | .Call (.Name id _) [] [] _ => id != ("super" : Str)
  | .Call (.Name _ _) (_ :: _) _ _ => true
  | .Call (.Name _ _) [] (_ :: _) _ => true
  | .Call .. => false
  | _ => true
def mFld (f : Str) (f_a : FE) (sx : Sx) (e : Expr) : Bool := (match e with
    | .Attribute o n _ => decide (n = f) && (abB o && f_a sx o)
    | _ => false)
def mIsx (tb : Tb) (c : Nat) (f_a : FE) (sx : Sx) (e : Expr) : Bool := (match e with
    | .Call (.Name x _) [a, .Name y _] [] _ => decide (x = ("isinstance" : Str)) && (frB tb sx "isinstance" && (plE a && (glB sx y && (decide (tb.ises.lookup y = some c) && f_a sx a))))
    | _ => false)
def mDupd (i : Nat) (f_a : FE) (sx : Sx) (e : Expr) : Bool := (match e with
    | .Call (.Attribute (.Name x _) n apos) [y] [] pos => decide (n = ("update" : Str)) && visB sx i x && apos.endLine == pos.line && plE y && f_a sx y
    | _ => false)
def mMu  (m : Mu) (i : Nat) (f_as : FL) (sx : Sx) (e : Expr) : Bool := (match e with
    | .Call (.Attribute (.Name x _) n apos) l [] pos => decide (n = muN m) && visB sx i x && apos.endLine == pos.line && (match m, l with
      | .pop, [] => true
      | .clear, [] => true
      | .append, [y] => plE y
      | .extend, [y] => plE y
      | .popAt, [y] => plE y
      | _, _ => false) && f_as sx l
    | _ => false)
def moNo  (sx : Sx) (e : Option Expr) : Bool := (match e with
    | none => true
    | _ => false)
def moYes  (f_a : FE) (sx : Sx) (e : Option Expr) : Bool := (match e with
    | some x => f_a sx x
    | none => false)
def mcNo  (sx : Sx) (e : List Expr) : Bool := (match e with
    | [] => true
    | _ => false)
def mcYes  (f_c : FE) (sx : Sx) (e : List Expr) : Bool := (match e with
    | [x] => f_c sx x
    | _ => false)
def maNil  (sx : Sx) (e : List Expr) : Bool := (match e with
    | [] => true
    | _ => false)
def maCons  (f_a : FE) (f_r : FL) (sx : Sx) (e : List Expr) : Bool := (match e with
    | x :: l => plE x && (f_a sx x && f_r sx l)
    | _ => false)
def maStar  (f_a : FE) (f_r : FL) (sx : Sx) (e : List Expr) : Bool := (match e with
    | .Starred x _ :: l => f_a sx x && f_r sx l
    | _ => false)
def mpNil  (sx : Sx) (ks : List (Option Expr)) (vs : List Expr) : Bool := (match ks, vs with
    | [], [] => true
    | _, _ => false)
def mpCons  (f_k : FE) (f_v : FE) (f_r : FP) (sx : Sx) (ks : List (Option Expr)) (vs : List Expr) : Bool := (match ks, vs with
    | some x :: ks, y :: vs => f_k sx x && (f_v sx y && f_r sx ks vs)
    | _, _ => false)
def miSeq  (f_a : FE) (sx : Sx) (t e : Expr) : Bool := f_a sx e
def miRng1 (tb : Tb) (f_a : FE) (sx : Sx) (t e : Expr) : Bool := (match e with
    | .Call (.Name x _) [y] [] _ => decide (x = ("range" : Str)) && frB tb sx "range" && plE y && f_a sx y
    | _ => false)
def miRng2 (tb : Tb) (f_a : FE) (f_b : FE) (sx : Sx) (t e : Expr) : Bool := (match e with
    | .Call (.Name x _) [y, z] [] _ => decide (x = ("range" : Str)) && frB tb sx "range" && plE y && plE z && (f_a sx y && f_b sx z)
    | _ => false)
def miEnum (tb : Tb) (f_a : FE) (sx : Sx) (t e : Expr) : Bool := (match e with
    | .Call (.Name x _) [y] [] _ => isTup t && decide (x = ("enumerate" : Str)) && frB tb sx "enumerate" && plE y && f_a sx y
    | _ => false)
def miZip (tb : Tb) (f_a : FE) (f_b : FE) (sx : Sx) (t e : Expr) : Bool := (match e with
    | .Call (.Name x _) [y, z] [] _ => isTup t && decide (x = ("zip" : Str)) && frB tb sx "zip" && plE y && plE z && (f_a sx y && f_b sx z)
    | _ => false)
def mtVal  (f_a : FE) (sx : Sx) (e : Expr) : Bool := trE e && f_a sx e
def mtCmp  (f_a : FE) (sx : Sx) (e : Expr) : Bool := f_a sx e
def mtAnd  (f_a : FE) (f_b : FE) (sx : Sx) (e : Expr) : Bool := (match e with
    | .BoolOp op [x, y] _ => decide (op = .And) && (f_a sx x && f_b sx y)
    | .BoolOp op (x :: y :: z :: r) pos => decide (op = .And) && (f_a sx x && f_b sx (.BoolOp .And (y :: z :: r) pos))
    | _ => false)
def mtOr  (f_a : FE) (f_b : FE) (sx : Sx) (e : Expr) : Bool := (match e with
    | .BoolOp op [x, y] _ => decide (op = .Or) && (f_a sx x && f_b sx y)
    | .BoolOp op (x :: y :: z :: r) pos => decide (op = .Or) && (f_a sx x && f_b sx (.BoolOp .Or (y :: z :: r) pos))
    | _ => false)
def mtNot  (f_a : FE) (sx : Sx) (e : Expr) : Bool := (match e with
    | .UnaryOp op x _ => decide (op = .Not) && f_a sx x
    | _ => false)
def nsE : Expr → Bool
  | .SetComp .. => false
  | _ => true
def msAsg  (i : Nat) (f_a : FE) (sx : Sx) (s : Stmt) : Bool := (match s with
    | .Assign [.Name x p] e _ => locB sx i x && f_a sx e && nsE e
    | _ => false)
def msUnp  (is : List Nat) (f_a : FE) (sx : Sx) (s : Stmt) : Bool := (match s with
    | .Assign [.Tuple ts _ _] e _ => ckNs sx is ts && nkE e && !isTup e && f_a sx e
    | _ => false)
def msPar  (is : List Nat) (f_es : FL) (sx : Sx) (s : Stmt) : Bool := (match s with
    | .Assign [.Tuple [.Name x px, .Name y py] _ _] (.Tuple [a, b] _ _) _ => ckNs sx is [.Name x px, .Name y py] && (sw2 sx.sc x y px py a b).isSome && f_es sx [a, b]
    | .Assign [.Tuple [.Name x px, .Name y py, .Name z pz] _ _] (.Tuple [a, b, c] _ _) _ => ckNs sx is [.Name x px, .Name y py, .Name z pz] && (sw3 sx.sc x y z px py pz a b c).isSome && f_es sx [a, b, c]
    | _ => false)
def msSetk  (i : Nat) (f_k : FE) (f_v : FE) (sx : Sx) (s : Stmt) : Bool := (match s with
    | .Assign [.Subscript (.Name x _) y _] e _ => visB sx i x && f_k sx y && f_v sx e
    | _ => false)
def msAug  (i : Nat) (f_a : FE) (sx : Sx) (s : Stmt) : Bool := (match s with
    | .AugAssign (.Name x _) op e _ => locB sx i x && decide (op = .Add) && f_a sx e
    | _ => false)
def msIfs  (f_c : FE) (f_a : FSs) (f_b : FSs) (sx : Sx) (s : Stmt) : Bool := (match s with
    | .If t x y _ => f_c sx t && f_a sx x && f_b sx y
    | _ => false)
def msFors  (tg : List Nat) (one : Bool) (f_it : F2) (f_b : FSs) (sx : Sx) (s : Stmt) : Bool := (match s with
    | .For t iter body [] _ => plE iter && f_it sx t iter && ckTg sx tg one t && f_b sx body
    | _ => false)
def msWhiles  (f_c : FE) (f_b : FSs) (sx : Sx) (s : Stmt) : Bool := (match s with
    | .While t body [] _ => f_c sx t && f_b sx body
    | _ => false)
def msRet  (f_a : FE) (sx : Sx) (s : Stmt) : Bool := (match s with
    | .Return (some e) _ => f_a sx e
    | _ => false)
def msRetn  (sx : Sx) (s : Stmt) : Bool := (match s with
    | .Return none _ => true
    | _ => false)
def msExpr  (f_a : FE) (sx : Sx) (s : Stmt) : Bool := (match s with
    | .Expr e _ => nkE e && f_a sx e
    | _ => false)
def msPass  (sx : Sx) (s : Stmt) : Bool := (match s with
    | .Pass _ => true
    | .Expr (.Constant (.str _) _ _) _ => true
    | _ => false)
def msBrk  (sx : Sx) (s : Stmt) : Bool := (match s with
    | .Break _ => true
    | _ => false)
def msCont  (sx : Sx) (s : Stmt) : Bool := (match s with
    | .Continue _ => true
    | _ => false)
def msRais  (sx : Sx) (s : Stmt) : Bool := true
def mlNil  (sx : Sx) (l : List Stmt) : Bool := (match l with
    | [] => true
    | _ => false)
def mlCons  (f_s : FS) (f_r : FSs) (sx : Sx) (l : List Stmt) : Bool := (match l with
    | x :: l => f_s sx x && f_r sx l
    | _ => false)
section
variable (tb : Tb)
mutual
def ckE : Tm → FE
  | .min2 a b => mMin2 tb (ckE a) (ckE b)
  | .dupd i a => mDupd i (ckE a)
  | .mkx c n m es ks pm => mMkx tb c n m pm (ckA es) (ckA ks)
  | .fld a f => mFld f (ckE a)
  | .isx a c => mIsx tb c (ckE a)
  | .var i => mVar i
  | .cst d => mCst d
  | .gl i => mGl tb i
  | .fnv i => mFnv tb i
  | .bin o a b => mBin o (ckE a) (ckE b)
  | .neg a => mNeg (ckE a)
  | .notv a => mNotv (ckE a)
  | .cmp o a b => mCmp o (ckE a) (ckE b)
  | .isN a => mIsn (ckE a)
  | .isNN a => mIsnn (ckE a)
  | .chain o p a b c => mChain o p (ckE a) (ckE b) (ckE c)
  | .andv a b => mAndv (ckE a) (ckE b)
  | .orv a b => mOrv (ckE a) (ckE b)
  | .ife c a b => mIfe (ckC c) (ckE a) (ckE b)
  | .idx a b => mIdx (ckE a) (ckE b)
  | .slc a lo hi => mSlc (ckE a) (ckTo lo) (ckTo hi)
  | .evn a lo => mEvn (ckE a) (ckTo lo)
  | .rev a => mRev (ckE a)
  | .bi f a => mBi tb f (ckE a)
  | .join s a => mJoin (ckE s) (ckE a)
  | .dget d k x => mDget (ckE d) (ckE k) (ckE x)
  | .zipl a b => mZipl tb (ckE a) (ckE b)
  | .gin g a => mGin tb g (ckE a)
  | .gidx g a => mGidx tb g (ckE a)
  | .gdict g => mGdict tb g
  | .tupd es => mTupd (ckA es)
  | .lstd es => mLstd (ckA es)
  | .dctd ps => mDctd (ckP ps)
  | .call f as => mCall tb f (ckA as)
  | .callv i as => mCallv i (ckA as)
  | .ncall f as => mCall tb f (ckA as)
  | .comp x tg one it c own => mComp (ckE x) tg one (ckI it) (ckTc c) own
  | .look x tg one i c own => mComp (ckE x) tg one (miSeq (mVar i)) (ckTc c) own
  | .dcomp k v tg one it own => mDcomp (ckE k) (ckE v) tg one (ckI it) own
  | .mu m i as => mMu m i (ckA as)
def ckTo : To → FO
  | .no => moNo 
  | .yes a => moYes (ckE a)
def ckTc : To' → FL
  | .no => mcNo 
  | .yes c => mcYes (ckC c)
def ckA : Tms → FL
  | .nil => maNil 
  | .cons a r => maCons (ckE a) (ckA r)
  | .star a r => maStar (ckE a) (ckA r)
def ckP : Tps → FP
  | .nil => mpNil 
  | .cons k v r => mpCons (ckE k) (ckE v) (ckP r)
def ckI : It → F2
  | .seq a => miSeq (ckE a)
  | .rng1 a => miRng1 tb (ckE a)
  | .rng2 a b => miRng2 tb (ckE a) (ckE b)
  | .enum a => miEnum tb (ckE a)
  | .zip a b => miZip tb (ckE a) (ckE b)
def ckC : Ct → FE
  | .val a => mtVal (ckE a)
  | .cmp a => mtCmp (ckQ a)
  | .and a b => mtAnd (ckC a) (ckC b)
  | .or a b => mtOr (ckC a) (ckC b)
  | .not a => mtNot (ckC a)
def ckQ : Tm → FE
  | .cmp o a b => mCmp o (ckE a) (ckE b)
  | .isN a => mIsn (ckE a)
  | .isNN a => mIsnn (ckE a)
  | .chain o p a b c => mChain o p (ckE a) (ckE b) (ckE c)
  | .gin g a => mGin tb g (ckE a)
  | _ => fun _ _ => false
end
mutual
def ckS : Sm → FS
  | .asg i a => msAsg i (ckE tb a)
  | .unp is a => msUnp is (ckE tb a)
  | .par is es => msPar is (ckA tb es)
  | .setk i k v => msSetk i (ckE tb k) (ckE tb v)
  | .aug i a => msAug i (ckE tb a)
  | .ifs c a b => msIfs (ckC tb c) (ckSs a) (ckSs b)
  | .fors tg one it b => msFors tg one (ckI tb it) (ckSs b)
  | .whiles c b => msWhiles (ckC tb c) (ckSs b)
  | .ret a => msRet (ckE tb a)
  | .retn => msRetn 
  | .expr a => msExpr (ckE tb a)
  | .pass => msPass 
  | .brk => msBrk 
  | .cont => msCont 
  | .rais _ _ => msRais 
def ckSs : Sms → FSs
  | .nil => mlNil 
  | .cons s r => mlCons (ckS s) (ckSs r)
end
end
structure TbOk (tb : Tb) (dn : Dn) (P : Program) (w : World) (K : PySem.W.Frag) (mg : Str → Option Value) (base : Heap) (k : Nat) : Prop where
  fn : ∀ x i, tb.fns.lookup x = some i → ∃ a, mg x = some (.ref a) ∧ dn.g.fa i = some a
  fa : ∀ i a, dn.g.fa i = some a → FnG P w K mg base k a (dn.sp i) ∧ PySem.W.keepIn K (.ref a) = true
  gc : ∀ x i, tb.gcs.lookup x = some i → ∃ u, mg x = some u ∧ RelV (dn.gcv i) u
  gd : ∀ x i, tb.gds.lookup x = some i → mg x = some (.ref (dn.gda i)) ∧ (∃ es n, KDict K w (dn.gda i) es n) ∧ (dn.gdw i).length ≤ sizeLine ∧ ∃ vs, KV (dn.gdw i) vs ∧ ∀ h : Heap, K.In h → h.DictOf (mixKind P w) (dn.gda i) vs
  cl : ∀ c f i, tb.cls.lookup (c, f) = some i → ∃ a mc u, mg c = some (.ref a) ∧ ClX.CRead K a mc ∧ ClX.CVal K a mc f (dn.gcv i) u
  free : ∀ x, x ∈ tb.free → mg x = none
  er : ∀ x c, tb.ers.lookup x = some c → ∃ C, dn.g.ca c = some C ∧ mg x = some (.ref C) ∧ ∃ Bn B newId iN initId bmN Bs fI fd nm qual params body sc, Xc.Ei K mg C (dn.ef c) Bn B newId iN initId bmN Bs fI fd nm qual params body sc ∧ ∀ n ks pm, (c, n, ks, pm) ∈ tb.kws → Xc.KwB (dn.ef c) nm qual params body sc n ks pm
  is : ∀ x c, tb.ises.lookup x = some c → ∃ u, RelV (dn.ct c) u ∧ (mg x = some u ∨ (mg x = none ∧ bootBuiltins x = some u ∧ x ≠ "__name__"))
structure XOk (tb : Tb) (dn : Dn) (k : Nat) (sx : Sx) (X : Cx) : Prop where
  tb : TbOk tb dn X.prog X.w X.K X.mg X.base k
  K : dn.g.K = X.K
  w : dn.w = X.w
  N : X.N = sx.N
  nd : sx.N.Nodup
  sc : X.env.scope = sx.sc
  kind : sx.sc.kind = .function
  calm : X.calm = true
  room : Room k X.A
  room2 : Room 2 X.A
  gu : X.A.guards = some []
  xe : X.xe = fun _ _ => False
  fn : ∀ x, sx.os.names.lookup x = some .cell → X.fn x = true
theorem XOk.blk {tb : Tb} {dn : Dn} {k : Nat} {sx : Sx} {X : Cx} (ok : XOk tb dn k sx X) {scope : Scope} {own : List (Str × Nat)} (b : BlkOk X.N X.env.scope scope own) (s : Shared) (H : Hp) (C : Addr) (cl : List (Str × Addr)) (fp : List Addr) : XOk tb dn k (blkX sx scope) (X.blk s H scope (compEnvC scope cl C X.env) fp) := by
  refine ⟨ok.tb, ok.K, ok.w, ok.N, ok.nd, ?_, b.kind, ok.calm, ok.room, ok.room2, ok.gu, rfl, fun x h => ?_⟩
  · show relS scope X.env.scope = relS scope sx.sc
    rw [ok.sc]
  · show (scope.names.lookup x == some .cell) = true
    rw [show scope.names.lookup x = some .cell from h]
    rfl
end Ev
/-! Tr4: a text that is held by a term is read as the term says. -/
namespace Ev
open PySem PySem.Spec PyProof.Rows L2 RZ StX
section
variable {tb : Tb} {dn : Dn} {k : Nat} {sx : Sx} {X : Cx}
theorem visB_ok (ok : XOk tb dn k sx X) {i : Nat} {x : Str} {p : Pos} (h : visB sx i x = true) : PE X (.Name x p) (tVar i) := by
  unfold visB at h
  simp only [Bool.and_eq_true, decide_eq_true_eq, Bool.not_eq_true'] at h
  obtain ⟨⟨h1, h2⟩, h3, h4⟩ := h
  refine pe_var (by rw [ok.N]; exact h1) ?_ h3 h4
  rw [ok.sc]
  split at h2
  · exact .inl (by assumption)
  · exact .inr (.inl (by assumption))
  · exact .inr (.inr (by assumption))
  · cases h2
theorem locB_ok (ok : XOk tb dn k sx X) {i : Nat} {x : Str} (h : locB sx i x = true) : X.N[i]? = some x ∧ Loc X.env.scope x ∧ (X.fn x = true ∨ X.env.scope.names.lookup x = some .local) := by
  unfold locB at h
  simp only [Bool.and_eq_true, decide_eq_true_eq] at h
  obtain ⟨h1, h2⟩ := h
  refine ⟨by rw [ok.N]; exact h1, ?_⟩
  unfold L2.Loc
  rw [ok.sc]
  split at h2
  · rename_i e
    exact ⟨.inl e, .inr e⟩
  · rename_i e
    split at h2
    · rename_i e2
      exact ⟨.inr e, .inl (ok.fn x e2)⟩
    · cases h2
  · cases h2
theorem glB_ok (ok : XOk tb dn k sx X) {x : Str} (h : glB sx x = true) : Gl X x ∧ (x == ("__debug__" : Str)) = false := by
  unfold glB at h
  simp only [Bool.and_eq_true, Bool.not_eq_true'] at h
  obtain ⟨h1, h2⟩ := h
  refine ⟨?_, h2⟩
  show X.env.scope.names.lookup x = some .globalImplicit
  rw [ok.sc]
  split at h1
  · assumption
  · cases h1
theorem frB_ok (ok : XOk tb dn k sx X) {x : Str} (h : frB tb sx x = true) : Gl X x ∧ X.mg x = none := by
  unfold frB at h
  simp only [Bool.and_eq_true] at h
  exact ⟨(glB_ok ok h.1).1, ok.tb.free x (by simpa using h.2)⟩
theorem cstB_ok {d : D} {c : Const} {j : Nat} {p : Pos} (h : cstB d c = true) : PE X (.Constant c j p) (tC (cV d)) := by
  unfold cstB at h
  split at h
  · exact pe_non
  · rw [eq_of_beq h]; exact pe_bl
  · rw [of_decide_eq_true h]; exact pe_int
  · rw [of_decide_eq_true h]; exact pe_str
  · cases h
theorem units (ok : XOk tb dn k sx X) : X.A.units + 200 < cLine := by
  have := ok.room.un
  omega
/-! ### targets -/
theorem pgs_names (ok : XOk tb dn k sx X) : ∀ {is : List Nat} {es : List Expr}, ckNs sx is es = true → PGs X es (gNames is) ∧ (assignEach es X.env).length = is.length ∧ (assignEach es X.env).findIdx? (·.1) = none
  | [], [], _ => ⟨pgs_nil, rfl, rfl⟩
  | [], _ :: _, h => nomatch (show false = true from h)
  | _ :: _, [], h => nomatch (show false = true from h)
  | i :: is, e :: es, h => by
    have h : (nmB sx i e && ckNs sx is es) = true := h
    rw [Bool.and_eq_true] at h
    obtain ⟨h1, h2⟩ := h
    obtain ⟨q1, q2, q3⟩ := pgs_names ok h2
    cases e <;> first | (cases h1; done) | skip
    rename_i x p
    obtain ⟨l1, l2, l3⟩ := locB_ok ok h1
    refine ⟨pgs_cons (pg_name (by rw [ok.N]; exact ok.nd) l1 l2 l3) q1, ?_, ?_⟩
    · show (assignEach es X.env).length + 1 = is.length + 1
      rw [q2]
    · show ((false, assign (.Name x p) X.env) :: assignEach es X.env).findIdx? (·.1) = none
      rw [List.findIdx?_cons, q3]
      rfl
theorem ckTg_ok (ok : XOk tb dn k sx X) {tg : List Nat} {one : Bool} {e : Expr} (h : ckTg sx tg one e = true) : PG X e (denTg dn.g.K tg one) := by
  unfold ckTg at h
  split at h
  · rename_i i
    cases e <;> first | (cases h; done) | skip
    obtain ⟨l1, l2, l3⟩ := locB_ok ok h
    exact pg_name (by rw [ok.N]; exact ok.nd) l1 l2 l3
  · rename_i is
    cases e <;> first | (cases h; done) | skip
    obtain ⟨q1, q2, q3⟩ := pgs_names ok h
    rw [ok.K]
    exact pg_tup ok.calm q1 q2 q3
  · cases h
/-! ### built-ins -/
theorem bi_ok (ok : XOk tb dn k sx X) {f : Bi} {n : Str} {v : Value} {x : Expr} {te : TE} {p pos : Pos} (e : biN f = some (n, v)) (hf : frB tb sx n = true) (hp : plE x = true) (hx : PE X x te) : PE X (.Call (.Name n p) [x] [] pos) (tUn (rBi dn.g.K f) te) := by
  have hu := units ok
  obtain ⟨hg, hm⟩ := frB_ok ok hf
  have ha : PA X [x] (tCons te tNil) := pa_cons hx pa_nil (plE_star hp _ _)
  have hs := plE_star hp [] X.env
  rw [ok.K]
  cases f <;> first | (cases e; done) | skip
  all_goals (cases e)
  · exact pe_callB call_lenD hg hm (by decide +kernel) ha (he := hs)
  · exact pe_callB (cr_all ok.calm) hg hm (by decide +kernel) ha (he := hs)
  · exact pe_callB (cr_any ok.calm) hg hm (by decide +kernel) ha (he := hs)
  · exact pe_callTy (call_lst ok.calm) hg hm (by decide +kernel) ha (he := hs)
  · exact pe_callTy call_tuple_of hg hm (by decide +kernel) ha (he := hs)
  · exact pe_callB (call_sortAll hu) hg hm (by decide +kernel) ha (he := hs)
  · exact pe_callTy call_int1 hg hm (by decide +kernel) ha (he := hs)
  · exact pe_callB call_abs hg hm (by decide +kernel) ha (he := hs)
  · exact pe_callB (call_repr ok.gu (by omega)) hg hm (by decide +kernel) ha (he := hs)
  · exact pe_callTy (call_dictAll ok.calm) hg hm (by decide +kernel) ha (he := hs)
theorem isi_ok (ok : XOk tb dn k sx X) {f : Bi} {x : Expr} {te : TE} {p q pos : Pos} (e : isiB f = true) (hf : frB tb sx "isinstance" = true) (ht : frB tb sx (Str.ofString (isiT f)) = true) (hp : plE x = true) (hx : PE X x te) :
    PE X (.Call (.Name "isinstance" p) [x, .Name (Str.ofString (isiT f)) q] [] pos) (tUn (rBi dn.g.K f) te) := by
  obtain ⟨hg, hm⟩ := frB_ok ok hf
  obtain ⟨hg2, hm2⟩ := frB_ok ok ht
  have hs := plE_star hp [.Name (Str.ofString (isiT f)) q] X.env
  rw [ok.K]
  have key : ∀ T : String, isiT f = T → bootBuiltins (Str.ofString T) = some (.type T) → (Str.ofString T) ≠ "__name__" → (Str.ofString T == ("__debug__" : Str)) = false → PE X (.Call (.Name "isinstance" p) [x, .Name (Str.ofString (isiT f)) q] [] pos) (tCB (rIsi X.K) (tCons te (tCons (tC (.ty T)) tNil))) := by
    intro T eT hb h1 h2
    subst eT
    exact pe_callB call_isi hg hm (by decide +kernel) (pa_cons hx (pa_cons (pe_bltn (v := .ty (isiT f)) hg2 hm2 hb rfl h1 h2) pa_nil) hs) (he := hs)
  cases f <;> first | (cases e; done) | skip
  · exact key "int" rfl (by decide +kernel) (by decide) (by decide)
  · exact key "bool" rfl (by decide +kernel) (by decide) (by decide)
  · exact key "str" rfl (by decide +kernel) (by decide) (by decide)
  · exact key "tuple" rfl (by decide +kernel) (by decide) (by decide)
  · exact key "list" rfl (by decide +kernel) (by decide) (by decide)
end
theorem pe_min2 {X : Cx} {l r : Expr} {ta tb : TE} {p pos : Pos} (hc : X.calm = true) (hg : Gl X "min") (hm : X.mg "min" = none) (p1 : plE l = true) (p2 : plE r = true) (ha : PE X l ta) (hb : PE X r tb) : PE X (.Call (.Name "min" p) [l, r] [] pos) (tOp rMin2 ta tb) :=
  pe_callB (call_min2 hc) hg hm (by decide +kernel) (pa_cons ha (pa_cons hb pa_nil (plE_star p2 [] X.env)) (plE_star p1 [r] X.env)) (he := plE_star p1 [r] X.env) (hpl := by rw [plE_star p2 [] X.env]; rfl)
end Ev
/-! Zi: list(zip(a, b)), the tuples kept. -/
namespace Ev
open PySem PySem.Spec PyProof.Rows L2
open PySem.W (kdx_alive)
structure ZAp (z TI TO i1 i2 : Addr) (fp1 fp2 : List Addr) : Prop where
  TIz : TI ≠ z
  TOz : TO ≠ z
  i1z : i1 ≠ z
  i2z : i2 ≠ z
  TITO : TI ≠ TO
  TIi1 : TI ≠ i1
  TIi2 : TI ≠ i2
  TOi1 : TO ≠ i1
  TOi2 : TO ≠ i2
  i12 : i1 ≠ i2
  f1z : z ∉ fp1
  f1TO : TO ∉ fp1
  f1i2 : i2 ∉ fp1
  f2z : z ∉ fp2
  f2TO : TO ∉ fp2
  f2i1 : i1 ∉ fp2
section
variable {prog : Program} {w : World} {A : Around} {E : Value → Shared → Prop} {s : Shared} {z TI TO i1 i2 : Addr} {fp1 fp2 : List Addr} {n1 n2 k : Nat} {P1 P2 : Nat → Value → Prop} {St1 St2 : Nat → Heap → Prop}
theorem Draws.but (D : Draws prog w A i1 fp1 n1 P1 St1) {b : Addr} {h h' : Heap} (st : St1 k h) (hs : Heap.ExtBut b h h') (nb : b ∉ fp1) : St1 k h' := D.frame k h h' st fun c hc o e => hs c o (fun x => nb (x ▸ hc)) e
theorem zipD_first (D : ZAp z TI TO i1 i2 fp1 fp2) (D1 : Draws prog w A i1 fp1 n1 P1 St1) (D2 : Draws prog w A i2 fp2 n2 P2 St2) {a b : Value} {Q : Value → Shared → Prop}
    (hz : IsZip s.heap z TI TO .none) (hTI : IsPair s.heap TI (.ref i1) (.ref i2)) (hTO : IsPair s.heap TO a b) (h1 : St1 k s.heap) (h2 : St2 k s.heap) (l1 : k < n1) (l2 : k < n2)
    (hQ : ∀ h' tk x y, P1 k x → P2 k y → IsZip h' z TI TO (rawInt s.heap.objs.size) → St1 (k + 1) h' → St2 (k + 1) h' → IsPair h' s.heap.objs.size x y → h'.objs.size = s.heap.objs.size + 1 →
      (∀ c o, c ≠ z → c ≠ TO → c ≠ i1 → c ≠ i2 → s.heap.get? c = some o → h'.get? c = some o) → Q (.ref s.heap.objs.size) { s with heap := h', toks := tk }) :
    wpAny (model prog w) A (Builtin.«zip.__next__» ⟨[.ref z], []⟩) (fun fin s' => ∃ v, fin = .done (.ret v) ∧ Q v s') E s := by
  show wpAny _ _ (field (.ref z) 2 >>= _) _ _ _
  refine wpAny_bind (wpAny_field hz rfl (x := .bool false) rfl ?_)
  show wpAny _ _ (field (.ref z) 3 >>= _) _ _ _
  refine wpAny_bind (wpAny_field hz rfl (x := .ref TI) rfl ?_)
  refine wpAny_bind (wpAny_seqItems hTI rfl ?_)
  show wpAny _ _ (Builtin.SmallTypes.ownedTupleIsFree (.ref z) >>= _) _ _ _
  refine wpAny_bind ?_
  unfold Builtin.SmallTypes.ownedTupleIsFree
  refine wpAny_bind (wpAny_field hz rfl (x := .none) rfl (wpAny_pure ?_))
  simp only [if_true]
  refine wpAny_bind (wpAny_rule ?_)
  refine wpAny_bind (wpAny_field hz rfl (x := .ref TO) rfl ?_)
  refine wpAny_bind (wpAny_setField_rec hz (by simp) fun h₁ hz₁ hs₁ => ?_)
  replace hz₁ : IsZip h₁ z TI TO .ellipsis := hz₁
  refine wpAny_bind ?_
  simp only [List.zipIdx_cons, List.zipIdx_nil, List.forIn_cons, List.forIn_nil]
  refine wpAny_bind (wpAny_bind (wpAny_onRaise ?_))
  show wpAny _ _ (Builtin.SmallTypes.nextOf (.ref i1) >>= _) _ _ _
  refine wpAny_bind (D1.item k { s with heap := h₁ } _ _ l1 (Draws.but D1 h1 hs₁.extBut D.f1z) fun x h₂ t2 px h1₂ hs₂ => wpAny_pure ?_)
  have hTO₂ : IsPair h₂ TO a b := hs₂.extBut _ _ D.TOi1 (hs₁.extBut _ _ D.TOz hTO)
  refine wpAny_bind (wpAny_seqItems hTO₂ rfl ?_)
  refine wpAny_bind (wpAny_updateSeq_pair hTO₂ fun h₃ hTO₃ hs₃ => ?_)
  replace hTO₃ : IsPair h₃ TO x b := hTO₃
  refine wpAny_bind (wpAny_letGo (wpAny_pure ?_))
  refine wpAny_bind (wpAny_bind (wpAny_onRaise ?_))
  show wpAny _ _ (Builtin.SmallTypes.nextOf (.ref i2) >>= _) _ _ _
  refine wpAny_bind (D2.item k { s with heap := h₃, toks := t2 } _ _ l2 (Draws.but D2 (Draws.but D2 (Draws.but D2 h2 hs₁.extBut D.f2z) hs₂.extBut D.f2i1) hs₃.extBut D.f2TO) fun y h₄ t4 py h2₄ hs₄ => wpAny_pure ?_)
  have hTO₄ : IsPair h₄ TO x b := hs₄.extBut _ _ D.TOi2 hTO₃
  refine wpAny_bind (wpAny_seqItems hTO₄ rfl ?_)
  refine wpAny_bind (wpAny_updateSeq_pair hTO₄ fun h₅ hTO₅ hs₅ => ?_)
  replace hTO₅ : IsPair h₅ TO x y := hTO₅
  refine wpAny_bind (wpAny_letGo (wpAny_pure (wpAny_pure ?_)))
  refine wpAny_bind (wpAny_seqItems hTO₅ rfl ?_)
  refine wpAny_bind (wpAny_newTuple ?_)
  have hsz : h₅.objs.size = s.heap.objs.size := by rw [hs₅.1, hs₄.1, hs₃.1, hs₂.1, hs₁.1]
  have hz₅ : IsZip h₅ z TI TO .ellipsis := hs₅.extBut _ _ D.TOz.symm (hs₄.extBut _ _ D.i2z.symm (hs₃.extBut _ _ D.TOz.symm (hs₂.extBut _ _ D.i1z.symm hz₁)))
  have hk₅ : ∀ c o, c ≠ z → c ≠ TO → c ≠ i1 → c ≠ i2 → s.heap.get? c = some o → h₅.get? c = some o := fun c o c1 c2 c3 c4 e =>
    hs₅.extBut _ _ c2 (hs₄.extBut _ _ c4 (hs₃.extBut _ _ c2 (hs₂.extBut _ _ c3 (hs₁.extBut _ _ c1 e))))
  have h1₅ : St1 (k + 1) h₅ := Draws.but D1 (Draws.but D1 (Draws.but D1 h1₂ hs₃.extBut D.f1TO) hs₄.extBut D.f1i2) hs₅.extBut D.f1TO
  have h2₅ : St2 (k + 1) h₅ := Draws.but D2 h2₄ hs₅.extBut D.f2TO
  have hzlt : z < h₅.objs.size := Heap.lt_size hz₅
  show wpAny _ _ (Builtin.SmallTypes.ownedTupleHandOut (.ref z) (.ref h₅.objs.size) >>= _) _ _ _
  refine wpAny_bind ?_
  unfold Builtin.SmallTypes.ownedTupleHandOut
  have hz₆ : IsZip (h₅.push { cls := .type "tuple", data := .seq #[x, y] }) z TI TO .ellipsis := Heap.get?_push_of_some _ hz₅
  refine wpAny_bind (wpAny_setField_rec hz₆ (by simp) fun h₇ hz₇ hs₇ => ?_)
  replace hz₇ : IsZip h₇ z TI TO (rawInt h₅.objs.size) := hz₇
  refine wpAny_setField_rec hz₇ (by simp) fun h₈ hz₈ hs₈ => ?_
  replace hz₈ : IsZip h₈ z TI TO (rawInt h₅.objs.size) := hz₈
  have up : ∀ c o, c ≠ z → h₅.get? c = some o → h₈.get? c = some o := fun c o c1 e => hs₈.extBut _ _ c1 (hs₇.extBut _ _ c1 (Heap.get?_push_of_some _ e))
  have hT₈ : IsPair h₈ h₅.objs.size x y := hs₈.extBut _ _ (Nat.ne_of_gt hzlt) (hs₇.extBut _ _ (Nat.ne_of_gt hzlt) (Heap.get?_push_size _ rfl))
  have hz8 : h₈.objs.size = h₅.objs.size + 1 := by rw [hs₈.1, hs₇.1, Heap.size_push]
  rw [hsz] at hz₈ hT₈ hz8
  refine wpAny_pure ⟨_, rfl, ?_⟩
  show Q (.ref h₅.objs.size) _
  rw [hsz]
  exact hQ h₈ t4 x y px py hz₈ (Draws.but D1 h1₅ (fun c o c1 e => up c o c1 e) D.f1z) (Draws.but D2 h2₅ (fun c o c1 e => up c o c1 e) D.f2z) hT₈ hz8 fun c o c1 c2 c3 c4 e => up c o c1 (hk₅ c o c1 c2 c3 c4 e)
theorem zipD_held (D : ZAp z TI TO i1 i2 fp1 fp2) (D1 : Draws prog w A i1 fp1 n1 P1 St1) (D2 : Draws prog w A i2 fp2 n2 P2 St2) {T : Addr} {f : Bool} {oT : Obj} {Q : Value → Shared → Prop}
    (hz : IsZipHeld s.heap z TI TO T f) (hT : s.heap.get? T = some oT) (hTI : IsPair s.heap TI (.ref i1) (.ref i2)) (h1 : St1 k s.heap) (h2 : St2 k s.heap) (l1 : k < n1) (l2 : k < n2)
    (hQ : ∀ h' tk x y, P1 k x → P2 k y → IsZipHeld h' z TI TO T true → St1 (k + 1) h' → St2 (k + 1) h' → IsPair h' s.heap.objs.size x y → h'.objs.size = s.heap.objs.size + 1 →
      (∀ c o, c ≠ z → c ≠ i1 → c ≠ i2 → s.heap.get? c = some o → h'.get? c = some o) → Q (.ref s.heap.objs.size) { s with heap := h', toks := tk }) :
    wpAny (model prog w) A (Builtin.«zip.__next__» ⟨[.ref z], []⟩) (fun fin s' => ∃ v, fin = .done (.ret v) ∧ Q v s') E s := by
  show wpAny _ _ (field (.ref z) 2 >>= _) _ _ _
  refine wpAny_bind (wpAny_field hz rfl (x := .bool false) rfl ?_)
  show wpAny _ _ (field (.ref z) 3 >>= _) _ _ _
  refine wpAny_bind (wpAny_field hz rfl (x := .ref TI) rfl ?_)
  refine wpAny_bind (wpAny_seqItems hTI rfl ?_)
  show wpAny _ _ (Builtin.SmallTypes.ownedTupleIsFree (.ref z) >>= _) _ _ _
  refine wpAny_bind (wpAny_tupleHeld_zip hz hT fun h₁ hz₁ hs₁ => ?_)
  simp only [Bool.false_eq_true, if_false]
  refine wpAny_bind ?_
  rw [← Array.forIn_toList]
  simp only [List.forIn_cons, List.forIn_nil]
  refine wpAny_bind (wpAny_bind (wpAny_holding ?_))
  show wpAny _ _ (Builtin.SmallTypes.nextOf (.ref i1) >>= _) _ _ _
  refine wpAny_bind (D1.item k { s with heap := h₁ } _ _ l1 (Draws.but D1 h1 hs₁.extBut D.f1z) fun x h₂ t2 px h1₂ hs₂ => wpAny_pure ?_)
  refine wpAny_pure ?_
  refine wpAny_bind (wpAny_bind (wpAny_holding ?_))
  show wpAny _ _ (Builtin.SmallTypes.nextOf (.ref i2) >>= _) _ _ _
  refine wpAny_bind (D2.item k { s with heap := h₂, toks := t2 } _ _ l2 (Draws.but D2 (Draws.but D2 h2 hs₁.extBut D.f2z) hs₂.extBut D.f2i1) fun y h₃ t3 py h2₃ hs₃ => wpAny_pure ?_)
  refine wpAny_pure (wpAny_pure ?_)
  show wpAny _ _ (newTuple [x, y] >>= _) _ _ _
  refine wpAny_bind (wpAny_newTuple ?_)
  have hsz : h₃.objs.size = s.heap.objs.size := by rw [hs₃.1, hs₂.1, hs₁.1]
  have hz₃ : IsZipHeld h₃ z TI TO T true := hs₃.extBut _ _ D.i2z.symm (hs₂.extBut _ _ D.i1z.symm hz₁)
  have hk : ∀ c o, c ≠ z → c ≠ i1 → c ≠ i2 → s.heap.get? c = some o → h₃.get? c = some o := fun c o c1 c2 c3 e => hs₃.extBut _ _ c3 (hs₂.extBut _ _ c2 (hs₁.extBut _ _ c1 e))
  have h1₃ : St1 (k + 1) h₃ := Draws.but D1 h1₂ hs₃.extBut D.f1i2
  refine wpAny_pure ⟨_, rfl, ?_⟩
  show Q (.ref h₃.objs.size) _
  have hp : IsPair (h₃.push { cls := .type "tuple", data := .seq #[x, y] }) h₃.objs.size x y := Heap.get?_push_size _ rfl
  have hz4 : (h₃.push { cls := .type "tuple", data := .seq #[x, y] }).objs.size = h₃.objs.size + 1 := Heap.size_push ..
  rw [hsz] at hp hz4 ⊢
  exact hQ _ t3 x y px py (Heap.get?_push_of_some _ hz₃) (D1.frame _ _ _ h1₃ fun c _ o e => Heap.get?_push_of_some _ e) (D2.frame _ _ _ h2₃ fun c _ o e => Heap.get?_push_of_some _ e) hp hz4 fun c o c1 c2 c3 e => Heap.get?_push_of_some _ (hk c o c1 c2 c3 e)
/-- one of the two has ended -/
theorem zipD_end (D : ZAp z TI TO i1 i2 fp1 fp2) (D1 : Draws prog w A i1 fp1 n1 P1 St1) (D2 : Draws prog w A i2 fp2 n2 P2 St2) {a b : Value} {Q : Fin → Shared → Prop}
    (hz : IsZip s.heap z TI TO .none) (hTI : IsPair s.heap TI (.ref i1) (.ref i2)) (hTO : IsPair s.heap TO a b) (h1 : St1 k s.heap) (h2 : St2 k s.heap) (hend : k = n1 ∨ (k < n1 ∧ k = n2))
    (hE : ∀ h' e tk, (∀ c o, c ≠ z → c ≠ TO → c ≠ i1 → c ≠ i2 → s.heap.get? c = some o → h'.get? c = some o) → (∃ o, h'.get? e = some o ∧ o.cls = .type "StopIteration") → E (.ref e) { s with heap := h', toks := tk }) :
    wpAny (model prog w) A (Builtin.«zip.__next__» ⟨[.ref z], []⟩) Q E s := by
  show wpAny _ _ (field (.ref z) 2 >>= _) _ _ _
  refine wpAny_bind (wpAny_field hz rfl (x := .bool false) rfl ?_)
  show wpAny _ _ (field (.ref z) 3 >>= _) _ _ _
  refine wpAny_bind (wpAny_field hz rfl (x := .ref TI) rfl ?_)
  refine wpAny_bind (wpAny_seqItems hTI rfl ?_)
  show wpAny _ _ (Builtin.SmallTypes.ownedTupleIsFree (.ref z) >>= _) _ _ _
  refine wpAny_bind ?_
  unfold Builtin.SmallTypes.ownedTupleIsFree
  refine wpAny_bind (wpAny_field hz rfl (x := .none) rfl (wpAny_pure ?_))
  simp only [if_true]
  refine wpAny_bind (wpAny_rule ?_)
  refine wpAny_bind (wpAny_field hz rfl (x := .ref TO) rfl ?_)
  refine wpAny_bind (wpAny_setField_rec hz (by simp) fun h₁ hz₁ hs₁ => ?_)
  replace hz₁ : IsZip h₁ z TI TO .ellipsis := hz₁
  refine wpAny_bind ?_
  simp only [List.zipIdx_cons, List.zipIdx_nil, List.forIn_cons, List.forIn_nil]
  refine wpAny_bind (wpAny_bind (wpAny_onRaise ?_))
  show wpAny _ _ (Builtin.SmallTypes.nextOf (.ref i1) >>= _) _ _ _
  rcases hend with rfl | ⟨l1, rfl⟩
  · refine wpAny_bind (D1.done { s with heap := h₁ } _ _ (Draws.but D1 h1 hs₁.extBut D.f1z) fun h₂ e hs₂ he => ?_)
    obtain ⟨oe, hoe, hce⟩ := he
    have hz₂ : IsZip h₂ z TI TO .ellipsis := hs₂ _ _ D.i1z.symm hz₁
    have hez : e ≠ z := fun x => by subst x; rw [hz₂] at hoe; cases hoe; simp at hce
    refine wpAny_setField_rec hz₂ (by simp) fun h₃ _ hs₃ => hE h₃ e s.toks (fun c o c1 _ c3 _ x => hs₃.extBut _ _ c1 (hs₂ _ _ c3 (hs₁.extBut _ _ c1 x))) ⟨oe, hs₃.extBut _ _ hez hoe, hce⟩
  · refine wpAny_bind (D1.item k { s with heap := h₁ } _ _ l1 (Draws.but D1 h1 hs₁.extBut D.f1z) fun x h₂ t2 px h1₂ hs₂ => wpAny_pure ?_)
    have hTO₂ : IsPair h₂ TO a b := hs₂.extBut _ _ D.TOi1 (hs₁.extBut _ _ D.TOz hTO)
    refine wpAny_bind (wpAny_seqItems hTO₂ rfl ?_)
    refine wpAny_bind (wpAny_updateSeq_pair hTO₂ fun h₃ hTO₃ hs₃ => ?_)
    refine wpAny_bind (wpAny_letGo (wpAny_pure ?_))
    refine wpAny_bind (wpAny_bind (wpAny_onRaise ?_))
    show wpAny _ _ (Builtin.SmallTypes.nextOf (.ref i2) >>= _) _ _ _
    refine wpAny_bind (D2.done { s with heap := h₃, toks := t2 } _ _ (Draws.but D2 (Draws.but D2 (Draws.but D2 h2 hs₁.extBut D.f2z) hs₂.extBut D.f2i1) hs₃.extBut D.f2TO) fun h₄ e hs₄ he => ?_)
    obtain ⟨oe, hoe, hce⟩ := he
    have hz₄ : IsZip h₄ z TI TO .ellipsis := hs₄ _ _ D.i2z.symm (hs₃.extBut _ _ D.TOz.symm (hs₂.extBut _ _ D.i1z.symm hz₁))
    have hez : e ≠ z := fun x => by subst x; rw [hz₄] at hoe; cases hoe; simp at hce
    refine wpAny_setField_rec hz₄ (by simp) fun h₅ _ hs₅ => hE h₅ e t2 (fun c o c1 c2 c3 c4 x => hs₅.extBut _ _ c1 (hs₄ _ _ c4 (hs₃.extBut _ _ c2 (hs₂.extBut _ _ c3 (hs₁.extBut _ _ c1 x))))) ⟨oe, hs₅.extBut _ _ hez hoe, hce⟩
theorem zipD_endh (D : ZAp z TI TO i1 i2 fp1 fp2) (D1 : Draws prog w A i1 fp1 n1 P1 St1) (D2 : Draws prog w A i2 fp2 n2 P2 St2) {T : Addr} {f : Bool} {oT : Obj} {Q : Fin → Shared → Prop}
    (hz : IsZipHeld s.heap z TI TO T f) (hT : s.heap.get? T = some oT) (hTI : IsPair s.heap TI (.ref i1) (.ref i2)) (h1 : St1 k s.heap) (h2 : St2 k s.heap) (hend : k = n1 ∨ (k < n1 ∧ k = n2))
    (hE : ∀ h' e tk, (∀ c o, c ≠ z → c ≠ TO → c ≠ i1 → c ≠ i2 → s.heap.get? c = some o → h'.get? c = some o) → (∃ o, h'.get? e = some o ∧ o.cls = .type "StopIteration") → E (.ref e) { s with heap := h', toks := tk }) :
    wpAny (model prog w) A (Builtin.«zip.__next__» ⟨[.ref z], []⟩) Q E s := by
  show wpAny _ _ (field (.ref z) 2 >>= _) _ _ _
  refine wpAny_bind (wpAny_field hz rfl (x := .bool false) rfl ?_)
  show wpAny _ _ (field (.ref z) 3 >>= _) _ _ _
  refine wpAny_bind (wpAny_field hz rfl (x := .ref TI) rfl ?_)
  refine wpAny_bind (wpAny_seqItems hTI rfl ?_)
  show wpAny _ _ (Builtin.SmallTypes.ownedTupleIsFree (.ref z) >>= _) _ _ _
  refine wpAny_bind (wpAny_tupleHeld_zip hz hT fun h₁ hz₁ hs₁ => ?_)
  simp only [Bool.false_eq_true, if_false]
  refine wpAny_bind ?_
  rw [← Array.forIn_toList]
  simp only [List.forIn_cons, List.forIn_nil]
  refine wpAny_bind (wpAny_bind (wpAny_holding ?_))
  show wpAny _ _ (Builtin.SmallTypes.nextOf (.ref i1) >>= _) _ _ _
  rcases hend with rfl | ⟨l1, rfl⟩
  · refine wpAny_bind (D1.done { s with heap := h₁ } _ _ (Draws.but D1 h1 hs₁.extBut D.f1z) fun h₂ e hs₂ he => ?_)
    exact hE h₂ e s.toks (fun c o c1 _ c2 _ x => hs₂ _ _ c2 (hs₁.extBut _ _ c1 x)) he
  · refine wpAny_bind (D1.item k { s with heap := h₁ } _ _ l1 (Draws.but D1 h1 hs₁.extBut D.f1z) fun x h₂ t2 px h1₂ hs₂ => wpAny_pure ?_)
    refine wpAny_pure ?_
    refine wpAny_bind (wpAny_bind (wpAny_holding ?_))
    show wpAny _ _ (Builtin.SmallTypes.nextOf (.ref i2) >>= _) _ _ _
    refine wpAny_bind (D2.done { s with heap := h₂, toks := t2 } _ _ (Draws.but D2 (Draws.but D2 h2 hs₁.extBut D.f2z) hs₂.extBut D.f2i1) fun h₃ e hs₃ he => ?_)
    exact hE h₃ e t2 (fun c o c1 _ c2 c3 x => hs₃ _ _ c3 (hs₂.extBut _ _ c2 (hs₁.extBut _ _ c1 x))) he
/-- between two draws; S: the list that is filled -/
def ZS (z TI TO i1 i2 S : Addr) (St1 St2 : Nat → Heap → Prop) (k : Nat) (h : Heap) : Prop := IsPair h TI (.ref i1) (.ref i2) ∧ St1 k h ∧ St2 k h ∧
  ((IsZip h z TI TO .none ∧ ∃ a b, IsPair h TO a b) ∨ ∃ T f oT, IsZipHeld h z TI TO T f ∧ h.get? T = some oT ∧ T ≠ z ∧ T ≠ i1 ∧ T ≠ i2 ∧ T ≠ S)
theorem ZS.but {S b : Addr} {h h' : Heap} (D1 : Draws prog w A i1 fp1 n1 P1 St1) (D2 : Draws prog w A i2 fp2 n2 P2 St2) (st : ZS z TI TO i1 i2 S St1 St2 k h) (hs : Heap.ExtBut S h h') (s1 : S ∉ fp1) (s2 : S ∉ fp2) (sz : z ≠ S) (sI : TI ≠ S) (sO : TO ≠ S) : ZS z TI TO i1 i2 S St1 St2 k h' := by
  obtain ⟨a1, a2, a3, a4⟩ := st
  refine ⟨hs _ _ sI a1, Draws.but D1 a2 hs s1, Draws.but D2 a3 hs s2, ?_⟩
  rcases a4 with ⟨q, a, b, r⟩ | ⟨T, f, oT, q1, q2, q3, q4, q5, q6⟩
  · exact .inl ⟨hs _ _ sz q, a, b, hs _ _ sO r⟩
  · exact .inr ⟨T, f, oT, hs _ _ sz q1, hs _ _ q6 q2, q3, q4, q5, q6⟩
theorem ZS.isZip {S : Addr} {h : Heap} (st : ZS z TI TO i1 i2 S St1 St2 k h) : ∃ o, h.get? z = some o ∧ o.cls = .type "zip" := by
  obtain ⟨_, _, _, ⟨q, _⟩ | ⟨T, f, oT, q1, _⟩⟩ := st
  · exact ⟨_, q, rfl⟩
  · exact ⟨_, q1, rfl⟩
theorem nextZ (hh : A.handled = none) (D : ZAp z TI TO i1 i2 fp1 fp2) (D1 : ∀ A : Around, A.handled = none → Draws prog w A i1 fp1 n1 P1 St1) (D2 : ∀ A : Around, A.handled = none → Draws prog w A i2 fp2 n2 P2 St2) {S : Addr} {Q : Option Value → Shared → Prop}
    (st : ZS z TI TO i1 i2 S St1 St2 k s.heap) (hS : S < s.heap.objs.size) (m1 : i1 ∈ fp1) (m2 : i2 ∈ fp2) (l1 : k < n1) (l2 : k < n2)
    (hQ : ∀ h' tk x y, P1 k x → P2 k y → ZS z TI TO i1 i2 S St1 St2 (k + 1) h' → IsPair h' s.heap.objs.size x y → h'.objs.size = s.heap.objs.size + 1 → (∀ c o, c ≠ z → c ≠ TO → c ≠ i1 → c ≠ i2 → s.heap.get? c = some o → h'.get? c = some o) → Q (some (.ref s.heap.objs.size)) { s with heap := h', toks := tk }) :
    wpAny (model prog w) A (pyNext (.ref z)) Q E s := by
  have hTy : s.TypeIs (.ref z) "zip" := st.isZip
  obtain ⟨hTI, h1, h2, hz⟩ := st
  have lt : ∀ {c o}, s.heap.get? c = some o → s.heap.objs.size ≠ c := fun e => Nat.ne_of_gt (Heap.lt_size e)
  have nz : s.heap.objs.size ≠ z := let ⟨_, e, _⟩ := hTy; lt e
  have e1 : s.heap.objs.size ≠ i1 := let ⟨_, e⟩ := (D1 A hh).live k _ h1; lt e
  have e2 : s.heap.objs.size ≠ i2 := let ⟨_, e⟩ := (D2 A hh).live k _ h2; lt e
  unfold pyNext
  rcases hz with ⟨hz, a, b, hTO⟩ | ⟨T, f, oT, hz, hT, r1, r2, r3, r4⟩
  · refine wpAny_bind (wpAny_attempt (wpAny_callSpecial?_slot (name := Str.ofString "__next__") hTy F.slot_zip_next (wpAny_call_entry F.slot_zip_next hTy F.entry_zip_next (zipD_first D (D1 A.in1 hh) (D2 A.in1 hh) hz hTI hTO h1 h2 l1 l2 fun h' tk x y px py a1 a3 a4 a5 a6 hk => wpAny_pure ?_) (F.args_zip_next_1 _))))
    exact hQ h' tk x y px py ⟨hk _ _ D.TIz D.TITO D.TIi1 D.TIi2 hTI, a3, a4, .inr ⟨_, false, _, a1, a5, nz, e1, e2, Nat.ne_of_gt hS⟩⟩ a5 a6 hk
  · refine wpAny_bind (wpAny_attempt (wpAny_callSpecial?_slot (name := Str.ofString "__next__") hTy F.slot_zip_next (wpAny_call_entry F.slot_zip_next hTy F.entry_zip_next (zipD_held D (D1 A.in1 hh) (D2 A.in1 hh) hz hT hTI h1 h2 l1 l2 fun h' tk x y px py a1 a3 a4 a5 a6 hk => wpAny_pure ?_) (F.args_zip_next_1 _))))
    exact hQ h' tk x y px py ⟨hk _ _ D.TIz D.TIi1 D.TIi2 hTI, a3, a4, .inr ⟨T, true, oT, a1, hk _ _ r1 r2 r3 hT, r1, r2, r3, r4⟩⟩ a5 a6 fun c o c1 _ c3 c4 e => hk c o c1 c3 c4 e
theorem nextZ_end (hh : A.handled = none) (D : ZAp z TI TO i1 i2 fp1 fp2) (D1 : ∀ A : Around, A.handled = none → Draws prog w A i1 fp1 n1 P1 St1) (D2 : ∀ A : Around, A.handled = none → Draws prog w A i2 fp2 n2 P2 St2) {S : Addr} {Q : Option Value → Shared → Prop}
    (st : ZS z TI TO i1 i2 S St1 St2 k s.heap) (hend : k = n1 ∨ (k < n1 ∧ k = n2))
    (hQ : ∀ h' tk, (∀ c o, c ≠ z → c ≠ TO → c ≠ i1 → c ≠ i2 → s.heap.get? c = some o → h'.get? c = some o) → Q none { s with heap := h', toks := tk }) :
    wpAny (model prog w) A (pyNext (.ref z)) Q E s := by
  have hTy : s.TypeIs (.ref z) "zip" := st.isZip
  obtain ⟨hTI, h1, h2, hz⟩ := st
  unfold pyNext
  rcases hz with ⟨hz, a, b, hTO⟩ | ⟨T, f, oT, hz, hT, r1, r2, r3, r4⟩
  · refine wpAny_bind (wpAny_attempt (wpAny_callSpecial?_slot (name := Str.ofString "__next__") hTy F.slot_zip_next (wpAny_call_entry F.slot_zip_next hTy F.entry_zip_next (zipD_end D (D1 A.in1 hh) (D2 A.in1 hh) hz hTI hTO h1 h2 hend fun h' e tk hk he => ?_) (F.args_zip_next_1 _))))
    obtain ⟨o, ho, hc⟩ := he
    refine wpAny_bind (wpAny_isInstance (T := "StopIteration") (b := true) ⟨o, ho, hc⟩ isSubtype_stop ?_)
    exact wpAny_pure (hQ _ _ hk)
  · refine wpAny_bind (wpAny_attempt (wpAny_callSpecial?_slot (name := Str.ofString "__next__") hTy F.slot_zip_next (wpAny_call_entry F.slot_zip_next hTy F.entry_zip_next (zipD_endh D (D1 A.in1 hh) (D2 A.in1 hh) hz hT hTI h1 h2 hend fun h' e tk hk he => ?_) (F.args_zip_next_1 _))))
    obtain ⟨o, ho, hc⟩ := he
    refine wpAny_bind (wpAny_isInstance (T := "StopIteration") (b := true) ⟨o, ho, hc⟩ isSubtype_stop ?_)
    exact wpAny_pure (hQ _ _ hk)
/-- what was gathered -/
structure ZG (P1 P2 : Nat → Value → Prop) (lo : Addr) (h : Heap) (as : List Addr) : Prop where
  rise : as.Pairwise (· < ·)
  above : ∀ a ∈ as, lo < a
  pairs : ∀ (j : Nat) (a : Addr), as[j]? = some a → ∃ x y, P1 j x ∧ P2 j y ∧ IsPair h a x y
theorem ZG.there {lo : Addr} {h : Heap} {as : List Addr} (g : ZG P1 P2 lo h as) {a : Addr} (ha : a ∈ as) : a < h.objs.size := by
  obtain ⟨j, hj⟩ := List.mem_iff_getElem?.mp ha
  obtain ⟨_, _, _, _, e⟩ := g.pairs j a hj
  exact Heap.lt_size e
theorem loopZ (hh : A.handled = none) (D : ZAp z TI TO i1 i2 fp1 fp2) (D1 : ∀ A : Around, A.handled = none → Draws prog w A i1 fp1 n1 P1 St1) (D2 : ∀ A : Around, A.handled = none → Draws prog w A i2 fp2 n2 P2 St2) (m1 : i1 ∈ fp1) (m2 : i2 ∈ fp2) {S : Addr} {R : Result → Shared → Prop}
    (s1 : S ∉ fp1) (s2 : S ∉ fp2) (zS : z < S) (IS : TI < S) (OS : TO < S) (i1S : i1 < S) (i2S : i2 < S) (hn : min n1 n2 ≤ sizeLine) (res : Value) {h₁ : Heap}
    (hR : ∀ h' tk acc c as, (∀ b o, b ≠ S → b ≠ z → b ≠ TO → b ≠ i1 → b ≠ i2 → h₁.get? b = some o → h'.get? b = some o) → h'.get? S = some { cls := .type "list", dict := none, data := .seq acc c, slots := #[] } → as.length = min n1 n2 → ZG P1 P2 S h' as →
      acc.toList = as.map Value.ref → R (.ok (.ret res)) { s with heap := h', toks := tk }) :
    ∀ (m k : Nat) (h : Heap) (tk c : Nat) (acc : Array Value) (as : List Addr), min n1 n2 - k = m → k ≤ min n1 n2 → ZS z TI TO i1 i2 S St1 St2 k h → (∀ b o, b ≠ S → b ≠ z → b ≠ TO → b ≠ i1 → b ≠ i2 → h₁.get? b = some o → h.get? b = some o) →
      h.get? S = some { cls := .type "list", dict := none, data := .seq acc c, slots := #[] } → acc.toList = as.map Value.ref → as.length = k → ZG P1 P2 S h as →
      codeAny (model prog w) A (.builtin "list.extend.loop" ⟨[.ref S, .ref z, res], []⟩) R { s with heap := h, toks := tk } := by
  intro m
  induction m with
  | zero =>
    intro k h tk c acc as hk hi hst hkeep hS hacc hal hG
    refine codeAny_builtin PySem.F.entry_extend_loop ?_
    rw [Around.under_plainId PySem.F.plain_extend_loop _]
    show wpAny _ A.in1 (pyNext (.ref z) >>= _) _ _ _
    refine wpAny_bind (nextZ_end (s := { s with heap := h, toks := tk }) (A := A.in1) hh D D1 D2 hst (by omega) fun h' tk' he => ?_)
    refine wpAny_pure (hR h' tk' acc c as (fun b o h1 h2 h3 h4 h5 e => he b o h2 h3 h4 h5 (hkeep b o h1 h2 h3 h4 h5 e)) (he S _ (Nat.ne_of_gt zS) (Nat.ne_of_gt OS) (Nat.ne_of_gt i1S) (Nat.ne_of_gt i2S) hS) (by omega) ⟨hG.rise, hG.above, fun j a hj => ?_⟩ hacc)
    obtain ⟨x, y, p1, p2, e3⟩ := hG.pairs j a hj
    have ha := hG.above a (List.mem_of_getElem? hj)
    exact ⟨x, y, p1, p2, he a _ (Nat.ne_of_gt (Nat.lt_trans zS ha)) (Nat.ne_of_gt (Nat.lt_trans OS ha)) (Nat.ne_of_gt (Nat.lt_trans i1S ha)) (Nat.ne_of_gt (Nat.lt_trans i2S ha)) e3⟩
  | succ m ih =>
    intro k h tk c acc as hk hi hst hkeep hS hacc hal hG
    have hlt : k < min n1 n2 := by omega
    have hsz : acc.size = k := by rw [← Array.length_toList, hacc, List.length_map, hal]
    refine codeAny_builtin PySem.F.entry_extend_loop ?_
    rw [Around.under_plainId PySem.F.plain_extend_loop _]
    show wpAny _ A.in1 (pyNext (.ref z) >>= _) _ _ _
    have hSl : S < h.objs.size := Heap.lt_size hS
    refine wpAny_bind (nextZ (s := { s with heap := h, toks := tk }) (A := A.in1) hh D D1 D2 hst hSl m1 m2 (by omega) (by omega) fun h' tk' x y px py hst' ht hz hkp => ?_)
    dsimp only at ht hz hkp ⊢
    have hS' := hkp S _ (Nat.ne_of_gt zS) (Nat.ne_of_gt OS) (Nat.ne_of_gt i1S) (Nat.ne_of_gt i2S) hS
    have up : ∀ b o, b ≠ S → h'.get? b = some o → (h'.update S (Obj.mapSeq (·.push (Value.ref h.objs.size)))).get? b = some o := fun b o hb e => (Heap.get?_update_other _ _ (Ne.symm hb)).trans e
    show wpAny _ A.in1 (updateSeq S (·.push (Value.ref h.objs.size)) >>= _) _ _ _
    refine wpAny_bind ?_
    refine wpAny_updateSeq hS' rfl (wpAny_pure ⟨plainId_quiet PySem.F.plain_extend_loop _, ih (k + 1) _ tk' _ (acc.push (Value.ref h.objs.size)) (as ++ [h.objs.size]) (by omega) hlt (ZS.but (b := S) (D1 _ hh) (D2 _ hh) hst' up s1 s2 (Nat.ne_of_lt zS) (Nat.ne_of_lt IS) (Nat.ne_of_lt OS))
      (fun b o h1 h2 h3 h4 h5 e => up b o h1 (hkp b o h2 h3 h4 h5 (hkeep b o h1 h2 h3 h4 h5 e))) (Heap.get?_update_self _ hS' rfl) (by rw [Array.toList_push, hacc, List.map_append]; rfl) (by rw [List.length_append, hal]; rfl) ⟨?_, ?_, ?_⟩⟩) (by rw [hsz]; omega) (by show (acc.push (Value.ref h.objs.size)).size ≤ sizeLine + 1; rw [Array.size_push, hsz]; omega)
    · refine List.pairwise_append.mpr ⟨hG.rise, List.pairwise_singleton _ _, fun a ha b hb => ?_⟩
      rw [List.mem_singleton.mp hb]
      exact hG.there ha
    · intro a ha
      rcases List.mem_append.mp ha with ha | ha
      · exact hG.above a ha
      · rw [List.mem_singleton.mp ha]; exact hSl
    · intro j b hj
      rcases Nat.lt_trichotomy j as.length with h1 | h1 | h1
      · rw [List.getElem?_append_left h1] at hj
        obtain ⟨x', y', p1, p2, e3⟩ := hG.pairs j b hj
        have hb := hG.above b (List.mem_of_getElem? hj)
        exact ⟨x', y', p1, p2, up b _ (Nat.ne_of_gt hb) (hkp b _ (Nat.ne_of_gt (Nat.lt_trans zS hb)) (Nat.ne_of_gt (Nat.lt_trans OS hb)) (Nat.ne_of_gt (Nat.lt_trans i1S hb)) (Nat.ne_of_gt (Nat.lt_trans i2S hb)) e3)⟩
      · subst h1
        have hb : h.objs.size = b := by simpa using hj
        subst hb
        subst hal
        exact ⟨x, y, px, py, up _ _ (Nat.ne_of_gt hSl) ht⟩
      · have hnone : (as ++ [h.objs.size])[j]? = none := List.getElem?_eq_none (by rw [List.length_append, List.length_singleton]; omega)
        rw [hnone] at hj; cases hj
theorem hint_zip (hT : s.TypeIs (.ref z) "zip") {Q : Bool → Shared → Prop} (h : Q true s) : wpAny (model prog w) A (Builtin.List.listLengthHint (.ref z)) Q E s := by
  have m1 : typeLookup (.type "zip") "__len__" = pure none := am_miss_of_fast (by decide +kernel)
  have m2 : typeLookup (.type "zip") "__length_hint__" = pure none := am_miss_of_fast (by decide +kernel)
  unfold Builtin.List.listLengthHint
  refine wpAny_bind (wpAny_specialOf hT m1 ?_)
  show wpAny _ _ (specialOf (.ref z) "__length_hint__" >>= _) _ _ _
  refine wpAny_bind (wpAny_specialOf hT m2 ?_)
  exact wpAny_pure h
theorem extZ {R : Result → Shared → Prop} (hh : A.handled = none) (D : ZAp z TI TO i1 i2 fp1 fp2) (D1 : ∀ A : Around, A.handled = none → Draws prog w A i1 fp1 n1 P1 St1) (D2 : ∀ A : Around, A.handled = none → Draws prog w A i2 fp2 n2 P2 St2) (m1 : i1 ∈ fp1) (m2 : i2 ∈ fp2) {S : Addr}
    (s1 : S ∉ fp1) (s2 : S ∉ fp2) (zS : z < S) (IS : TI < S) (OS : TO < S) (i1S : i1 < S) (i2S : i2 < S) (hn : min n1 n2 ≤ sizeLine) (res : Value) (c₀ : Nat) (hS : s.heap.get? S = some { cls := .type "list", data := .seq #[] c₀ }) {a b : Value}
    (hz : IsZip s.heap z TI TO .none) (hTI : IsPair s.heap TI (.ref i1) (.ref i2)) (hTO : IsPair s.heap TO a b) (h1 : St1 0 s.heap) (h2 : St2 0 s.heap)
    (hR : ∀ h' tk acc c as, (∀ b o, b ≠ S → b ≠ z → b ≠ TO → b ≠ i1 → b ≠ i2 → s.heap.get? b = some o → h'.get? b = some o) → h'.get? S = some { cls := .type "list", dict := none, data := .seq acc c, slots := #[] } → as.length = min n1 n2 → ZG P1 P2 S h' as →
      acc.toList = as.map Value.ref → R (.ok (.ret res)) { s with heap := h', toks := tk }) :
    wpAny (model prog w) A.in1 (Builtin.List.listExtendWith (.ref S) (.ref z) res)
      (fun fin s' => match fin with | .done f => R (.ok f) s' | .again c' => c'.quiet = true ∧ codeAny (model prog w) A c' R s') (fun e s' => R (.error e) s') s := by
  have hT : s.TypeIs (.ref z) "zip" := ⟨_, hz, rfl⟩
  unfold Builtin.List.listExtendWith
  refine wpAny_bind (wpAny_typeOf (T := "zip") hT ?_)
  have e1 : Builtin.List.listSameRef (.ref S) (.ref z) = false := by
    simp only [Builtin.List.listSameRef, beq_eq_false_iff_ne]
    exact Nat.ne_of_gt zS
  have e2 : (Value.type "zip" == Value.type "list") = false := by decide
  have e3 : (Value.type "zip" == Value.type "tuple") = false := by decide
  simp only [e1, e2, e3, Bool.or_false, Bool.false_eq_true, if_false]
  refine wpAny_bind (wpAny_pyIter_zip hz ?_)
  refine wpAny_bind (wpAny_holding (hint_zip hT ?_))
  refine wpAny_ite_split (fun _ => ?_) (fun h => absurd rfl h)
  refine wpAny_bind (wpAny_rule ?_)
  refine wpAny_bind ?_
  show wpAny _ _ (updateSeq S (·.push .none) >>= fun _ => updateSeq S (·.pop)) _ _ _
  refine wpAny_bind (wpAny_updateSeq hS rfl ?_)
  have hS₂ := Heap.get?_update_self (Obj.mapSeq (·.push Value.none)) hS rfl
  refine wpAny_updateSeq (hz := by seq_fits) hS₂ rfl ?_
  have hS₃ := Heap.get?_update_self (Obj.mapSeq (·.pop)) hS₂ rfl
  have oth : ∀ b o, b ≠ S → s.heap.get? b = some o → ((s.heap.update S (Obj.mapSeq (·.push Value.none))).update S (Obj.mapSeq (·.pop))).get? b = some o := fun b o hb e => (Heap.get?_update_other _ _ (Ne.symm hb)).trans ((Heap.get?_update_other _ _ (Ne.symm hb)).trans e)
  refine wpAny_pure ⟨plainId_quiet PySem.F.plain_extend_loop _, ?_⟩
  refine loopZ (s := s) (h₁ := s.heap) hh D D1 D2 m1 m2 s1 s2 zS IS OS i1S i2S hn res hR (min n1 n2) 0 _ _ _ #[] [] (Nat.sub_zero _) (Nat.zero_le _) ⟨oth _ _ (Nat.ne_of_lt IS) hTI, Draws.but (D1 A hh) h1 (fun c o hc e => oth c o hc e) s1, Draws.but (D2 A hh) h2 (fun c o hc e => oth c o hc e) s2, .inl ⟨oth _ _ (Nat.ne_of_lt zS) hz, a, b, oth _ _ (Nat.ne_of_lt OS) hTO⟩⟩
    (fun b o hb _ _ _ _ e => oth b o hb e) hS₃ rfl rfl ⟨List.Pairwise.nil, (fun _ ha => nomatch ha), (fun j a hj => by simp at hj)⟩
theorem callZ {Q : Value → Shared → Prop} (hh : A.handled = none) (D : ZAp z TI TO i1 i2 fp1 fp2) (D1 : ∀ A : Around, A.handled = none → Draws prog w A i1 fp1 n1 P1 St1) (D2 : ∀ A : Around, A.handled = none → Draws prog w A i2 fp2 n2 P2 St2) (m1 : i1 ∈ fp1) (m2 : i2 ∈ fp2)
    (s1 : s.heap.objs.size ∉ fp1) (s2 : s.heap.objs.size ∉ fp2) (hn : min n1 n2 ≤ sizeLine) {a b : Value} (hz : IsZip s.heap z TI TO .none) (hTI : IsPair s.heap TI (.ref i1) (.ref i2)) (hTO : IsPair s.heap TO a b) (h1 : St1 0 s.heap) (h2 : St2 0 s.heap)
    (hQ : ∀ h' tk acc c as, (∀ b o, b ≠ z → b ≠ TO → b ≠ i1 → b ≠ i2 → s.heap.get? b = some o → h'.get? b = some o) → h'.get? s.heap.objs.size = some { cls := .type "list", dict := none, data := .seq acc c, slots := #[] } → as.length = min n1 n2 → ZG P1 P2 s.heap.objs.size h' as →
      acc.toList = as.map Value.ref → Q (.ref s.heap.objs.size) { s with heap := h', toks := tk }) :
    wpAny (model prog w) A (call (.type "list") [.ref z]) Q E s := by
  refine callType_codes (Q₁ := fun obj s₁ => obj = .ref s.heap.objs.size ∧ s₁ = { s with heap := s.heap.push { cls := .type "list", data := .seq #[] } }) PySem.F.called_list (PySem.F.typeCall_list_1 _) PySem.F.entry_list_init
    (code_list_new _ ⟨rfl, rfl⟩) fun obj s₁ h₁ => ?_
  obtain ⟨rfl, rfl⟩ := h₁
  have hS : (s.heap.push { cls := .type "list", data := .seq #[] }).get? s.heap.objs.size = some { cls := .type "list", data := .seq #[] } := Heap.get?_push_size _ rfl
  have pu : ∀ {b o}, s.heap.get? b = some o → (s.heap.push { cls := .type "list", data := .seq #[] }).get? b = some o := fun e => Heap.get?_push_of_some _ e
  have hi1 : i1 < s.heap.objs.size := let ⟨_, e⟩ := (D1 A hh).live 0 _ h1; Heap.lt_size e
  have hi2 : i2 < s.heap.objs.size := let ⟨_, e⟩ := (D2 A hh).live 0 _ h2; Heap.lt_size e
  refine ⟨⟨_, hS, rfl⟩, PySem.F.args_list_init_2 _ _, ?_⟩
  show wpAny _ _ (do let old ← Builtin.List.listItems (.ref s.heap.objs.size); Builtin.List.listUpdate (.ref s.heap.objs.size) (fun _ => #[]); letGo old.toList.reverse; Builtin.List.listExtendWith (.ref s.heap.objs.size) (.ref z) .none) _ _ _
  refine wpAny_bind ?_
  unfold Builtin.List.listItems
  refine wpAny_bind (wpAny_seqItems hS rfl (wpAny_pure ?_))
  show wpAny _ _ (updateSeq s.heap.objs.size (fun _ => #[]) >>= fun _ => letGo (#[] : Array Value).toList.reverse >>= fun _ => Builtin.List.listExtendWith (.ref s.heap.objs.size) (.ref z) .none) _ _ _
  refine wpAny_bind (wpAny_updateSeq hS rfl ?_)
  have hS₂ := Heap.get?_update_self (Obj.mapSeq (fun _ => (#[] : Array Value))) hS rfl
  have oth : ∀ b o, b ≠ s.heap.objs.size → s.heap.get? b = some o → ((s.heap.push { cls := .type "list", data := .seq #[] }).update s.heap.objs.size (Obj.mapSeq (fun _ => (#[] : Array Value)))).get? b = some o :=
    fun b o hb e => (Heap.get?_update_other _ _ (Ne.symm hb)).trans (pu e)
  have ne : ∀ {b o}, s.heap.get? b = some o → b ≠ s.heap.objs.size := fun e => Nat.ne_of_lt (Heap.lt_size e)
  refine wpAny_bind (wpAny_letGo ?_)
  refine extZ (A := A.in1) hh D D1 D2 m1 m2 s1 s2 (Heap.lt_size hz) (Heap.lt_size hTI) (Heap.lt_size hTO) hi1 hi2 hn .none _ hS₂ (oth _ _ (ne hz) hz) (oth _ _ (ne hTI) hTI) (oth _ _ (ne hTO) hTO) ((D1 A hh).frame _ _ _ h1 fun c hc o e => oth c o (ne e) e) ((D2 A hh).frame _ _ _ h2 fun c hc o e => oth c o (ne e) e) fun h' tk acc c as hk hS' hl hG hacc => ?_
  exact ⟨rfl, hQ h' tk acc c as (fun b o b1 b2 b3 b4 e => hk b o (ne e) b1 b2 b3 b4 (oth b o (ne e) e)) hS' hl hG hacc⟩
end
/-! ### the layer's rule -/
theorem zap_mk (N a b : Nat) (la : a < N) (lb : b < N) : ZAp (N + 4) (N + 2) (N + 3) N (N + 1) [N, a] [N + 1, b] := by
  have t : ∀ {x y : Nat}, (x = y → False) → x ≠ y := fun h => h
  have m : ∀ {x u v : Nat}, (x = u → False) → (x = v → False) → x ∉ [u, v] := fun h1 h2 h => by
    rcases List.mem_cons.mp h with e | e
    · exact h1 e
    · exact h2 (List.mem_singleton.mp e)
  exact ⟨t (by omega), t (by omega), t (by omega), t (by omega), t (by omega), t (by omega), t (by omega), t (by omega), t (by omega), t (by omega), m (by omega) (by omega), m (by omega) (by omega), m (by omega) (by omega), m (by omega) (by omega), m (by omega) (by omega), m (by omega) (by omega)⟩
def putP : Hp → List Addr → List (V × V) → Hp
  | H, a :: as, p :: kvs => putP (upd H a (.tup [p.1, p.2])) as kvs
  | H, _, _ => H
theorem putP_off {b : Addr} : ∀ (as : List Addr) (kvs : List (V × V)) (H : Hp), b ∉ as → putP H as kvs b = H b
  | [], _, _, _ => rfl
  | _ :: _, [], _, _ => rfl
  | a :: as, p :: kvs, H, h => by
    show putP (upd H a (.tup [p.1, p.2])) as kvs b = H b
    rw [putP_off as kvs _ (fun z => h (List.mem_cons_of_mem _ z)), upd_ne (fun z => h (by rw [z]; exact List.mem_cons_self))]
theorem putP_at : ∀ (as : List Addr) (kvs : List (V × V)) (H : Hp), as.length = kvs.length → as.Nodup → ∀ (j : Nat) (t : Addr), as[j]? = some t → ∃ p, kvs[j]? = some p ∧ putP H as kvs t = some (.tup [p.1, p.2])
  | [], [], _, _, _, j, t, e => by simp at e
  | [], _ :: _, _, h, _, _, _, _ => by cases h
  | _ :: _, [], _, h, _, _, _, _ => by cases h
  | a :: as, p :: kvs, H, h, hn, j, t, e => by
    have hn' := List.nodup_cons.mp hn
    cases j with
    | zero =>
      cases e
      refine ⟨p, rfl, ?_⟩
      show putP (upd H a (.tup [p.1, p.2])) as kvs a = some (.tup [p.1, p.2])
      rw [putP_off as kvs _ hn'.1, upd_same]
    | succ j => exact putP_at as kvs (upd H a (.tup [p.1, p.2])) (Nat.succ.inj h) hn'.2 j t e
theorem vals_refs' : ∀ as : List Addr, Vals (as.map V.ref) (as.map Value.ref)
  | [] => .nil
  | _ :: as => .cons rfl (vals_refs' as)
section
variable {X : Cx}
theorem pairs_laid {pins : List (Addr × Obj)} {σ : L2.St} {H : Hp} {s : Shared} {h' : Heap} {tk : Nat} {xs ys : List V} {xv yv : List Value} {acc : Array Value} {c : Nat} {as : List Addr} {S : Addr} (I : Inv X pins σ H s) (rx : Vals xs xv) (ry : Vals ys yv) (hz : min xs.length ys.length ≤ sizeLine)
    (hk : ∀ b o, s.heap.get? b = some o → h'.get? b = some o) (hSn0 : s.heap.objs.size ≤ S) (hS : h'.get? S = some { cls := .type "list", dict := none, data := .seq acc c, slots := #[] }) (hl : as.length = min xs.length ys.length) (hG : ZG (fun i v => xv[i]? = some v) (fun i v => yv[i]? = some v) S h' as) (hacc : acc.toList = as.map Value.ref) :
    ∃ H' : Hp, New H H' ∧ H S = none ∧ H' S = some (.lst (as.map V.ref)) ∧ (∀ (i : Nat) (T : Addr), as[i]? = some T → ∃ v w, xs[i]? = some v ∧ ys[i]? = some w ∧ H' T = some (.tup [v, w])) ∧ Inv X pins σ H' { s with heap := h', toks := tk } := by
  have lz : (xs.zip ys).length = min xs.length ys.length := List.length_zip
  have hSn : S ∉ as := fun z => Nat.lt_irrefl _ (hG.above _ z)
  have nd : as.Nodup := List.Pairwise.imp (fun {a b} (h : a < b) => Nat.ne_of_lt h) hG.rise
  have new : ∀ t ∈ as, H t = none := fun t ht => I.hok.fresh (Nat.le_trans hSn0 (Nat.le_of_lt (hG.above t ht)))
  have newS : H S = none := I.hok.fresh hSn0
  have atP := putP_at as (xs.zip ys) (upd H S (.lst (as.map V.ref))) (by omega) nd
  have off : ∀ b, b ∉ as → b ≠ S → putP (upd H S (.lst (as.map V.ref))) as (xs.zip ys) b = H b := fun b h1 h2 => by rw [putP_off as _ _ h1, upd_ne h2]
  have low : ∀ b o, s.heap.get? b = some o → b ∉ as ∧ b ≠ S := fun b o e => ⟨fun z => absurd (Heap.lt_size e) (Nat.not_lt.mpr (Nat.le_trans hSn0 (Nat.le_of_lt (hG.above b z)))), Nat.ne_of_lt (Nat.lt_of_lt_of_le (Heap.lt_size e) hSn0)⟩
  have kp : ∀ b u, H b = some u → (putP (upd H S (.lst (as.map V.ref))) as (xs.zip ys)) b = some u := fun b u e => by
    rw [off b (fun z => by rw [new b z] at e; cases e) (fun z => by rw [z, newS] at e; cases e)]
    exact e
  have eS : putP (upd H S (.lst (as.map V.ref))) as (xs.zip ys) S = some (.lst (as.map V.ref)) := by rw [putP_off as _ _ hSn, upd_same]
  refine ⟨putP (upd H S (.lst (as.map V.ref))) as (xs.zip ys), kp, newS, eS, fun i T e => ?_, ?_⟩
  · obtain ⟨p, e1, e2⟩ := atP i T e
    rw [List.getElem?_zip_eq_some] at e1
    exact ⟨p.1, p.2, e1.1, e1.2, e2⟩
  refine I.call' (ch := []) rfl ⟨fun b o q _ _ _ => hk b o q, fun b o q _ _ _ => ⟨o.slots, hk b o q⟩, fun b o q n _ => ?_, fun b o q _ => ⟨o, hk b o q⟩, fun b xs q => kp b _ q, fun b o u q => kp b _ q, fun b ps q => ⟨#[], by rw [kp b _ q]; simp⟩⟩ (fun b u q => ?_) I.bare fun b z => by simp at z
  · obtain ⟨z1, z2⟩ := low b o q
    rw [off b z1 z2]
    exact n
  · by_cases hb : b ∈ as
    · obtain ⟨j, ej⟩ := List.mem_iff_getElem?.mp hb
      obtain ⟨pk, e2, e3⟩ := atP j b ej
      rw [e3] at q
      cases q
      obtain ⟨xk, yk, f1, f2, f3⟩ := hG.pairs j b ej
      rw [List.getElem?_zip_eq_some] at e2
      obtain ⟨u1, g1, g2⟩ := rx.get e2.1
      obtain ⟨u2, g3, g4⟩ := ry.get e2.2
      rw [f1] at g1
      rw [f2] at g3
      cases g1
      cases g3
      exact ⟨by show 2 ≤ sizeLine; decide, [xk, yk], .cons g2 (.cons g4 .nil), ⟨_, f3, rfl, _, rfl⟩⟩
    · by_cases hb2 : b = S
      · rw [hb2] at q ⊢
        rw [eS] at q
        cases q
        refine ⟨by rw [List.length_map]; omega, acc.toList, c, by rw [hacc]; exact vals_refs' as, ?_⟩
        rw [Array.toArray_toList]
        exact hS
      · rw [off b hb hb2] at q
        exact (I.hok b u q).stay (fun d v _ y => hk d v y) (fun d y => kp d _ y) fun d xs y => kp d _ y
theorem pe_zipl {l r : Expr} {ta tb : TE} {p q pos pos2 : Pos} (hl : Gl X "list") (hl2 : X.mg "list" = none) (hz : Gl X "zip") (hz2 : X.mg "zip" = none) (p1 : plE l = true) (p2 : plE r = true) (ha : PE X l ta) (hb : PE X r tb) (hc : X.calm = true) :
    PE X (.Call (.Name "list" p) [.Call (.Name "zip" q) [l, r] [] pos] [] pos2) (tOp (rZipL X.K) ta tb) := by
  refine ⟨fun pins s σ H Q I h => ?_⟩
  have hs : starEach [.Call (.Name "zip" q) [l, r] [] pos] X.env = (false, eval (.Call (.Name "zip" q) [l, r] [] pos) X.env) :: starEach [] X.env := rfl
  refine Call_ (ld_blt I hl hl2 boot_list (PyProof.Rows.callWith_type1 ?_ hs rfl))
  rw [hs]
  show wpAny _ _ (spliced ((false, eval (.Call (.Name "zip" q) [l, r] [] pos) X.env) :: backTo pos2 (starEach [] X.env))) _ _ s
  refine Calls.spliced_cons ?_
  have pa : PA X [l, r] (tCons ta (tCons tb tNil)) := pa_cons ha (pa_cons hb pa_nil (plE_star p2 [] X.env)) (plE_star p1 [r] X.env)
  have hpl : (backTo pos (starEach [r] X.env)).any (·.1) = false := by rw [plE_star p2 [] X.env]; rfl
  refine Call_ (ld_blt I hz hz2 PyProof.Rows.boot_zip (PyProof.Rows.callWith_type1 (thn (pa.run pos pins s σ H (fun vs H2 => match vs with
    | [x, y] => rZipL X.K x y H2 Q
    | _ => False) I h) fun us s1 ⟨vs, H1, I1, r1, q1⟩ => ?_) (plE_star p1 [r] X.env) hpl))
  match vs, r1, q1 with
  | [], _, z => exact z.elim
  | [_], _, z => exact z.elim
  | _ :: _ :: _ :: _, _, z => exact z.elim
  | [x, y], r1, q1 =>
    obtain ⟨a, b, xs, ys, rfl, rfl, hab, q1⟩ := q1
    cases r1 with
    | cons r rr =>
    cases rr with
    | cons r' rr =>
    cases rr
    cases r
    cases r'
    have hh : X.A.handled = none := I1.ok.hd hc
    have fin : ∀ {xv yv : List Value} {o1 o2 : Obj} {H1' H2' : Heap → Prop} {St1 St2 : Nat → Heap → Prop} (rx : Vals xs xv) (ry : Vals ys yv) (zx : xs.length ≤ sizeLine) (B1 : Begins (.ref a) o1 H1') (B2 : Begins (.ref b) o2 H2') (b1 : H1' s1.heap) (b2 : H2' s1.heap) (la : a < s1.heap.objs.size) (lb : b < s1.heap.objs.size)
        (D1 : ∀ A : Around, A.handled = none → Draws X.prog X.w A s1.heap.objs.size [s1.heap.objs.size, a] xv.toArray.size (fun i v => xv.toArray[i]? = some v) St1) (D2 : ∀ A : Around, A.handled = none → Draws X.prog X.w A (s1.heap.objs.size + 1) [s1.heap.objs.size + 1, b] yv.toArray.size (fun i v => yv.toArray[i]? = some v) St2)
        (k1 : ∀ h' : Heap, h'.get? s1.heap.objs.size = some o1 → (∀ c o, s1.heap.get? c = some o → h'.get? c = some o) → St1 0 h') (k2 : ∀ h' : Heap, h'.get? (s1.heap.objs.size + 1) = some o2 → (∀ c o, s1.heap.get? c = some o → h'.get? c = some o) → St2 0 h'),
        wpAny (model X.prog X.w) X.A (PySem.call (.type "zip") [.ref a, .ref b]) (fun v s₁ => wpAny (model X.prog X.w) X.A (spliced (backTo pos2 (starEach [] X.env))) (fun vs s₂ => wpAny (model X.prog X.w) X.A (PySem.call (.type "list") (v :: vs)) (EP X pins σ Q) X.xe s₂) X.xe s₁) X.xe s1 := by
      intro xv yv o1 o2 H1' H2' St1 St2 rx ry zx B1 B2 b1 b2 la lb D1 D2 k1 k2
      refine zip_begins2 B1 B2 b1 b2 fun h' hz hTI hTO g1 g2 hsz hk => ?_
      refine Calls.spliced_nil ?_
      have lx := rx.length
      have ly := ry.length
      have na : ∀ {n : Nat}, s1.heap.objs.size ≤ n → a ≠ n := fun h => Nat.ne_of_lt (Nat.lt_of_lt_of_le la h)
      have nb : ∀ {n : Nat}, s1.heap.objs.size ≤ n → b ≠ n := fun h => Nat.ne_of_lt (Nat.lt_of_lt_of_le lb h)
      have ap := zap_mk s1.heap.objs.size a b la lb
      refine callZ (s := { s1 with heap := h' }) hh ap D1 D2 (by simp) (by simp) ?_ ?_ ?_ hz hTI hTO (k1 h' g1 hk) (k2 h' g2 hk) fun h'' tk acc c as hk' hS hl hG hacc => ?_
      · show h'.objs.size ∉ _
        rw [hsz]
        have := na (n := s1.heap.objs.size + 5) (by omega)
        simp only [List.mem_cons, List.not_mem_nil, or_false, not_or]
        exact ⟨by omega, this.symm⟩
      · show h'.objs.size ∉ _
        rw [hsz]
        have := nb (n := s1.heap.objs.size + 5) (by omega)
        simp only [List.mem_cons, List.not_mem_nil, or_false, not_or]
        exact ⟨by omega, this.symm⟩
      · simp only [List.size_toArray]
        omega
      · have ok : ∀ b o, s1.heap.get? b = some o → h''.get? b = some o := fun b o e => by
          have lt := Heap.lt_size e
          exact hk' b o (Nat.ne_of_lt (Nat.lt_of_lt_of_le lt (by omega))) (Nat.ne_of_lt (Nat.lt_of_lt_of_le lt (by omega))) (Nat.ne_of_lt lt) (Nat.ne_of_lt (Nat.lt_of_lt_of_le lt (by omega))) (hk b o e)
        simp only [List.size_toArray, ← lx, ← ly] at hl
        obtain ⟨H', n1, n2, n3, n4, J⟩ := pairs_laid (tk := tk) I1 rx ry (by omega) ok (S := h'.objs.size) (by rw [hsz]; omega) hS hl (by simpa using hG) hacc
        exact ⟨.ref _, H', J, rfl, q1 _ H' as n2 n1 n3 hl n4⟩
    rcases hab with ⟨hx, hy⟩ | ⟨hx, hy⟩
    · obtain ⟨its, rv, e1, z1⟩ := I1.list hx
      obtain ⟨its2, rv2, e2, z2⟩ := I1.list hy
      have la : a < s1.heap.objs.size := e1.lt
      have lb : b < s1.heap.objs.size := e2.lt
      refine fin rv rv2 z1 (begins_list a its.toArray) (begins_list b its2.toArray) e1.isList e2.isList la lb (fun A hA => Draws.list hA s1.heap.objs.size a (Nat.ne_of_lt la) its.toArray) (fun A hA => Draws.list hA (s1.heap.objs.size + 1) b (Nat.ne_of_lt (Nat.lt_succ_of_lt lb)) its2.toArray) (fun h' g hk => ⟨⟨_, g, rfl, rfl⟩, e1.isList.at fun o e => hk _ o e⟩) fun h' g hk => ⟨⟨_, g, rfl, rfl⟩, e2.isList.at fun o e => hk _ o e⟩
    · obtain ⟨its, rv, e1, z1⟩ := I1.tuple hx
      obtain ⟨its2, rv2, e2, z2⟩ := I1.tuple hy
      have la : a < s1.heap.objs.size := let ⟨_, e, _⟩ := e1; Heap.lt_size e
      have lb : b < s1.heap.objs.size := let ⟨_, e, _⟩ := e2; Heap.lt_size e
      refine fin rv rv2 z1 (begins_tuple a its.toArray) (begins_tuple b its2.toArray) e1 e2 la lb (fun A hA => Draws.tuple hA s1.heap.objs.size a (Nat.ne_of_lt la) its.toArray) (fun A hA => Draws.tuple hA (s1.heap.objs.size + 1) b (Nat.ne_of_lt (Nat.lt_succ_of_lt lb)) its2.toArray) (fun h' g hk => ⟨⟨_, g, rfl, rfl⟩, let ⟨o, x, y⟩ := e1; ⟨o, hk _ _ x, y⟩⟩) fun h' g hk => ⟨⟨_, g, rfl, rfl⟩, let ⟨o, x, y⟩ := e2; ⟨o, hk _ _ x, y⟩⟩
end
end Ev
set_option maxHeartbeats 1600000
/-! Tr5: expressions. -/
namespace Ev
open PySem PySem.Spec PyProof.Rows L2 RZ StX
section
variable {X : Cx}
theorem sl_all : L2.SlR X (rSlc X.K) := L2.SlR.or L2.sl_list (L2.SlR.or L2.sl_tupA L2.sl_str)
theorem mu_ok {m : Mu} {i : Nat} {x : Str} {p apos pos : Pos} {l : List Expr} {t : TA} (hv : PE X (.Name x p) (tVar i)) (hl : (apos.endLine == pos.line) = true) (hm : (match m, l with
      | .pop, [] => true
      | .clear, [] => true
      | .append, [y] => plE y
      | .extend, [y] => plE y
      | .popAt, [y] => plE y
      | _, _ => false) = true) (ha : PA X l t) (h0 : l = [] → t = tNil) : PE X (.Call (.Attribute (.Name x p) (muN m) apos) l [] pos) (tBM X.K "list" (rMu X.K m) (tVar i) t) := by
  have one : ∀ {y : Expr} {id : String} {r : V → List V → Hp → VK → Prop} {n : Str}, l = [y] → plE y = true → PySem.Slot "list" n id → typeOf (.builtin id) = pure (.type "method_descriptor") → MtR X id r → PE X (.Call (.Attribute (.Name x p) n apos) l [] pos) (tBM X.K "list" r (tVar i) t) := by
    intro y id r n el hp sl ty mt
    subst el
    have e1 := plE_star hp [] X.env
    exact pe_bm PySem.F.plainAttrs_list sl ty mt hv ha rfl (by rw [e1]; rfl) hl e1 rfl
  split at hm
  · rw [h0 rfl]
    exact pe_bm0 PySem.F.plainAttrs_list PySem.F.slot_list_pop PySem.F.type_list_pop mt_pop hv rfl hl
  · rw [h0 rfl]
    exact pe_bm0 PySem.F.plainAttrs_list PySem.F.slot_list_clear PySem.F.type_list_clear mt_clear hv rfl hl
  · exact one rfl hm PySem.F.slot_list_append PySem.F.type_list_append mt_append
  · exact one rfl hm PySem.F.slot_list_extend PySem.F.type_list_extend mt_extA
  · exact one rfl hm PySem.F.slot_list_pop PySem.F.type_list_pop mt_popAt
  · cases hm
theorem tE_test {te : TE} : tB te = tTest te := rfl
end
section
variable {tb : Tb} {dn : Dn} {k : Nat}
theorem abB_ok {o : Expr} (h : abB o = true) (m : Str) (env : Env) (w : Sem Value) : attributeBase o m env w = w := by
  unfold abB at h
  split at h
  · exact abase_call h
  · rfl
  · rfl
  · cases h
  · rename_i hn
    cases o <;> first | rfl | (exact absurd rfl (hn _ _ _ _))
theorem kw_all {pos : Pos} {env : Env} : ∀ {kws : List Keyword} {ks : List Str}, kwNames kws = some ks → (backToKw pos (keywordEach kws env)).all (·.1.isSome) = true ∧ (backToKw pos (keywordEach kws env)).filterMap (·.1) = ks ∧ (backToKw pos (keywordEach kws env)).any (·.1.isNone) = false ∧ kws.length = ks.length
  | [], ks, h => by cases h; exact ⟨rfl, rfl, rfl, rfl⟩
  | ⟨none, v, p⟩ :: r, ks, h => by cases h
  | ⟨some n, v, p⟩ :: r, ks, h => by
    have h : (kwNames r).map (n :: ·) = some ks := h
    cases e : kwNames r with
    | none => rw [e] at h; cases h
    | some ks' =>
      rw [e] at h
      cases h
      obtain ⟨h1, h2, h3, h4⟩ := kw_all (pos := pos) (env := env) e
      refine ⟨?_, ?_, ?_, by simp [h4]⟩
      · show (true && _) = true
        exact h1
      · show n :: _ = n :: ks'
        rw [← h2]
        rfl
      · show (false || _) = false
        exact h3
theorem nilA {dn : Dn} {tb : Tb} {sx : Sx} {t : Tms} (h : ckA tb t sx [] = true) : denA dn t = tNil := by
  cases t with
  | nil => rw [denA]
  | cons a r =>
    rw [ckA] at h
    cases h
  | star a r =>
    rw [ckA] at h
    cases h
theorem mkx_pe {sx : Sx} {X : Cx} (ok : XOk tb dn k sx X) {x : Str} {p pos : Pos} {l : List Expr} {kws : List Keyword} {ks : List Str} {c : Nat} {pm : List Nat} {ta tk : TA} (hg : glB sx x = true) (hl : tb.ers.lookup x = some c) (hp : l.all plE = true) (hk : kwNames kws = some ks)
    (one : l = [] ∨ kws = []) (hm : (c, l.length, ks, pm) ∈ tb.kws) (ha : PA X l ta) (hkw : PK X kws tk) (h0 : l = [] → ta = tNil) (h1 : kws = [] → tk = tNil) (hpm : kws = [] → pm = []) : PE X (.Call (.Name x p) l kws pos) (Xc.tMkE dn.g.ca c (dn.ef c) l.length ks.length pm ta tk) := by
  obtain ⟨g1, g2⟩ := glB_ok ok hg
  obtain ⟨C, hC, mx, Bn, B, newId, iN, initId, bmN, Bs, fI, fd, nm, qual, params, body, sc, T, hb⟩ := ok.tb.er x c hl
  have hb := hb _ _ _ hm
  obtain ⟨a1, a2, a3, a4⟩ := kw_all (pos := pos) (env := X.env) hk
  rcases one with e | e
  · subst e
    rw [h0 rfl]
    cases kws with
    | nil =>
      cases hk
      rw [h1 rfl]
      obtain rfl := hpm rfl
      exact Xc.pe_mkx0 hC T ok.room2 g1 mx g2 hb
    | cons kw kws => exact Xc.pe_mkxK hC T ok.room2 g1 mx g2 hb hkw a1 a2 (by rw [a3]; rfl)
  · subst e
    cases hk
    rw [h1 rfl]
    obtain rfl := hpm rfl
    cases l with
    | nil =>
      rw [h0 rfl]
      exact Xc.pe_mkx0 hC T ok.room2 g1 mx g2 hb
    | cons e es =>
      rw [List.all_cons, Bool.and_eq_true] at hp
      exact Xc.pe_mkx hC T ok.room2 g1 mx g2 hb ha (plE_star hp.1 _ _) (plEs_any hp.2)
mutual
theorem ckE_ok : ∀ (t : Tm) (sx : Sx) (X : Cx) (e : Expr), XOk tb dn k sx X → ckE tb t sx e = true → PE X e (denE dn t)
  | .var i, sx, X, e, ok, h => by
    rw [ckE] at h
    unfold mVar at h
    rw [denE]
    split at h
    · exact visB_ok ok h
    · cases h
  | .cst d, sx, X, e, ok, h => by
    rw [ckE] at h
    unfold mCst at h
    rw [denE]
    split at h
    · exact cstB_ok h
    · cases h
  | .gl i, sx, X, e, ok, h => by
    rw [ckE] at h
    unfold mGl at h
    rw [denE]
    split at h
    · rw [Bool.and_eq_true, decide_eq_true_eq] at h
      obtain ⟨h1, h2⟩ := h
      obtain ⟨g1, g2⟩ := glB_ok ok h1
      obtain ⟨u, m1, m2⟩ := ok.tb.gc _ _ h2
      exact pe_glob g1 m1 m2 g2
    · split at h
      · rw [Bool.and_eq_true, decide_eq_true_eq] at h
        obtain ⟨h1, h2⟩ := h
        obtain ⟨g1, g2⟩ := glB_ok ok h1
        obtain ⟨a, mc, u, m1, m2, m3⟩ := ok.tb.cl _ _ _ h2
        exact PE.imp (ClX.pe_cval (pe_glob (v := .ref a) g1 m1 rfl g2)) fun σ H Q q => ⟨a, mc, _, u, rfl, m2, m3, q⟩
      · cases h
    · cases h
  | .fnv i, sx, X, e, ok, h => by
    rw [ckE] at h
    unfold mFnv at h
    rw [denE]
    split at h
    · rw [Bool.and_eq_true, decide_eq_true_eq] at h
      obtain ⟨h1, h2⟩ := h
      obtain ⟨g1, g2⟩ := glB_ok ok h1
      obtain ⟨a, m1, m2⟩ := ok.tb.fn _ _ h2
      rw [m2]
      exact pe_glob g1 m1 rfl g2
    · cases h
  | .bin o a b, sx, X, e, ok, h => by
    rw [ckE] at h
    unfold mBin at h
    rw [denE]
    split at h
    · rw [Bool.and_eq_true, Bool.and_eq_true, decide_eq_true_eq] at h
      obtain ⟨rfl, h1, h2⟩ := h
      rw [ok.K]; exact pe_op (op_bin o) (ckE_ok a sx X _ ok h1) (ckE_ok b sx X _ ok h2)
    · cases h
  | .neg a, sx, X, e, ok, h => by
    rw [ckE] at h
    unfold mNeg at h
    rw [denE]
    split at h
    · rw [Bool.and_eq_true, decide_eq_true_eq] at h
      obtain ⟨rfl, h1⟩ := h
      exact pe_un un_neg (ckE_ok a sx X _ ok h1)
    · cases h
  | .notv a, sx, X, e, ok, h => by
    rw [ckE] at h
    unfold mNotv at h
    rw [denE]
    split at h
    · rw [Bool.and_eq_true, decide_eq_true_eq] at h
      obtain ⟨rfl, h1⟩ := h
      rw [ok.K]
      exact pe_notT (ckE_ok a sx X _ ok h1)
    · cases h
  | .cmp o a b, sx, X, e, ok, h => by
    rw [ckE] at h
    unfold mCmp at h
    rw [denE]
    split at h
    · rw [Bool.and_eq_true, Bool.and_eq_true, Bool.and_eq_true, decide_eq_true_eq] at h
      obtain ⟨⟨rfl, hp⟩, h1, h2⟩ := h
      rw [ok.K]
      have hu := units ok
      exact pe_cmpR (op_cmp (by omega) o) (ckE_ok a sx X _ ok h1) (ckE_ok b sx X _ ok h2) (plE_mark hp _)
    · cases h
  | .isN a, sx, X, e, ok, h => by
    rw [ckE] at h
    unfold mIsn at h
    rw [denE]
    split at h
    · rw [Bool.and_eq_true, decide_eq_true_eq] at h
      obtain ⟨rfl, h1⟩ := h
      exact pe_cmp (pc_isN (ckE_ok a sx X _ ok h1))
    · cases h
  | .isNN a, sx, X, e, ok, h => by
    rw [ckE] at h
    unfold mIsnn at h
    rw [denE]
    split at h
    · rw [Bool.and_eq_true, decide_eq_true_eq] at h
      obtain ⟨rfl, h1⟩ := h
      exact pe_cmp (pc_notN (ckE_ok a sx X _ ok h1))
    · cases h
  | .chain o p a b c, sx, X, e, ok, h => by
    rw [ckE] at h
    unfold mChain at h
    rw [denE]
    split at h
    · simp only [Bool.and_eq_true, decide_eq_true_eq] at h
      obtain ⟨⟨⟨rfl, rfl⟩, hp⟩, h1, h2, h3⟩ := h
      rw [ok.K]
      have hu := units ok
      exact pe_chain (op_cmp (by omega) o) (op_cmp (by omega) p) (ckE_ok a sx X _ ok h1) (ckE_ok b sx X _ ok h2) (ckE_ok c sx X _ ok h3) (plE_mark hp _)
    · cases h
  | .andv a b, sx, X, e, ok, h => by
    rw [ckE] at h
    unfold mAndv at h
    rw [denE]
    split at h
    · simp only [Bool.and_eq_true, decide_eq_true_eq] at h
      obtain ⟨rfl, h1, h2⟩ := h
      rw [ok.K]
      exact pe_andT (ckE_ok a sx X _ ok h1) (pe_one (ckE_ok b sx X _ ok h2))
    · simp only [Bool.and_eq_true, decide_eq_true_eq] at h
      obtain ⟨rfl, h1, h2⟩ := h
      rw [ok.K]
      exact pe_andT (ckE_ok a sx X _ ok h1) (ckE_ok b sx X _ ok h2)
    · cases h
  | .orv a b, sx, X, e, ok, h => by
    rw [ckE] at h
    unfold mOrv at h
    rw [denE]
    split at h
    · simp only [Bool.and_eq_true, decide_eq_true_eq] at h
      obtain ⟨rfl, h1, h2⟩ := h
      rw [ok.K]
      exact pe_orT (ckE_ok a sx X _ ok h1) (pe_one (ckE_ok b sx X _ ok h2))
    · simp only [Bool.and_eq_true, decide_eq_true_eq] at h
      obtain ⟨rfl, h1, h2⟩ := h
      rw [ok.K]
      exact pe_orT (ckE_ok a sx X _ ok h1) (ckE_ok b sx X _ ok h2)
    · cases h
  | .ife c a b, sx, X, e, ok, h => by
    rw [ckE] at h
    unfold mIfe at h
    rw [denE]
    split at h
    · simp only [Bool.and_eq_true] at h
      obtain ⟨h0, h1, h2⟩ := h
      exact pe_ifExp (ckC_ok c sx X _ ok h0) (ckE_ok a sx X _ ok h1) (ckE_ok b sx X _ ok h2)
    · cases h
  | .idx a b, sx, X, e, ok, h => by
    rw [ckE] at h
    unfold mIdx at h
    rw [denE]
    split at h
    · simp only [Bool.and_eq_true] at h
      obtain ⟨hp, h1, h2⟩ := h
      rw [ok.K]
      have hu := units ok
      exact pe_ix (ix_all (by omega)) (ckE_ok a sx X _ ok h1) (ckE_ok b sx X _ ok h2) (plE_ix hp)
    · cases h
  | .slc a lo hi, sx, X, e, ok, h => by
    rw [ckE] at h
    unfold mSlc at h
    rw [denE]
    split at h
    · simp only [Bool.and_eq_true] at h
      obtain ⟨h1, h2, h3⟩ := h
      rw [ok.K]
      refine pe_slice ?_ (ckE_ok a sx X _ ok h1) (ckTo_ok lo sx X _ ok h2) (ckTo_ok hi sx X _ ok h3)
      exact sl_all
    · cases h
  | .evn a lo, sx, X, e, ok, h => by
    rw [ckE] at h
    unfold mEvn at h
    rw [denE]
    split at h
    · simp only [Bool.and_eq_true, decide_eq_true_eq] at h
      obtain ⟨rfl, h1, h2⟩ := h
      rw [ok.K]
      exact pe_evn (ckE_ok a sx X _ ok h1) (ckTo_ok lo sx X _ ok h2)
    · cases h
  | .rev a, sx, X, e, ok, h => by
    rw [ckE] at h
    unfold mRev at h
    rw [denE]
    split at h
    · simp only [Bool.and_eq_true, decide_eq_true_eq] at h
      obtain ⟨⟨rfl, rfl⟩, h1⟩ := h
      rw [ok.K]
      exact pe_revL (ckE_ok a sx X _ ok h1)
    · cases h
  | .bi f a, sx, X, e, ok, h => by
    rw [ckE] at h
    unfold mBi at h
    rw [denE]
    split at h
    · split at h
      · rename_i n v hb
        simp only [Bool.and_eq_true, decide_eq_true_eq] at h
        obtain ⟨⟨⟨rfl, hf⟩, hp⟩, h1⟩ := h
        exact bi_ok ok hb hf hp (ckE_ok a sx X _ ok h1)
      · rw [Bool.and_eq_true, decide_eq_true_eq] at h
        obtain ⟨rfl, h⟩ := h
        unfold mSetI at h
        split at h
        · simp only [Bool.and_eq_true, decide_eq_true_eq] at h
          obtain ⟨⟨⟨⟨⟨rfl, hf⟩, rfl⟩, hf2⟩, hp⟩, h1⟩ := h
          obtain ⟨g1, g2⟩ := frB_ok ok hf
          obtain ⟨g3, g4⟩ := frB_ok ok hf2
          rw [ok.K]
          exact pe_lenSetT ok.calm g1 g2 g3 g4 (ckE_ok a sx X _ ok h1) (plE_star hp _ _)
        · cases h
    · simp only [Bool.and_eq_true, decide_eq_true_eq] at h
      obtain ⟨⟨⟨⟨rfl, rfl⟩, hf⟩, hp⟩, h1⟩ := h
      obtain ⟨g1, g2⟩ := frB_ok ok hf
      rw [ok.K]
      exact pe_sumL ok.calm g1 g2 (ckE_ok a sx X _ ok h1) (plE_star hp _ _)
    · simp only [Bool.and_eq_true, decide_eq_true_eq] at h
      obtain ⟨⟨⟨⟨⟨⟨hi, rfl⟩, hf⟩, rfl⟩, ht⟩, hp⟩, h1⟩ := h
      exact isi_ok ok hi hf ht hp (ckE_ok a sx X _ ok h1)
    · cases h
  | .join s a, sx, X, e, ok, h => by
    rw [ckE] at h
    unfold mJoin at h
    rw [denE]
    split at h
    · simp only [Bool.and_eq_true, decide_eq_true_eq] at h
      obtain ⟨⟨⟨⟨rfl, hn⟩, hl⟩, hp⟩, h1, h2⟩ := h
      rw [ok.K]
      exact pe_join (ckE_ok s sx X _ ok h1) (ckE_ok a sx X _ ok h2) (plE_star hp _ _) (ncE_base hn _ _ _) hl
    · cases h
  | .dget d kk x, sx, X, e, ok, h => by
    rw [ckE] at h
    unfold mDget at h
    rw [denE]
    split at h
    · simp only [Bool.and_eq_true, decide_eq_true_eq] at h
      obtain ⟨⟨⟨⟨⟨rfl, hn⟩, hl⟩, hp⟩, hq⟩, h1, h2, h3⟩ := h
      have hu := units ok
      refine pe_dget2 (by omega) (ckE_ok d sx X _ ok h1) (ckE_ok kk sx X _ ok h2) (ckE_ok x sx X _ ok h3) ⟨ncE_base hn _ _ _, ?_, hl, ?_⟩
      · rw [plE_star hp, plE_star hq]
        rfl
      · rw [plE_star hp, plE_star hq]
        rfl
    · cases h
  | .zipl a b, sx, X, e, ok, h => by
    rw [ckE] at h
    unfold mZipl at h
    rw [denE]
    split at h
    · simp only [Bool.and_eq_true, decide_eq_true_eq] at h
      obtain ⟨⟨⟨⟨⟨⟨rfl, hf⟩, rfl⟩, hf2⟩, hp⟩, hq⟩, h1, h2⟩ := h
      rw [ok.K]
      obtain ⟨g1, g2⟩ := frB_ok ok hf
      obtain ⟨g3, g4⟩ := frB_ok ok hf2
      exact pe_zipl g1 g2 g3 g4 hp hq (ckE_ok a sx X _ ok h1) (ckE_ok b sx X _ ok h2) ok.calm
    · cases h
  | .gin g a, sx, X, e, ok, h => by
    rw [ckE] at h
    unfold mGin at h
    rw [denE]
    split at h
    · simp only [Bool.and_eq_true, decide_eq_true_eq] at h
      obtain ⟨⟨⟨rfl, hg⟩, hl⟩, h1⟩ := h
      obtain ⟨g1, g2⟩ := glB_ok ok hg
      obtain ⟨m1, ⟨es, n, D⟩, _⟩ := ok.tb.gd _ _ hl
      rw [ok.K]
      exact PE.imp (pe_cmpR (op_in_kd D) (ckE_ok a sx X _ ok h1) (pe_glob (v := .ref (dn.gda g)) g1 m1 rfl g2) rfl) fun σ H Q q => q
    · cases h
  | .gidx g a, sx, X, e, ok, h => by
    rw [ckE] at h
    unfold mGidx at h
    rw [denE]
    split at h
    · simp only [Bool.and_eq_true, decide_eq_true_eq] at h
      obtain ⟨⟨⟨hg, hl⟩, hp⟩, h1⟩ := h
      obtain ⟨g1, g2⟩ := glB_ok ok hg
      obtain ⟨m1, ⟨es, n, D⟩, _⟩ := ok.tb.gd _ _ hl
      rw [ok.K, ok.w]
      exact PE.imp (pe_ix ix_kdict (pe_glob (v := .ref (dn.gda g)) g1 m1 rfl g2) (ckE_ok a sx X _ ok h1) (plE_ix hp)) fun σ H Q q => q
    · cases h
  | .gdict g, sx, X, e, ok, h => by
    rw [ckE] at h
    unfold mGdict at h
    rw [denE]
    split at h
    · simp only [Bool.and_eq_true, decide_eq_true_eq] at h
      obtain ⟨⟨⟨rfl, hf⟩, hg⟩, hl⟩ := h
      obtain ⟨f1, f2⟩ := frB_ok ok hf
      obtain ⟨g1, g2⟩ := glB_ok ok hg
      obtain ⟨m1, ⟨es, n, D⟩, hz, vs, kv, hd⟩ := ok.tb.gd _ _ hl
      exact pe_gcopy f1 f2 g1 m1 g2 D.low hz kv hd
    · cases h
  | .tupd es, sx, X, e, ok, h => by
    rw [ckE] at h
    unfold mTupd at h
    rw [denE]
    split at h
    · exact pe_tup (ckA_ok es sx X _ ok h)
    · cases h
  | .lstd es, sx, X, e, ok, h => by
    rw [ckE] at h
    unfold mLstd at h
    rw [denE]
    split at h
    · exact pe_lst (ckA_ok es sx X _ ok h)
    · cases h
  | .dctd .nil, sx, X, e, ok, h => by
    rw [ckE] at h
    unfold mDctd at h
    rw [denE]
    split at h
    · simp only [Bool.and_eq_true, decide_eq_true_eq] at h
      obtain ⟨_, h⟩ := h
      rw [ckP] at h
      first | unfold mpNil at h | unfold mpCons at h
      split at h
      · exact pe_dnewK
      · cases h
    · cases h
  | .dctd (.cons a b r), sx, X, e, ok, h => by
    rw [ckE] at h
    unfold mDctd at h
    rw [denE]
    split at h
    · simp only [Bool.and_eq_true, decide_eq_true_eq] at h
      obtain ⟨hl, h⟩ := h
      rename_i ks vs pos
      rw [ckP] at h
      first | unfold mpNil at h | unfold mpCons at h
      split at h
      · rename_i x ks y vs
        simp only [Bool.and_eq_true] at h
        obtain ⟨h1, h2, h3⟩ := h
        obtain ⟨q1, q2, q3⟩ := ckP_ok r sx X _ _ pos ok h3
        refine pe_disp (pps_cons (ckE_ok a sx X _ ok h1) (ckE_ok b sx X _ ok h2) q1) ?_ ?_ (by simp) hl
        · rw [List.all_cons, q2]
          rfl
        · simp only [List.length_cons, q3]
      · cases h
    · cases h
  | .call f as, sx, X, e, ok, h => by
    rw [ckE] at h
    unfold mCall at h
    rw [denE]
    split at h
    · simp only [Bool.and_eq_true, decide_eq_true_eq] at h
      obtain ⟨⟨⟨hg, hl⟩, hp⟩, h1⟩ := h
      obtain ⟨g1, g2⟩ := glB_ok ok hg
      obtain ⟨a, m1, m2⟩ := ok.tb.fn _ _ hl
      obtain ⟨F, hk⟩ := ok.tb.fa _ _ m2
      rename_i l _
      cases l with
      | nil =>
        cases as with
        | nil =>
          rw [denA]
          exact pe_callG0 F ok.gu ok.room g1 m1 hk g2
        | cons a r => rw [ckA] at h1; cases h1
        | star a r => rw [ckA] at h1; cases h1
      | cons y l => exact pe_callG F ok.gu ok.room g1 m1 hk g2 hp (ckA_ok as sx X _ ok h1)
    · cases h
  | .ncall f as, sx, X, e, ok, h => by
    rw [ckE] at h
    unfold mCall at h
    rw [denE]
    split at h
    · simp only [Bool.and_eq_true, decide_eq_true_eq] at h
      obtain ⟨⟨⟨hg, hl⟩, hp⟩, h1⟩ := h
      obtain ⟨g1, g2⟩ := glB_ok ok hg
      obtain ⟨a, m1, m2⟩ := ok.tb.fn _ _ hl
      obtain ⟨F, hk⟩ := ok.tb.fa _ _ m2
      rename_i l _
      cases l with
      | nil =>
        cases as with
        | nil =>
          rw [denA]
          exact pe_callG0 F ok.gu ok.room g1 m1 hk g2
        | cons a r => rw [ckA] at h1; cases h1
        | star a r => rw [ckA] at h1; cases h1
      | cons y l => exact pe_callG F ok.gu ok.room g1 m1 hk g2 hp (ckA_ok as sx X _ ok h1)
    · cases h
  | .callv i as, sx, X, e, ok, h => by
    rw [ckE] at h
    unfold mCallv at h
    rw [denE]
    split at h
    · simp only [Bool.and_eq_true] at h
      obtain ⟨⟨hv, hp⟩, h1⟩ := h
      exact pe_callV ok.tb.fa ok.gu ok.room (visB_ok ok hv) hp (ckA_ok as sx X _ ok h1)
    · cases h
  | .comp x tg one it c own, sx, X, e, ok, h => by
    rw [ckE] at h
    unfold mComp at h
    rw [denE]
    split at h
    · simp only [Bool.and_eq_true, decide_eq_true_eq] at h
      obtain ⟨⟨⟨⟨⟨⟨rfl, hb⟩, hp⟩, hi⟩, ht⟩, hc⟩, hx⟩ := h
      rename_i elt t iter ifs scope pos
      have B : BlkOk X.N X.env.scope scope (ownP sx own) := by
        rw [ok.N, ok.sc]
        exact blkOk_by hb
      have z := pe_lc (pos := pos) ok.calm (by rw [ok.N]; exact ok.nd) (ckI_ok it sx X t _ ok hi) B (fun s H C cl fp => ckTg_ok (ok.blk B s H C cl fp) ht) (fun s H C cl fp => ckTc_ok c _ _ _ (ok.blk B s H C cl fp) hc) (fun s H C cl fp => ckE_ok x _ _ _ (ok.blk B s H C cl fp) hx) (plE_fold hp _)
      rw [ownP_snd] at z
      exact z
    · cases h
  | .look x tg one i c own, sx, X, e, ok, h => by
    rw [ckE] at h
    unfold mComp at h
    rw [denE]
    split at h
    · simp only [Bool.and_eq_true, decide_eq_true_eq] at h
      obtain ⟨⟨⟨⟨⟨⟨rfl, hb⟩, hp⟩, hi⟩, ht⟩, hc⟩, hx⟩ := h
      rename_i elt t iter ifs scope pos
      have B : BlkOk X.N X.env.scope scope (ownP sx own) := by
        rw [ok.N, ok.sc]
        exact blkOk_by hb
      have hI : PI X t iter (iSeq dn.g.K (tVar i)) := by
        unfold miSeq mVar at hi
        rw [ok.K]
        split at hi
        · exact pi_seq (visB_ok ok hi)
        · cases hi
      have z := pe_lc (pos := pos) ok.calm (by rw [ok.N]; exact ok.nd) hI B (fun s H C cl fp => ckTg_ok (ok.blk B s H C cl fp) ht) (fun s H C cl fp => ckTc_ok c _ _ _ (ok.blk B s H C cl fp) hc) (fun s H C cl fp => ckE_ok x _ _ _ (ok.blk B s H C cl fp) hx) (plE_fold hp _)
      rw [ownP_snd] at z
      exact z
    · cases h
  | .dcomp kk v tg one it own, sx, X, e, ok, h => by
    rw [ckE] at h
    unfold mDcomp at h
    rw [denE]
    split at h
    · simp only [Bool.and_eq_true, decide_eq_true_eq] at h
      obtain ⟨⟨⟨⟨⟨⟨rfl, hb⟩, hp⟩, hi⟩, ht⟩, hc⟩, hx⟩ := h
      rename_i kx vx t iter scope pos
      have B : BlkOk X.N X.env.scope scope (ownP sx own) := by
        rw [ok.N, ok.sc]
        exact blkOk_by hb
      have z := pe_dc (pos := pos) ok.calm (by rw [ok.N]; exact ok.nd) (ckI_ok it sx X t _ ok hi) B (fun s H C cl fp => ckTg_ok (ok.blk B s H C cl fp) ht) (fun s H C cl fp => pts_nil) (fun s H C cl fp => ckE_ok kk _ _ _ (ok.blk B s H C cl fp) hc) (fun s H C cl fp => ckE_ok v _ _ _ (ok.blk B s H C cl fp) hx) (plE_fold hp _)
      rw [ownP_snd] at z
      exact z
    · cases h
  | .mu m i as, sx, X, e, ok, h => by
    rw [ckE] at h
    unfold mMu at h
    rw [denE]
    split at h
    · simp only [Bool.and_eq_true, decide_eq_true_eq] at h
      obtain ⟨⟨⟨⟨rfl, hv⟩, hl⟩, hm⟩, h1⟩ := h
      rename_i x p apos l pos
      rw [ok.K]
      refine mu_ok (visB_ok ok hv) hl hm (ckA_ok as sx X _ ok h1) fun el => ?_
      subst el
      cases as with
      | nil => rw [denA]
      | cons a r => rw [ckA] at h1; cases h1
      | star a r => rw [ckA] at h1; cases h1
    · cases h
  | .min2 a b, sx, X, e, ok, h => by
    rw [ckE] at h
    unfold mMin2 at h
    rw [denE]
    split at h
    · simp only [Bool.and_eq_true, decide_eq_true_eq] at h
      obtain ⟨⟨⟨⟨rfl, hf⟩, hp⟩, hq⟩, h1, h2⟩ := h
      obtain ⟨g1, g2⟩ := frB_ok ok hf
      exact pe_min2 ok.calm g1 g2 hp hq (ckE_ok a sx X _ ok h1) (ckE_ok b sx X _ ok h2)
    · cases h
  | .dupd i a, sx, X, e, ok, h => by
    rw [ckE] at h
    unfold mDupd at h
    rw [denE]
    split at h
    · simp only [Bool.and_eq_true, decide_eq_true_eq] at h
      obtain ⟨⟨⟨⟨rfl, hv⟩, hl⟩, hp⟩, h1⟩ := h
      refine pe_dupd (visB_ok ok hv) (ckE_ok a sx X _ ok h1) ⟨ncE_base rfl _ _ _, ?_, hl, ?_⟩
      · rw [plE_star hp]
        rfl
      · rw [plE_star hp]
        rfl
    · cases h
  | .mkx c n m es ks pm, sx, X, e, ok, h => by
    rw [ckE] at h
    unfold mMkx at h
    rw [denE]
    split at h
    · simp only [Bool.and_eq_true, decide_eq_true_eq] at h
      obtain ⟨hg, hl, hp, hv, h⟩ := h
      split at h
      · rename_i nms hk
        simp only [Bool.and_eq_true, Bool.or_eq_true, decide_eq_true_eq, List.isEmpty_iff] at h
        obtain ⟨one, hpm, ⟨rfl, rfl⟩, hm, h1, h2⟩ := h
        exact mkx_pe ok hg hl hp hk one (by simpa using hm) (ckA_ok es sx X _ ok h1) (ckK_ok ks sx X _ ok hv h2) (fun z => by
          subst z
          exact nilA h1) (fun z => by
          subst z
          exact nilA h2) fun z => by
          rcases hpm with q | q
          · exact absurd z (by simpa using q)
          · exact q
      · cases h
    · cases h
  | .fld a f, sx, X, e, ok, h => by
    rw [ckE] at h
    unfold mFld at h
    rw [denE]
    split at h
    · simp only [Bool.and_eq_true, decide_eq_true_eq] at h
      obtain ⟨rfl, hb, h1⟩ := h
      rw [ok.K]
      exact Xc.pe_xg (ckE_ok a sx X _ ok h1) (abB_ok hb _ _ _)
    · cases h
  | .isx a c, sx, X, e, ok, h => by
    rw [ckE] at h
    unfold mIsx at h
    rw [denE]
    split at h
    · simp only [Bool.and_eq_true, decide_eq_true_eq] at h
      obtain ⟨rfl, hf, hp, hg, hl, h1⟩ := h
      obtain ⟨f1, f2⟩ := frB_ok ok hf
      obtain ⟨g1, g2⟩ := glB_ok ok hg
      obtain ⟨u, ru, hu⟩ := ok.tb.is _ _ hl
      rw [ok.K]
      have py : ∀ q, PE X (.Name _ q) (tC (dn.ct c)) := fun q => by
        rcases hu with m | ⟨m, b, n⟩
        · exact pe_glob g1 m ru g2
        · exact pe_bltn g1 m b ru n g2
      exact pe_callB Xc.call_isX f1 f2 (by decide +kernel) (pa_cons (ckE_ok a sx X _ ok h1) (pa_cons (py _) pa_nil) (plE_star hp _ _)) (he := plE_star hp _ _)
    · cases h
theorem ckK_ok : ∀ (t : Tms) (sx : Sx) (X : Cx) (kws : List Keyword), XOk tb dn k sx X → (kws.map (·.value)).all plE = true → ckA tb t sx (kws.map (·.value)) = true → PK X kws (denA dn t)
  | .nil, sx, X, kws, ok, hv, h => by
    rw [ckA] at h
    unfold maNil at h
    rw [denA]
    cases kws with
    | nil => exact pk_nil
    | cons _ _ => cases h
  | .cons a r, sx, X, kws, ok, hv, h => by
    rw [ckA] at h
    unfold maCons at h
    rw [denA]
    cases kws with
    | nil => cases h
    | cons kw kws =>
      obtain ⟨nm, v, p⟩ := kw
      rw [List.map_cons] at h hv
      simp only [Bool.and_eq_true] at h
      rw [List.all_cons, Bool.and_eq_true] at hv
      obtain ⟨hp, h1, h2⟩ := h
      exact pk_cons (ckE_ok a sx X _ ok h1) (ckK_ok r sx X kws ok hv.2 h2)
  | .star a r, sx, X, kws, ok, hv, h => by
    rw [ckA] at h
    unfold maStar at h
    cases kws with
    | nil => cases h
    | cons kw kws =>
      obtain ⟨nm, v, p⟩ := kw
      rw [List.map_cons] at h hv
      rw [List.all_cons, Bool.and_eq_true] at hv
      cases v <;> first | (cases h; done) | (exact absurd hv.1 (by simp [plE]))
theorem ckTo_ok : ∀ (t : To) (sx : Sx) (X : Cx) (e : Option Expr), XOk tb dn k sx X → ckTo tb t sx e = true → PO X e (denTo dn t)
  | .no, sx, X, e, ok, h => by
    rw [ckTo] at h
    unfold moNo at h
    rw [denTo]
    split at h
    · exact po_none
    · cases h
  | .yes a, sx, X, e, ok, h => by
    rw [ckTo] at h
    unfold moYes at h
    rw [denTo]
    split at h
    · exact po_some (ckE_ok a sx X _ ok h)
    · cases h
theorem ckTc_ok : ∀ (t : To') (sx : Sx) (X : Cx) (e : List Expr), XOk tb dn k sx X → ckTc tb t sx e = true → PTs X e (denTc dn t)
  | .no, sx, X, e, ok, h => by
    rw [ckTc] at h
    unfold mcNo at h
    rw [denTc]
    split at h
    · exact pts_nil
    · cases h
  | .yes c, sx, X, e, ok, h => by
    rw [ckTc] at h
    unfold mcYes at h
    rw [denTc]
    split at h
    · exact pts_one (ckC_ok c sx X _ ok h)
    · cases h
theorem ckA_ok : ∀ (t : Tms) (sx : Sx) (X : Cx) (e : List Expr), XOk tb dn k sx X → ckA tb t sx e = true → PA X e (denA dn t)
  | .nil, sx, X, e, ok, h => by
    rw [ckA] at h
    unfold maNil at h
    rw [denA]
    split at h
    · exact pa_nil
    · cases h
  | .cons a r, sx, X, e, ok, h => by
    rw [ckA] at h
    unfold maCons at h
    rw [denA]
    split at h
    · simp only [Bool.and_eq_true] at h
      obtain ⟨hp, h1, h2⟩ := h
      exact pa_cons (ckE_ok a sx X _ ok h1) (ckA_ok r sx X _ ok h2) (plE_star hp _ _)
    · cases h
  | .star a r, sx, X, e, ok, h => by
    rw [ckA] at h
    unfold maStar at h
    rw [denA]
    split at h
    · simp only [Bool.and_eq_true] at h
      obtain ⟨h1, h2⟩ := h
      rw [ok.K]
      exact pa_star (ckE_ok a sx X _ ok h1) (ckA_ok r sx X _ ok h2)
    · cases h
theorem ckP_ok : ∀ (t : Tps) (sx : Sx) (X : Cx) (ks : List (Option Expr)) (vs : List Expr) (pos : Pos), XOk tb dn k sx X → ckP tb t sx ks vs = true → PPs X pos ks vs (denP dn t) ∧ ks.all (·.isSome) = true ∧ ks.length = vs.length
  | .nil, sx, X, ks, vs, pos, ok, h => by
    rw [ckP] at h
    unfold mpNil at h
    rw [denP]
    split at h
    · exact ⟨pps_nil, rfl, rfl⟩
    · cases h
  | .cons a b r, sx, X, ks, vs, pos, ok, h => by
    rw [ckP] at h
    unfold mpCons at h
    rw [denP]
    split at h
    · simp only [Bool.and_eq_true] at h
      obtain ⟨h1, h2, h3⟩ := h
      obtain ⟨q1, q2, q3⟩ := ckP_ok r sx X _ _ pos ok h3
      refine ⟨pps_cons (ckE_ok a sx X _ ok h1) (ckE_ok b sx X _ ok h2) q1, ?_, ?_⟩
      · rw [List.all_cons, q2]
        rfl
      · simp only [List.length_cons, q3]
    · cases h
theorem ckI_ok : ∀ (t : It) (sx : Sx) (X : Cx) (tg e : Expr), XOk tb dn k sx X → ckI tb t sx tg e = true → PI X tg e (denI dn t)
  | .seq a, sx, X, tg, e, ok, h => by
    rw [ckI] at h
    unfold miSeq at h
    rw [denI, ok.K]
    exact pi_seq (ckE_ok a sx X _ ok h)
  | .rng1 a, sx, X, tg, e, ok, h => by
    rw [ckI] at h
    unfold miRng1 at h
    rw [denI]
    split at h
    · simp only [Bool.and_eq_true, decide_eq_true_eq] at h
      obtain ⟨⟨⟨rfl, hf⟩, hp⟩, h1⟩ := h
      obtain ⟨g1, g2⟩ := frB_ok ok hf
      have e1 := plE_star hp [] X.env
      exact pi_range1 g1 g2 (pa_cons (ckE_ok a sx X _ ok h1) pa_nil e1) e1
    · cases h
  | .rng2 a b, sx, X, tg, e, ok, h => by
    rw [ckI] at h
    unfold miRng2 at h
    rw [denI]
    split at h
    · simp only [Bool.and_eq_true, decide_eq_true_eq] at h
      obtain ⟨⟨⟨⟨rfl, hf⟩, hp⟩, hq⟩, h1, h2⟩ := h
      obtain ⟨g1, g2⟩ := frB_ok ok hf
      rename_i y z _
      have e1 := plE_star hp [z] X.env
      have e2 := plE_star hq [] X.env
      exact pi_range2 g1 g2 (pa_cons (ckE_ok a sx X _ ok h1) (pa_cons (ckE_ok b sx X _ ok h2) pa_nil e2) e1) (by rw [e1, e2]; rfl) e2
    · cases h
  | .enum a, sx, X, tg, e, ok, h => by
    rw [ckI] at h
    unfold miEnum at h
    rw [denI]
    split at h
    · simp only [Bool.and_eq_true, decide_eq_true_eq] at h
      obtain ⟨⟨⟨⟨ht, rfl⟩, hf⟩, hp⟩, h1⟩ := h
      obtain ⟨g1, g2⟩ := frB_ok ok hf
      rw [ok.K]
      cases tg <;> first | (cases ht; done) | skip
      exact pi_enumA g1 g2 (ckE_ok a sx X _ ok h1) (plE_star hp [] X.env)
    · cases h
  | .zip a b, sx, X, tg, e, ok, h => by
    rw [ckI] at h
    unfold miZip at h
    rw [denI]
    split at h
    · simp only [Bool.and_eq_true, decide_eq_true_eq] at h
      obtain ⟨⟨⟨⟨⟨ht, rfl⟩, hf⟩, hp⟩, hq⟩, h1, h2⟩ := h
      obtain ⟨g1, g2⟩ := frB_ok ok hf
      rw [ok.K]
      cases tg <;> first | (cases ht; done) | skip
      rename_i y z _ _ _ _
      have e2 := plE_star hq [] X.env
      exact pi_zipA g1 g2 (pa_cons (ckE_ok a sx X _ ok h1) (pa_cons (ckE_ok b sx X _ ok h2) pa_nil e2) (plE_star hp _ _)) (plE_star hp _ _) (by rw [e2]; rfl)
    · cases h
theorem ckC_ok : ∀ (t : Ct) (sx : Sx) (X : Cx) (e : Expr), XOk tb dn k sx X → ckC tb t sx e = true → PT X e (denC dn t)
  | .val a, sx, X, e, ok, h => by
    rw [ckC] at h
    unfold mtVal at h
    rw [denC, ok.K]
    simp only [Bool.and_eq_true] at h
    exact pt_truth (ckE_ok a sx X _ ok h.2) fun w => trE_ok h.1 X.env w
  | .cmp a, sx, X, e, ok, h => by
    rw [ckC] at h
    unfold mtCmp at h
    rw [denC]
    exact ckQ_ok a sx X e ok h
  | .and a b, sx, X, e, ok, h => by
    rw [ckC] at h
    unfold mtAnd at h
    rw [denC]
    split at h
    · simp only [Bool.and_eq_true, decide_eq_true_eq] at h
      obtain ⟨rfl, h1, h2⟩ := h
      exact (pw_and (ckC_ok a sx X _ ok h1) (pw_and1 (ckC_ok b sx X _ ok h2))).pt
    · simp only [Bool.and_eq_true, decide_eq_true_eq] at h
      obtain ⟨rfl, h1, h2⟩ := h
      exact (pw_and (ckC_ok a sx X _ ok h1) (pt_pw (ckC_ok b sx X _ ok h2))).pt
    · cases h
  | .or a b, sx, X, e, ok, h => by
    rw [ckC] at h
    unfold mtOr at h
    rw [denC]
    split at h
    · simp only [Bool.and_eq_true, decide_eq_true_eq] at h
      obtain ⟨rfl, h1, h2⟩ := h
      exact (pw_or (ckC_ok a sx X _ ok h1) (pw_or1 (ckC_ok b sx X _ ok h2))).pt
    · simp only [Bool.and_eq_true, decide_eq_true_eq] at h
      obtain ⟨rfl, h1, h2⟩ := h
      exact (pw_or (ckC_ok a sx X _ ok h1) (pt_pw (ckC_ok b sx X _ ok h2))).pt
    · cases h
  | .not a, sx, X, e, ok, h => by
    rw [ckC] at h
    unfold mtNot at h
    rw [denC]
    split at h
    · simp only [Bool.and_eq_true, decide_eq_true_eq] at h
      obtain ⟨rfl, h1⟩ := h
      exact pt_not (ckC_ok a sx X _ ok h1)
    · cases h
theorem ckQ_ok : ∀ (t : Tm) (sx : Sx) (X : Cx) (e : Expr), XOk tb dn k sx X → ckQ tb t sx e = true → PT X e (tTest (denE dn t))
  | .cmp o a b, sx, X, e, ok, h => by
    rw [ckQ] at h
    unfold mCmp at h
    rw [denE]
    split at h
    · simp only [Bool.and_eq_true, decide_eq_true_eq] at h
      obtain ⟨⟨rfl, hp⟩, h1, h2⟩ := h
      rw [ok.K]
      have hu := units ok
      exact pt_cmpR (op_cmp (by omega) o) (ckE_ok a sx X _ ok h1) (ckE_ok b sx X _ ok h2) (plE_mark hp _)
    · cases h
  | .isN a, sx, X, e, ok, h => by
    rw [ckQ] at h
    unfold mIsn at h
    rw [denE]
    split at h
    · simp only [Bool.and_eq_true, decide_eq_true_eq] at h
      obtain ⟨rfl, h1⟩ := h
      exact pt_cmp (pc_isN (ckE_ok a sx X _ ok h1))
    · cases h
  | .isNN a, sx, X, e, ok, h => by
    rw [ckQ] at h
    unfold mIsnn at h
    rw [denE]
    split at h
    · simp only [Bool.and_eq_true, decide_eq_true_eq] at h
      obtain ⟨rfl, h1⟩ := h
      exact pt_cmp (pc_notN (ckE_ok a sx X _ ok h1))
    · cases h
  | .chain o p a b c, sx, X, e, ok, h => by
    rw [ckQ] at h
    unfold mChain at h
    rw [denE]
    split at h
    · simp only [Bool.and_eq_true, decide_eq_true_eq] at h
      obtain ⟨⟨⟨rfl, rfl⟩, hp⟩, h1, h2, h3⟩ := h
      rw [ok.K]
      have hu := units ok
      exact pt_chain (op_cmp (by omega) o) (op_cmp (by omega) p) (ckE_ok a sx X _ ok h1) (ckE_ok b sx X _ ok h2) (ckE_ok c sx X _ ok h3) (plE_mark hp _)
    · cases h
  | .gin g a, sx, X, e, ok, h => by
    rw [ckQ] at h
    unfold mGin at h
    rw [denE]
    split at h
    · simp only [Bool.and_eq_true, decide_eq_true_eq] at h
      obtain ⟨⟨⟨rfl, hg⟩, hl⟩, h1⟩ := h
      obtain ⟨g1, g2⟩ := glB_ok ok hg
      obtain ⟨m1, ⟨es, n, D⟩, _⟩ := ok.tb.gd _ _ hl
      rw [ok.K]
      exact PT.imp (pt_cmpR (op_in_kd D) (ckE_ok a sx X _ ok h1) (pe_glob (v := .ref (dn.gda g)) g1 m1 rfl g2) rfl) fun σ H Q q => q
    · cases h
  | .var _, sx, X, e, ok, h => nomatch (show false = true from h)
  | .cst _, sx, X, e, ok, h => nomatch (show false = true from h)
  | .gl _, sx, X, e, ok, h => nomatch (show false = true from h)
  | .fnv _, sx, X, e, ok, h => nomatch (show false = true from h)
  | .bin _ _ _, sx, X, e, ok, h => nomatch (show false = true from h)
  | .neg _, sx, X, e, ok, h => nomatch (show false = true from h)
  | .notv _, sx, X, e, ok, h => nomatch (show false = true from h)
  | .andv _ _, sx, X, e, ok, h => nomatch (show false = true from h)
  | .orv _ _, sx, X, e, ok, h => nomatch (show false = true from h)
  | .ife _ _ _, sx, X, e, ok, h => nomatch (show false = true from h)
  | .idx _ _, sx, X, e, ok, h => nomatch (show false = true from h)
  | .slc _ _ _, sx, X, e, ok, h => nomatch (show false = true from h)
  | .evn _ _, sx, X, e, ok, h => nomatch (show false = true from h)
  | .rev _, sx, X, e, ok, h => nomatch (show false = true from h)
  | .bi _ _, sx, X, e, ok, h => nomatch (show false = true from h)
  | .join _ _, sx, X, e, ok, h => nomatch (show false = true from h)
  | .dget _ _ _, sx, X, e, ok, h => nomatch (show false = true from h)
  | .zipl _ _, sx, X, e, ok, h => nomatch (show false = true from h)
  | .gidx _ _, sx, X, e, ok, h => nomatch (show false = true from h)
  | .gdict _, sx, X, e, ok, h => nomatch (show false = true from h)
  | .tupd _, sx, X, e, ok, h => nomatch (show false = true from h)
  | .lstd _, sx, X, e, ok, h => nomatch (show false = true from h)
  | .dctd _, sx, X, e, ok, h => nomatch (show false = true from h)
  | .call _ _, sx, X, e, ok, h => nomatch (show false = true from h)
  | .callv _ _, sx, X, e, ok, h => nomatch (show false = true from h)
  | .ncall _ _, sx, X, e, ok, h => nomatch (show false = true from h)
  | .comp _ _ _ _ _ _, sx, X, e, ok, h => nomatch (show false = true from h)
  | .look _ _ _ _ _ _, sx, X, e, ok, h => nomatch (show false = true from h)
  | .dcomp _ _ _ _ _ _, sx, X, e, ok, h => nomatch (show false = true from h)
  | .mu _ _ _, sx, X, e, ok, h => nomatch (show false = true from h)
  | .min2 _ _, sx, X, e, ok, h => nomatch (show false = true from h)
  | .dupd _ _, sx, X, e, ok, h => nomatch (show false = true from h)
  | .mkx _ _ _ _ _ _, sx, X, e, ok, h => nomatch (show false = true from h)
  | .fld _ _, sx, X, e, ok, h => nomatch (show false = true from h)
  | .isx _ _, sx, X, e, ok, h => nomatch (show false = true from h)
end
end
end Ev
/-! Tr6: statements. -/
namespace Ev
open PySem PySem.Spec PyProof.Rows L2 RZ StX
/-- what is wanted may be weakened -/
def mcA (t : TA) : TA := fun σ H Q' => ∃ Q : List V → Hp → Prop, t σ H Q ∧ ∀ vs H1, Q vs H1 → Q' vs H1
theorem PA.mc {X : Cx} {es : List Expr} {t : TA} (h : PA X es t) : PA X es (mcA t) := ⟨fun pos pins s σ H Q I ⟨Q0, q, m⟩ => thn (h.run pos pins s σ H Q0 I q) fun us s' ⟨vs, H1, I1, r, z⟩ => ⟨vs, H1, I1, r, m _ _ z⟩⟩
section
variable {tb : Tb} {dn : Dn} {k : Nat}
theorem asg_ok {i : Nat} {a : Tm} {sx : Sx} {X : Cx} {x : Str} {p pos : Pos} {e : Expr} (ok : XOk tb dn k sx X) (hl : locB sx i x = true) (h : ckE tb a sx e = true) (hs : nsE e = true) : PS X (.Assign [.Name x p] e pos) (tAsg (denE dn a) (gName i)) := by
  obtain ⟨l1, l2, l3⟩ := locB_ok ok hl
  have nd : X.N.Nodup := by rw [ok.N]; exact ok.nd
  have kf : X.env.scope.kind = .function := by rw [ok.sc]; exact ok.kind
  by_cases hn : nkE e = true
  · exact ps_set nd l1 l2 (ckE_ok a sx X e ok h) (nkE_sw hn _ _ _) l3
  · cases e <;> first | (exact absurd rfl hn) | (cases hs; done) | skip
    · rename_i elt gens scope cp
      cases hsw : swB X.env.scope x p scope cp with
      | false => exact ps_set nd l1 l2 (ckE_ok a sx X _ ok h) (by rw [sw_of kf (.inl ⟨_, _, rfl⟩), hsw]) l3
      | true =>
        cases a <;> first | (exact absurd (show false = true from h) (by decide)) | skip
        · rename_i y tg one it c own
          rw [ckE] at h
          unfold mComp at h
          rw [denE]
          split at h
          · rename_i heq
            cases heq
            simp only [Bool.and_eq_true, decide_eq_true_eq] at h
            obtain ⟨⟨⟨⟨⟨⟨rfl, hb⟩, hp⟩, hi⟩, ht⟩, hc⟩, hx⟩ := h
            have B : BlkOk X.N X.env.scope scope (ownP sx own) := by
              rw [ok.N, ok.sc]
              exact blkOk_by hb
            have z := ps_setLc (spos := pos) (pos := cp) (py := p) ok.calm nd l1 (swB_local hsw) (by rw [sw_of kf (.inl ⟨_, _, rfl⟩), hsw]) (ckI_ok it sx X _ _ ok hi) B (fun s H C cl fp => ckTg_ok (ok.blk B s H C cl fp) ht) (fun s H C cl fp => ckTc_ok c _ _ _ (ok.blk B s H C cl fp) hc) (fun s H C cl fp => ckE_ok y _ _ _ (ok.blk B s H C cl fp) hx) (plE_fold hp _)
            rw [ownP_snd] at z
            exact z
          · cases h
        · rename_i y tg one j c own
          rw [ckE] at h
          unfold mComp at h
          rw [denE]
          split at h
          · rename_i heq
            cases heq
            simp only [Bool.and_eq_true, decide_eq_true_eq] at h
            obtain ⟨⟨⟨⟨⟨⟨rfl, hb⟩, hp⟩, hi⟩, ht⟩, hc⟩, hx⟩ := h
            have B : BlkOk X.N X.env.scope scope (ownP sx own) := by
              rw [ok.N, ok.sc]
              exact blkOk_by hb
            rename_i t0 it0 ifs0
            have hI : PI X t0 it0 (iSeq dn.g.K (tVar j)) := by
              unfold miSeq mVar at hi
              rw [ok.K]
              split at hi
              · exact pi_seq (visB_ok ok hi)
              · cases hi
            have z := ps_setLc (spos := pos) (pos := cp) (py := p) ok.calm nd l1 (swB_local hsw) (by rw [sw_of kf (.inl ⟨_, _, rfl⟩), hsw]) hI B (fun s H C cl fp => ckTg_ok (ok.blk B s H C cl fp) ht) (fun s H C cl fp => ckTc_ok c _ _ _ (ok.blk B s H C cl fp) hc) (fun s H C cl fp => ckE_ok y _ _ _ (ok.blk B s H C cl fp) hx) (plE_fold hp _)
            rw [ownP_snd] at z
            exact z
          · cases h
    · rename_i kx vx gens scope cp
      cases hsw : swB X.env.scope x p scope cp with
      | false => exact ps_set nd l1 l2 (ckE_ok a sx X _ ok h) (by rw [sw_of kf (.inr ⟨_, _, _, rfl⟩), hsw]) l3
      | true =>
        cases a <;> first | (exact absurd (show false = true from h) (by decide)) | skip
        rename_i kk v tg one it own
        rw [ckE] at h
        unfold mDcomp at h
        rw [denE]
        split at h
        · rename_i heq
          cases heq
          simp only [Bool.and_eq_true, decide_eq_true_eq] at h
          obtain ⟨⟨⟨⟨⟨⟨rfl, hb⟩, hp⟩, hi⟩, ht⟩, hc⟩, hx⟩ := h
          have B : BlkOk X.N X.env.scope scope (ownP sx own) := by
            rw [ok.N, ok.sc]
            exact blkOk_by hb
          have z := ps_setDc (spos := pos) (pos := cp) (py := p) ok.calm nd l1 (swB_local hsw) (by rw [sw_of kf (.inr ⟨_, _, _, rfl⟩), hsw]) (ckI_ok it sx X _ _ ok hi) B (fun s H C cl fp => ckTg_ok (ok.blk B s H C cl fp) ht) (fun s H C cl fp => pts_nil) (fun s H C cl fp => ckE_ok kk _ _ _ (ok.blk B s H C cl fp) hc) (fun s H C cl fp => ckE_ok v _ _ _ (ok.blk B s H C cl fp) hx) (plE_fold hp _)
          rw [ownP_snd] at z
          exact z
        · cases h
theorem sub_sw {e o i : Expr} {p : Pos} {l : Nat} {env : Env} : swapsWith e (some (.Subscript o i p)) l env = pure false := by cases e <;> rfl
theorem sole_sw {t e : Expr} {l : Nat} {env : Env} (h : nkE e = true) : swapsWithSole [t] e l env = pure false := nkE_sw h (some t) l env
theorem notTup_sw {ts : List Expr} {kk : Nat} {p : Pos} {e : Expr} {env : Env} (h : isTup e = false) : swappedStores [.Tuple ts kk p] e env = pure none := by cases e <;> first | rfl | cases h
theorem ckNs_two {sx : Sx} {is : List Nat} {x y : Str} {px py : Pos} (h : ckNs sx is [.Name x px, .Name y py] = true) : ∃ i j, is = [i, j] ∧ locB sx i x = true ∧ locB sx j y = true := by
  match is, h with
  | [], h => exact absurd (show false = true from h) (by decide)
  | [i], h =>
    have h : (locB sx i x && false) = true := h
    rw [Bool.and_false] at h
    cases h
  | [i, j], h =>
    have h : (locB sx i x && (locB sx j y && true)) = true := h
    simp only [Bool.and_eq_true] at h
    exact ⟨i, j, rfl, h.1, h.2.1⟩
  | i :: j :: l :: r, h =>
    have h : (locB sx i x && (locB sx j y && false)) = true := h
    simp only [Bool.and_false] at h
    cases h
theorem ckNs_three {sx : Sx} {is : List Nat} {x y z : Str} {px py pz : Pos} (h : ckNs sx is [.Name x px, .Name y py, .Name z pz] = true) : ∃ i j l, is = [i, j, l] ∧ locB sx i x = true ∧ locB sx j y = true ∧ locB sx l z = true := by
  match is, h with
  | [], h => exact absurd (show false = true from h) (by decide)
  | i :: r, h =>
    have h : (locB sx i x && ckNs sx r [.Name y py, .Name z pz]) = true := h
    rw [Bool.and_eq_true] at h
    obtain ⟨j, l, rfl, h1, h2⟩ := ckNs_two h.2
    exact ⟨i, j, l, rfl, h.1, h1, h2⟩
theorem sw2_true {sc : Scope} {x y : Str} {px py : Pos} {a b : Expr} (h : sw2 sc x y px py a b = some true) : lcB sc x = true ∧ lcB sc y = true ∧ x ≠ y := by
  unfold sw2 at h
  split at h
  · rename_i h1
    split at h
    · rename_i h2
      simp only [Bool.and_eq_true, decide_eq_true_eq] at h1 h2
      exact ⟨h1.1, h1.2.1, h2.1.1.1⟩
    · cases h
  · cases h
theorem sw3_true {sc : Scope} {x y z : Str} {px py pz : Pos} {a b c : Expr} (h : sw3 sc x y z px py pz a b c = some true) : lcB sc x = true ∧ lcB sc y = true ∧ lcB sc z = true ∧ x ≠ y ∧ x ≠ z ∧ y ≠ z := by
  unfold sw3 at h
  split at h
  · rename_i h1
    split at h
    · rename_i h2
      simp only [Bool.and_eq_true, decide_eq_true_eq] at h1 h2
      exact ⟨h1.1.1, h1.1.2.1, h1.2.1, h2.1.1.1.1.1, h2.1.1.1.1.2, h2.1.1.1.2⟩
    · cases h
  · cases h
theorem idx_ne {N : List Str} {i j : Nat} {x y : Str} (h1 : N[i]? = some x) (h2 : N[j]? = some y) (h : x ≠ y) : i ≠ j := fun e => by
  subst e
  rw [h1] at h2
  cases h2
  exact h rfl
theorem par_asg {X : Cx} {is : List Nat} {ts es : List Expr} {ta : TA} {kt k2 : Nat} {pt p2 pos : Pos} (hc : X.calm = true) (ha : PA X es ta) (hg : PGs X ts (gNames is)) (hn : (assignEach ts X.env).length = is.length) (hst : (assignEach ts X.env).findIdx? (·.1) = none)
    (hw : swappedStores [.Tuple ts kt pt] (.Tuple es k2 p2) X.env = pure none) : PS X (.Assign [.Tuple ts kt pt] (.Tuple es k2 p2) pos) (tPars is ta) := by
  refine PS.imp (ps_asg (pe_tup (PA.mc ha)) (pg_tup hc hg hn hst) rfl hw rfl) fun D σ H h => ?_
  refine ⟨_, h, fun vs H1 ⟨q1, q2, q3, q4⟩ => ⟨q2, fun p hp => ⟨p, vs, rfl, SqT.of upd_same, q1, q4 p hp⟩⟩⟩
theorem par_ok {is : List Nat} {es : Tms} {sx : Sx} {X : Cx} {s : Stmt} (ok : XOk tb dn k sx X) (h : msPar is (ckA tb es) sx s = true) : PS X s (tPars is (denA dn es)) := by
  have nd : X.N.Nodup := by rw [ok.N]; exact ok.nd
  have kf : X.env.scope.kind = .function := by rw [ok.sc]; exact ok.kind
  unfold msPar at h
  split at h
  · rename_i x px y py kt pt a b k2 p2 pos
    simp only [Bool.and_eq_true] at h
    obtain ⟨⟨h1, h2⟩, h3⟩ := h
    have ha := ckA_ok es sx X _ ok h3
    obtain ⟨r, hr⟩ := Option.isSome_iff_exists.mp h2
    have hw := sw2_ok (X := X) (pt := pt) (pt2 := p2) (kt := kt) (k2 := k2) kf (by rw [ok.sc]; exact hr)
    cases r with
    | false =>
      obtain ⟨q1, q2, q3⟩ := pgs_names ok h1
      exact par_asg ok.calm ha q1 q2 q3 hw
    | true =>
      obtain ⟨i, j, rfl, g1, g2⟩ := ckNs_two h1
      obtain ⟨c1, c2, c3⟩ := sw2_true hr
      obtain ⟨n1, _, _⟩ := locB_ok ok g1
      obtain ⟨n2, _, _⟩ := locB_ok ok g2
      have lx := lcB_ok c1
      have ly := lcB_ok c2
      rw [← ok.sc] at lx ly
      refine PS.imp (ps_par ok.calm nd n1 n2 (idx_ne n1 n2 c3) lx ly (PA.mc ha) hw rfl) fun D σ H h => ?_
      refine ⟨_, h, fun vs H1 ⟨q1, q2, ⟨v, r, e1, w, r2, e2, e3, q3⟩, q4⟩ => ?_⟩
      subst e1 e2 e3
      exact ⟨v, w, rfl, q3⟩
  · rename_i x px y py z pz kt pt a b c k2 p2 pos
    simp only [Bool.and_eq_true] at h
    obtain ⟨⟨h1, h2⟩, h3⟩ := h
    have ha := ckA_ok es sx X _ ok h3
    obtain ⟨r, hr⟩ := Option.isSome_iff_exists.mp h2
    have hw := sw3_ok (X := X) (pt := pt) (pt2 := p2) (kt := kt) (k2 := k2) kf (by rw [ok.sc]; exact hr)
    cases r with
    | false =>
      obtain ⟨q1, q2, q3⟩ := pgs_names ok h1
      exact par_asg ok.calm ha q1 q2 q3 hw
    | true =>
      obtain ⟨i, j, l, rfl, g1, g2, g3⟩ := ckNs_three h1
      obtain ⟨c1, c2, c3, c4, c5, c6⟩ := sw3_true hr
      obtain ⟨n1, _, _⟩ := locB_ok ok g1
      obtain ⟨n2, _, _⟩ := locB_ok ok g2
      obtain ⟨n3, _, _⟩ := locB_ok ok g3
      have lx := lcB_ok c1
      have ly := lcB_ok c2
      have lz := lcB_ok c3
      rw [← ok.sc] at lx ly lz
      refine PS.imp (ps_par3 ok.calm nd n1 n2 n3 (idx_ne n1 n2 c4) (idx_ne n1 n3 c5) (idx_ne n2 n3 c6) lx ly lz (PA.mc ha) hw rfl) fun D σ H h => ?_
      refine ⟨_, h, fun vs H1 ⟨q1, q2, ⟨v, r, e1, w, r2, e2, u, r3, e3, e4, q3⟩, q4⟩ => ?_⟩
      subst e1 e2 e3 e4
      exact ⟨v, w, u, rfl, q3⟩
  · cases h
mutual
theorem ckS_ok : ∀ (t : Sm) (sx : Sx) (X : Cx) (s : Stmt), XOk tb dn k sx X → ckS tb t sx s = true → PS X s (denS dn t)
  | .asg i a, sx, X, s, ok, h => by
    rw [ckS] at h
    unfold msAsg at h
    rw [denS]
    split at h
    · rw [Bool.and_eq_true, Bool.and_eq_true] at h
      exact asg_ok ok h.1.1 h.1.2 h.2
    · cases h
  | .unp is a, sx, X, s, ok, h => by
    rw [ckS] at h
    unfold msUnp at h
    rw [denS]
    split at h
    · simp only [Bool.and_eq_true, Bool.not_eq_true'] at h
      obtain ⟨⟨⟨h1, h2⟩, h3⟩, h4⟩ := h
      obtain ⟨q1, q2, q3⟩ := pgs_names ok h1
      rw [ok.K]
      exact ps_asg (ckE_ok a sx X _ ok h4) (pg_tup ok.calm q1 q2 q3) (sole_sw h2) (notTup_sw h3) rfl
    · cases h
  | .par is es, sx, X, s, ok, h => by
    rw [ckS] at h
    rw [denS]
    exact par_ok ok h
  | .setk i a v, sx, X, s, ok, h => by
    rw [ckS] at h
    unfold msSetk at h
    rw [denS]
    split at h
    · simp only [Bool.and_eq_true] at h
      obtain ⟨⟨h1, h3⟩, h4⟩ := h
      have hu := units ok
      exact ps_dput (by omega) (visB_ok ok h1) (ckE_ok a sx X _ ok h3) (ckE_ok v sx X _ ok h4) sub_sw
    · cases h
  | .aug i a, sx, X, s, ok, h => by
    rw [ckS] at h
    unfold msAug at h
    rw [denS]
    split at h
    · simp only [Bool.and_eq_true, decide_eq_true_eq] at h
      obtain ⟨⟨h1, rfl⟩, h2⟩ := h
      obtain ⟨l1, l2, l3⟩ := locB_ok ok h1
      exact ps_aug (by rw [ok.N]; exact ok.nd) l1 l2 (ckE_ok a sx X _ ok h2) ip_add l3
    · cases h
  | .ifs c a b, sx, X, s, ok, h => by
    rw [ckS] at h
    unfold msIfs at h
    rw [denS]
    split at h
    · simp only [Bool.and_eq_true] at h
      obtain ⟨⟨h1, h2⟩, h3⟩ := h
      exact ps_if (ckC_ok c sx X _ ok h1) (ckSs_ok a sx X _ ok h2) (ckSs_ok b sx X _ ok h3)
    · cases h
  | .fors tg one it b, sx, X, s, ok, h => by
    rw [ckS] at h
    unfold msFors at h
    rw [denS]
    split at h
    · simp only [Bool.and_eq_true] at h
      obtain ⟨⟨⟨h1, h2⟩, h3⟩, h4⟩ := h
      exact ps_for (by rw [ok.xe]; exact PassesOwn.never) ok.calm (ckI_ok it sx X _ _ ok h2) (ckTg_ok ok h3) (ckSs_ok b sx X _ ok h4) (plE_fold h1 _)
    · cases h
  | .whiles c b, sx, X, s, ok, h => by
    rw [ckS] at h
    unfold msWhiles at h
    rw [denS]
    split at h
    · simp only [Bool.and_eq_true] at h
      obtain ⟨h1, h2⟩ := h
      exact ps_while (by rw [ok.xe]; exact PassesOwn.never) (ckC_ok c sx X _ ok h1) (ckSs_ok b sx X _ ok h2)
    · cases h
  | .ret a, sx, X, s, ok, h => by
    rw [ckS] at h
    unfold msRet at h
    rw [denS]
    split at h
    · exact ps_ret (ckE_ok a sx X _ ok h)
    · cases h
  | .retn, sx, X, s, ok, h => by
    rw [ckS] at h
    unfold msRetn at h
    rw [denS]
    split at h
    · exact ps_retN
    · cases h
  | .expr a, sx, X, s, ok, h => by
    rw [ckS] at h
    unfold msExpr at h
    rw [denS]
    split at h
    · simp only [Bool.and_eq_true] at h
      exact ps_expr (ckE_ok a sx X _ ok h.2) (nkE_sw h.1 _ _ _)
    · cases h
  | .pass, sx, X, s, ok, h => by
    rw [ckS] at h
    unfold msPass at h
    rw [denS]
    split at h
    · exact ps_pass
    · exact ps_doc
    · cases h
  | .brk, sx, X, s, ok, h => by
    rw [ckS] at h
    unfold msBrk at h
    rw [denS]
    split at h
    · exact ps_break
    · cases h
  | .cont, sx, X, s, ok, h => by
    rw [ckS] at h
    unfold msCont at h
    rw [denS]
    split at h
    · exact ps_continue
    · cases h
  | .rais _ _, sx, X, s, ok, h => by
    rw [denS]
    exact ps_never
theorem ckSs_ok : ∀ (t : Sms) (sx : Sx) (X : Cx) (s : List Stmt), XOk tb dn k sx X → ckSs tb t sx s = true → PSs X s (denSs dn t)
  | .nil, sx, X, s, ok, h => by
    rw [ckSs] at h
    unfold mlNil at h
    rw [denSs]
    split at h
    · exact pss_nil
    · cases h
  | .cons a r, sx, X, s, ok, h => by
    rw [ckSs] at h
    unfold mlCons at h
    rw [denSs]
    split at h
    · simp only [Bool.and_eq_true] at h
      exact pss_cons (ckS_ok a sx X _ ok h.1) (ckSs_ok r sx X _ ok h.2)
    · cases h
end
end
end Ev
/-! Tr7: a def keeps what the evaluator says, at every level. -/
namespace Ev
open PySem PySem.Spec PyProof.Rows L2 RZ StX
structure Df where
  d : Fd
  N : List Str
  ps : List Str
  nm : Str
  params : Arguments
  body : List Stmt
  scope : Scope
/-- how a def's arguments are bound: all are given; or those behind the last but one in a tuple -/
def Df.Binds (x : Df) : Prop := ∀ (kV doc pm : Value) (an : Option Addr) (cdv ct : Value), match x.d.star with
  | false => ∀ us : List Value, us.length = x.ps.length → bindArgs (PySem.W.fnOf x.nm x.nm x.params x.body x.scope .none kV doc pm an cdv ct) ⟨us, []⟩ = pure (x.ps.zip us)
  | true => ∃ (qs : List Str) (pv : Str), x.ps = qs ++ [pv] ∧ ∀ us rest : List Value, us.length = qs.length → bindArgs (PySem.W.fnOf x.nm x.nm x.params x.body x.scope .none kV doc pm an cdv ct) ⟨us ++ rest, []⟩ = (newTuple rest >>= fun t => pure (qs.zip us ++ [(pv, t)]))
structure DfOk (tb : Tb) (x : Df) : Prop where
  sc : FnScope x.N x.ps x.scope
  ln : x.N.length = x.d.nn
  lp : x.ps.length = x.d.np
  kp : x.d.keep ≤ x.d.np
  ck : ckSs tb x.d.body ⟨x.N, x.scope, x.scope⟩ x.body = true
  bd : x.Binds
section
variable {tb : Tb} {dn : Dn} {pg : Pg} {cf : Nat → List Rv → COut} {wf k : Nat} {P : Program} {w : World} {K : PySem.W.Frag} {mg : Str → Option Value} {base : Heap}
theorem cx_ok {x : Df} (D : DfOk tb x) (T : TbOk tb dn P w K mg base k) (hK : dn.g.K = K) (hw : dn.w = w) (h2 : 2 ≤ k) {A : Around} {outer : List Env} {s : Shared} {H : Hp} {f : Addr} {cd : Value} (hg : A.guards = some []) (hr : Room k (A.deeper (envOfC x.nm x.scope s.heap.objs.size f cd))) :
    XOk tb dn k ⟨x.N, x.scope, x.scope⟩ ((cxOf CX0 P w K mg base x.N x.nm x.scope f cd A outer s H E0).nox) :=
  ⟨T, hK, hw, rfl, D.sc.nd, rfl, D.sc.kind, rfl, hr, hr.mono h2, hg, rfl, fun _ _ => rfl⟩
theorem np_le {x : Df} (D : DfOk tb x) : x.d.np ≤ x.d.nn := by
  have h := congrArg List.length D.sc.pre
  rw [List.length_take, D.lp, D.ln] at h
  omega
theorem def_ok (gok : Gok pg dn) (hsp : ∀ f, dn.sp f = spOf dn.g cf pg.keeps f) {x : Df} (D : DfOk tb x) (T : TbOk tb dn P w K mg base k) (h2 : 2 ≤ k) (hK : dn.g.K = K) (hw : dn.w = w) (hok : okSs dn.g.fa x.d.body) {f : Addr} {fd : FuncData} (F : FunD K x.nm x.nm x.params x.body x.scope [] [] f fd) {i : Nat} (hkp : pg.keeps i = x.d.keep)
    {cf' : Nat → List Rv → COut} (hcf : ∀ rs r outs, cf' i rs = .ok r outs → (packR x.d.star x.d.np rs).length = x.d.np ∧ rs.length ≤ sizeLine ∧ starOk x.d rs = true ∧ ∃ fl e, exSs pg cf x.d.keep wf x.d.body ((packR x.d.star x.d.np rs).map some ++ List.replicate (x.d.nn - x.d.np) none) = .ok fl e ∧ (fl = .ret r ∨ (fl = .nx ∧ r = fz .non)) ∧ outs = e.take x.d.np) :
    FnG P w K mg base (k + 1) f (spOf dn.g cf' pg.keeps i) := by
  intro A outer s H us vs Q hg hr e0 rv h
  obtain ⟨Fz, rs, r, outs, AO, hc, back⟩ := h
  obtain ⟨hl, hz, hso, fl, e, hx, hfl, rfl⟩ := hcf rs r outs hc
  obtain ⟨oc, od, dV, kV, doc, pm, an, cdv, ct, osl, rfl, lk, hcd, hD, hKw⟩ := F.ex
  have eD : dV = .none := by
    rcases hD with ⟨_, e⟩ | ⟨z, _⟩
    · exact e
    · exact absurd rfl z
  subst eD
  rw [hkp] at back
  have bd := D.bd kV doc pm an cdv ct
  -- the body, from its bound arguments
  have body : ∀ (s2 : Shared) (H2 : Hp) (ws : List V) (ps : List Rv) (Fz2 : Addr → Prop), ArgsOk dn.g Fz2 H2 ps ws → ps.length = x.d.np → exSs pg cf x.d.keep wf x.d.body (ps.map some ++ List.replicate (x.d.nn - x.d.np) none) = .ok fl e → Back dn.g x.d.keep Fz2 H2 ps ws r (e.take x.d.np) Q → Room k (A.deeper (envOfC x.nm x.scope s2.heap.objs.size f cdv)) →
      ∃ t, PSs (cxOf CX0 P w K mg base x.N x.nm x.scope f cdv A outer s2 H2 E0) x.body t ∧ t { nx := fun _ H' => Q .non H', rt := Q } (L2.start x.N ws) H2 := by
    intro s2 H2 ws ps Fz2 AO2 hl2 hx2 bk hr2
    refine ⟨denSs dn x.d.body, PSs.nox (ckSs_ok x.d.body _ _ _ (cx_ok D T hK hw h2 hg hr2) D.ck), ?_⟩
    exact body_ok gok hsp D.ln (np_le D) D.kp hok AO2 hl2 hx2 hfl bk
  cases hs : x.d.star with
  | false =>
    rw [hs] at bd hl hx
    have hp : packR false x.d.np rs = rs := rfl
    rw [hp] at hl hx
    have hvl : vs.length = x.ps.length := by rw [← AO.len, hl, D.lp]
    refine run_bnd (G := fun ws H2 => ws = vs ∧ H2 = H) lk hcd D.sc hr e0 (fun A' Ex Q' hq => ?_) fun s2 H2 ws ⟨e1, e2⟩ hr2 => ?_
    · refine wpAny_of_eq (bd us (by rw [← rv.length]; exact hvl)) ?_
      exact hq s H vs us e0 Un.refl rfl (fun _ _ z => z) rv hvl ⟨rfl, rfl⟩
    · subst e1 e2
      exact body s2 H2 ws rs Fz AO hl hx back hr2
  | true =>
    rw [hs] at bd hl hx
    obtain ⟨qs, pv, eps, hb⟩ := bd
    unfold starOk at hso
    rw [hs] at hso
    simp only [Bool.not_true, Bool.false_or, Bool.and_eq_true, decide_eq_true_eq] at hso
    obtain ⟨hfr, hkn⟩ := hso
    have hlp := D.lp
    rw [eps, List.length_append, List.length_singleton] at hlp
    have hql : qs.length = x.d.np - 1 := by omega
    have hp : packR true x.d.np rs = rs.take (x.d.np - 1) ++ [fz (.tup ((rs.drop (x.d.np - 1)).map (·.2)))] := rfl
    have hrl : x.d.np - 1 ≤ rs.length := by
      rw [hp, List.length_append, List.length_take, List.length_singleton] at hl
      omega
    have hvl := AO.len
    have hS := D.sc
    rw [eps] at hS
    have ev : vs = vs.take (x.d.np - 1) ++ vs.drop (x.d.np - 1) := (List.take_append_drop _ _).symm
    rw [ev] at rv
    obtain ⟨u1, u2, eu, r1, r2⟩ := vals_split rv
    subst eu
    have l1 := r1.length
    have l2 := r2.length
    rw [List.length_take] at l1
    rw [List.length_drop] at l2
    have hn : H s.heap.objs.size = Option.none := e0.hok.fresh (Nat.le_refl _)
    have hrz : (vs.drop (x.d.np - 1)).length ≤ sizeLine := by rw [List.length_drop]; omega
    refine run_bnd (ps := qs ++ [pv]) (G := fun ws H2 => ∃ p, H p = Option.none ∧ ws = vs.take (x.d.np - 1) ++ [V.ref p] ∧ H2 = upd H p (.tup (vs.drop (x.d.np - 1)))) lk hcd hS hr e0 (fun A' Ex Q' hq => ?_) fun s2 H2 ws ⟨p, hpn, e1, e2⟩ hr2 => ?_
    · rw [hb u1 u2 (by omega)]
      refine wpAny_bind (wpAny_newTuple (wpAny_pure ?_) (by omega))
      have new : ObjOk P w (upd H s.heap.objs.size (.tup (vs.drop (x.d.np - 1)))) (s.heap.push ({ cls := .type "tuple", data := .seq u2.toArray } : Obj)) s.heap.objs.size (.tup (vs.drop (x.d.np - 1))) := ⟨hrz, u2, r2, ⟨_, Heap.get?_push_size _ rfl, rfl, _, rfl⟩⟩
      have un := un_laid (fs := frs outer) (s := s) (o := ({ cls := .type "tuple", data := .seq u2.toArray } : Obj)) (u := .tup (vs.drop (x.d.np - 1))) hn
      have z := hq _ _ (vs.take (x.d.np - 1) ++ [V.ref s.heap.objs.size]) (u1 ++ [Value.ref s.heap.objs.size]) (env0_laid e0 new) un rfl (fun e s' z => z.elim) (r1.append (.cons rfl .nil)) (by rw [List.length_append, List.length_append, List.length_take, hql]; simp; omega) ⟨_, hn, rfl, rfl⟩
      rw [List.zip_append (by omega)] at z
      exact z
    · subst e1 e2
      have nw : New H (upd H p (.tup (vs.drop (x.d.np - 1)))) := New.upd hpn
      -- the items beside their values
      have pre : ∀ (i : Nat) (rr : Rv) (v : V), i < x.d.np - 1 → (packR true x.d.np rs)[i]? = some rr → (vs.take (x.d.np - 1) ++ [V.ref p])[i]? = some v → rs[i]? = some rr ∧ vs[i]? = some v := by
        intro i rr v hi h1 h2
        rw [hp, List.getElem?_append_left (by rw [List.length_take]; omega), List.getElem?_take_of_lt hi] at h1
        rw [List.getElem?_append_left (by rw [List.length_take]; omega), List.getElem?_take_of_lt hi] at h2
        exact ⟨h1, h2⟩
      have lst : ∀ (i : Nat) (rr : Rv), ¬ i < x.d.np - 1 → (packR true x.d.np rs)[i]? = some rr → i = x.d.np - 1 ∧ rr = fz (.tup ((rs.drop (x.d.np - 1)).map (·.2))) := by
        intro i rr hi h1
        rw [hp, List.getElem?_append_right (by rw [List.length_take]; omega), List.length_take] at h1
        have hm : min (x.d.np - 1) rs.length = x.d.np - 1 := by omega
        rw [hm] at h1
        cases hj : i - (x.d.np - 1) with
        | zero =>
          rw [hj] at h1
          cases h1
          exact ⟨by omega, rfl⟩
        | succ j =>
          rw [hj] at h1
          simp at h1
      have tl : ∀ (rt : List Rv) (vt : List V), rt.length = vt.length → (∀ (i : Nat) rr v, rt[i]? = some rr → vt[i]? = some v → Sl dn.g Fz H rr v) → rt.all (fun r => !r.1) = true → FrL dn.g Fz H (rt.map (·.2)) vt := by
        intro rt
        induction rt with
        | nil =>
          intro vt h1 _ _
          cases vt with
          | nil => exact FrL.nil
          | cons _ _ => simp at h1
        | cons rr rt ih =>
          intro vt h1 h2 h3
          cases vt with
          | nil => simp at h1
          | cons v vt =>
            rw [List.all_cons, Bool.and_eq_true] at h3
            obtain ⟨o, dd⟩ := rr
            have ho : o = false := by simpa using h3.1
            subst ho
            exact FrL.cons (sl_fz.mp (h2 0 _ _ rfl rfl)) (ih vt (by simpa using h1) (fun i r' v' e1 e2 => h2 (i + 1) r' v' (by simpa using e1) (by simpa using e2)) h3.2)
      have ft := tl (rs.drop (x.d.np - 1)) (vs.drop (x.d.np - 1)) (by rw [List.length_drop, List.length_drop, hvl]) (fun i rr v h1 h2 => AO.item _ rr v (by rw [List.getElem?_drop] at h1; exact h1) (by rw [List.getElem?_drop] at h2; exact h2)) hfr
      have own : ∀ a, OwnArg (packR true x.d.np rs) (vs.take (x.d.np - 1) ++ [V.ref p]) a → OwnArg rs vs a := by
        rintro a ⟨i, dd, h1, h2⟩
        by_cases hi : i < x.d.np - 1
        · obtain ⟨q1, q2⟩ := pre i _ _ hi h1 h2
          exact ⟨i, dd, q1, q2⟩
        · obtain ⟨_, q⟩ := lst i _ hi h1
          cases q
      have slN : ∀ {rr : Rv} {v : V}, Sl dn.g Fz H rr v → Sl dn.g Fz (upd H p (.tup (vs.drop (x.d.np - 1)))) rr v := by
        intro rr v h
        obtain ⟨o, dd⟩ := rr
        cases o with
        | false => exact sl_fz.mpr ((sl_fz.mp h).new nw)
        | true =>
          have o1 := sl_ow.mp h
          obtain ⟨a, ea, nf, _⟩ := o1.at
          subst ea
          exact sl_ow.mpr (o1.ext (W := fun _ => False) nw.ext (fun _ z => z.elim) (fun z => z) nf)
      have AO2 : ArgsOk dn.g Fz (upd H p (.tup (vs.drop (x.d.np - 1)))) (packR true x.d.np rs) (vs.take (x.d.np - 1) ++ [V.ref p]) := by
        refine ⟨by rw [hp, List.length_append, List.length_append, List.length_take, List.length_take, hvl]; rfl, fun i rr v h1 h2 => ?_, fun i j dd dd' a h1 h2 h3 h4 => ?_, fun a fa z => AO.trk a fa (nw.none z)⟩
        · by_cases hi : i < x.d.np - 1
          · obtain ⟨q1, q2⟩ := pre i _ _ hi h1 h2
            exact slN (AO.item i _ _ q1 q2)
          · obtain ⟨ei, q⟩ := lst i _ hi h1
            subst q
            have hm : min (x.d.np - 1) vs.length = x.d.np - 1 := by omega
            rw [ei, List.getElem?_append_right (by rw [List.length_take]; omega), List.length_take, hm, Nat.sub_self] at h2
            cases h2
            exact sl_fz.mpr (fr_tup upd_same (ft.new nw))
        · have gi : i < x.d.np - 1 := by
            by_cases hi : i < x.d.np - 1
            · exact hi
            · obtain ⟨_, q⟩ := lst i _ hi h1
              cases q
          have gj : j < x.d.np - 1 := by
            by_cases hj : j < x.d.np - 1
            · exact hj
            · obtain ⟨_, q⟩ := lst j _ hj h2
              cases q
          obtain ⟨q1, q3⟩ := pre i _ _ gi h1 h3
          obtain ⟨q2, q4⟩ := pre j _ _ gj h2 h4
          exact AO.inj i j dd dd' a q1 q2 q3 q4
      refine body s2 _ _ (packR true x.d.np rs) Fz AO2 hl hx (fun F' H' v ext tk sl fr ou => ?_) hr2
      refine back F' H' v (nw.ext.trans ext fun a h => .inl (own a h)) tk sl (fun z => ?_) fun j dd a hj h1 h2 => ?_
      · obtain ⟨a, ea, h⟩ := fr z
        refine ⟨a, ea, ?_⟩
        rcases h with h | ⟨j, dd, h1, h2, h3⟩
        · exact .inl (nw.none h)
        · by_cases hj : j < x.d.np - 1
          · obtain ⟨q1, q2⟩ := pre j _ _ hj h2 h3
            exact .inr ⟨j, dd, h1, q1, q2⟩
          · obtain ⟨_, q⟩ := lst j _ hj h2
            cases q
      · have hj2 : j < x.d.np - 1 := by omega
        refine ou j dd a hj ?_ ?_
        · rw [hp, List.getElem?_append_left (by rw [List.length_take]; omega), List.getElem?_take_of_lt hj2]
          exact h1
        · rw [List.getElem?_append_left (by rw [List.length_take]; omega), List.getElem?_take_of_lt hj2]
          exact h2
end
end Ev
/-! Tr8: all levels; the law's own call. -/
namespace Ev
open PySem PySem.Spec PyProof.Rows L2 RZ StX
theorem callF_ok {pg : Pg} {ft : Nat → Option Fd} {wf k f : Nat} {rs : List Rv} {r : Rv} {outs : List Slot} {d : Fd} (hd : ft f = some d) (h : callF pg ft wf (k + 1) f rs = .ok r outs) :
    (packR d.star d.np rs).length = d.np ∧ rs.length ≤ sizeLine ∧ starOk d rs = true ∧ ∃ fl e, exSs pg (callF pg ft wf k) d.keep wf d.body ((packR d.star d.np rs).map some ++ List.replicate (d.nn - d.np) none) = .ok fl e ∧ (fl = .ret r ∨ (fl = .nx ∧ r = fz .non)) ∧ outs = e.take d.np := by
  rw [callF, hd] at h
  simp only at h
  split at h
  · rename_i c
    refine ⟨c.1, c.2.1, c.2.2, ?_⟩
    split at h
    · rename_i r' e hx
      cases h
      exact ⟨_, _, hx, .inl rfl, rfl⟩
    · rename_i e hx
      cases h
      exact ⟨_, _, hx, .inr ⟨rfl, rfl⟩, rfl⟩
    · cases h
    · cases h
    · cases h
  · cases h
/-- what is known of the module behind its top -/
structure Su (tb : Tb) (pg : Pg) (dfs : Nat → Option Df) (dn : Dn) (P : Program) (w : World) (K : PySem.W.Frag) (mg : Str → Option Value) : Prop where
  hK : dn.g.K = K
  hw : dn.w = w
  gok : Gok pg dn
  fa : ∀ i a, dn.g.fa i = some a → PySem.W.keepIn K (.ref a) = true ∧ ∀ x, dfs i = some x → ∃ fd, FunD K x.nm x.nm x.params x.body x.scope [] [] a fd
  df : ∀ i x, dfs i = some x → DfOk tb x ∧ okSs dn.g.fa x.d.body ∧ pg.keeps i = x.d.keep
  fn : ∀ x i, tb.fns.lookup x = some i → ∃ a, mg x = some (.ref a) ∧ dn.g.fa i = some a
  gc : ∀ x i, tb.gcs.lookup x = some i → ∃ u, mg x = some u ∧ RelV (dn.gcv i) u
  gd : ∀ x i, tb.gds.lookup x = some i → mg x = some (.ref (dn.gda i)) ∧ (∃ es n, KDict K w (dn.gda i) es n) ∧ (dn.gdw i).length ≤ sizeLine ∧ ∃ vs, KV (dn.gdw i) vs ∧ ∀ h : Heap, K.In h → h.DictOf (mixKind P w) (dn.gda i) vs
  cl : ∀ c f i, tb.cls.lookup (c, f) = some i → ∃ a mc u, mg c = some (.ref a) ∧ ClX.CRead K a mc ∧ ClX.CVal K a mc f (dn.gcv i) u
  free : ∀ x, x ∈ tb.free → mg x = none
  er : ∀ x c, tb.ers.lookup x = some c → ∃ C, dn.g.ca c = some C ∧ mg x = some (.ref C) ∧ ∃ Bn B newId iN initId bmN Bs fI fd nm qual params body sc, Xc.Ei K mg C (dn.ef c) Bn B newId iN initId bmN Bs fI fd nm qual params body sc ∧ ∀ n ks pm, (c, n, ks, pm) ∈ tb.kws → Xc.KwB (dn.ef c) nm qual params body sc n ks pm
  is : ∀ x c, tb.ises.lookup x = some c → ∃ u, RelV (dn.ct c) u ∧ (mg x = some u ∨ (mg x = none ∧ bootBuiltins x = some u ∧ x ≠ "__name__"))
section
variable {tb : Tb} {pg : Pg} {dfs : Nat → Option Df} {dn : Dn} {P : Program} {w : World} {K : PySem.W.Frag} {mg : Str → Option Value}
def ftOf (dfs : Nat → Option Df) : Nat → Option Fd := fun i => (dfs i).map (·.d)
theorem levels (S : Su tb pg dfs dn P w K mg) (wf : Nat) (base : Heap) : ∀ (k i : Nat) (a : Addr), dn.g.fa i = some a → FnG P w K mg base (k + 2) a (spOf dn.g (callF pg (ftOf dfs) wf k) pg.keeps i)
  | 0, i, a, h => by
    intro A outer s H us vs Q _ _ _ _ hs
    obtain ⟨F, rs, r, outs, _, hc, _⟩ := hs
    rw [callF] at hc
    cases hc
  | k + 1, i, a, h => by
    cases hx : dfs i with
    | none =>
      intro A outer s H us vs Q _ _ _ _ hs
      obtain ⟨F, rs, r, outs, _, hc, _⟩ := hs
      rw [callF] at hc
      unfold ftOf at hc
      rw [hx] at hc
      cases hc
    | some x =>
    obtain ⟨fd, F⟩ := (S.fa i a h).2 x hx
    obtain ⟨D, hok, hkp⟩ := S.df i x hx
    have T : TbOk tb { dn with sp := fun j => spOf dn.g (callF pg (ftOf dfs) wf k) pg.keeps j } P w K mg base (k + 2) := ⟨S.fn, fun j b hb => ⟨levels S wf base k j b hb, (S.fa j b hb).1⟩, S.gc, S.gd, S.cl, S.free, S.er, S.is⟩
    have gok : Gok pg { dn with sp := fun j => spOf dn.g (callF pg (ftOf dfs) wf k) pg.keeps j } := ⟨S.gok.gc, S.gok.gin, S.gok.gix, S.gok.gcp, S.gok.ec, S.gok.er, S.gok.isa⟩
    exact def_ok (dn := { dn with sp := fun j => spOf dn.g (callF pg (ftOf dfs) wf k) pg.keeps j }) gok (fun _ => rfl) D T (Nat.le_add_left 2 k) S.hK S.hw hok F hkp fun rs r outs h => callF_ok (by unfold ftOf; rw [hx]; rfl) h
/-- the law's call, from the evaluator's word -/
theorem law_sp (S : Su tb pg dfs dn P w K mg) {wf k i : Nat} {ns : List Int} {o : Bool} {outs : List Slot} (hc : callF pg (ftOf dfs) wf k i [fz (.scr ns)] = .ok (o, .bl true) outs) {H : Hp} {a : Addr} (hO : Only H) (hs : SqL K H a (ns.map V.int)) :
    spOf dn.g (callF pg (ftOf dfs) wf k) pg.keeps i [.ref a] H (fun v _ => v = .bl true) E0 := by
  refine ⟨fun _ => False, _, _, _, ⟨rfl, fun j r v h1 h2 => ?_, fun j l d d' b h1 h2 h3 h4 => ?_, fun _ z => z.elim⟩, hc, fun F' H' v ext tk sl fr ou => ?_⟩
  · cases j with
    | zero =>
      cases h1
      cases h2
      refine sl_fz.mpr ?_
      rw [Fr, S.hK]
      refine ⟨a, rfl, ?_⟩
      rcases hs with (z | ⟨ob, z⟩) | z
      · rcases hO a with q | ⟨_, _, q⟩ <;> rw [z] at q <;> cases q
      · exact .inl ⟨ob, z⟩
      · exact .inr (.inr z)
    | succ j => simp at h1
  · cases j with
    | zero => cases h1
    | succ j => simp at h1
  · cases o with
    | false =>
      have f := sl_fz.mp sl
      rw [Fr] at f
      exact f
    | true =>
      have f := sl_ow.mp sl
      exact f.elim
theorem law_callG {mb : Str → Option Value} {k : Nat} {fa a : Addr} {sp : Sp} {s1 : Shared} {vs : List Value} {ns : List Int} (KX : K.In s1.heap) (hns : s1.heap.Ns mainGlobals mg) (hb : s1.heap.Ns builtinsNs mb) (hbb : ∀ x : Str, x ≠ "__name__" → mb x = bootBuiltins x) (hlim : s1.heap.NoLimit) (hg : s1.gens = #[])
    (ha : s1.heap.get? a = some { cls := .type "list", data := .seq vs.toArray }) (hi : IntsAre vs ns) (hl : ns.length ≤ sizeLine) (hr : Room k callerA) (F : ∀ base : Heap, FnG P w K mg base k fa sp) (hsp : ∀ H : Hp, Only H → SqL K H a (ns.map V.int) → sp [.ref a] H (fun v _ => v = .bl true) E0) :
    codeAny (model P w) callerA (.call (.ref fa) ⟨[.ref a], []⟩) (fun r s' => r = .ok (.ret (.bool true)) ∧ OldK s1.heap s'.heap ∧ s'.os = s1.os ∧ AllBare s'.gens) s1 := by
  have rv := vals_ints hi
  have lenV := hi.length
  obtain ⟨H, hO, hS, hok, hA, hN⟩ : ∃ H : Hp, Only H ∧ SqL K H a (ns.map V.int) ∧ HOk P w H s1.heap ∧ (∀ b, H b ≠ none → b = a) ∧ (H a ≠ none → K.lookup a = none) := by
    cases hk : K.lookup a with
    | some o =>
      have e := KX a o hk
      rw [ha] at e
      cases e
      refine ⟨fun _ => none, fun _ => .inl rfl, .inr ⟨_, vs.toArray, _, hk, rfl, rfl, rfl, ?_, ?_⟩, fun b u z => ?_, fun b z => absurd rfl z, fun z => absurd rfl z⟩
      · rw [List.size_toArray, lenV]
        exact hl
      · simpa using rv
      · have z2 : (none : Option HO) = some u := z
        cases z2
    | none =>
      refine ⟨upd (fun _ => none) a (.frz { cls := .type "list", data := .seq vs.toArray } (.lst (ns.map V.int))), fun b => ?_, .inl (.inr ⟨_, upd_same⟩), fun b u z => ?_, fun b z => ?_, fun _ => rfl⟩
      · by_cases e : b = a
        · subst e
          exact .inr ⟨_, _, upd_same⟩
        · exact .inl (upd_ne e)
      · by_cases e : b = a
        · subst e
          rw [upd_same] at z
          cases z
          exact ⟨ha, by rw [List.length_map]; exact hl, vs, _, rv, ha⟩
        · rw [upd_ne e] at z
          cases z
      · by_cases e : b = a
        · exact e
        · exact absurd (upd_ne e) z
  have only : ∀ b, H b = none ∨ b = a := fun b => by
    cases q : H b with
    | none => exact .inl rfl
    | some u => exact .inr (hA b (by rw [q]; exact fun z => nomatch z))
  have noD : ∀ {b : Addr} {o : Obj} {es : Array DictEntry} {ep : Nat}, s1.heap.get? b = some o → o.data = .dict es ep → H b = none := fun {b o es ep} e d => by
    rcases only b with q | q
    · exact q
    · subst q
      rw [ha] at e
      cases e
      cases d
  have nsK : ∀ {b : Addr} {m : Str → Option Value}, s1.heap.Ns b m → (hidT s1.heap H).Ns b m := fun {b m} ⟨o, es, ep, e, d, r⟩ => ⟨o, es, ep, hidT_get e (noD e d), d, r⟩
  have hKb : K.In (hidT s1.heap H) := fun b o e => hidT_get (KX b o e) (by
    cases q : H b with
    | none => rfl
    | some u =>
      have e2 := hA b (by rw [q]; exact fun z => nomatch z)
      subst e2
      rw [hN (by rw [q]; exact fun z => nomatch z)] at e
      cases e)
  obtain ⟨mc, c1, c2⟩ := hlim
  have e0 : Env0 P w K mg (hidT s1.heap H) callerA [] s1 H := ⟨rfl, ⟨hKb, nsK hns, ⟨mb, nsK hb, hbb⟩, ⟨mc, nsK c1, c2⟩⟩, fun b o e => of_hidT e, Nat.le_of_eq (hidT_size _ _), trivial, fun b z => absurd (show b ∈ ([] : List Addr) from z) (by simp), hok, .of_eq hg⟩
  refine codeAny_mono (F _ callerA [] s1 H [.ref a] [.ref a] _ rfl hr e0 (.cons rfl .nil) (hsp H hO hS)) fun r s' h => ?_
  cases r with
  | error e => exact False.elim h
  | ok fl => cases fl with
    | next => exact False.elim h
    | brk => exact False.elim h
    | cont => exact False.elim h
    | ret u =>
      obtain ⟨v, H', os, bare, un, hok2, r2, q⟩ := h
      have q : v = .bl true := q
      subst q
      obtain rfl : u = Value.bool true := r2
      refine ⟨rfl, OldK.of_keep fun b o e => ?_, os, bare⟩
      rcases hO b with z | ⟨ob, xs, z⟩
      · exact un.keep b o e z (fun y => absurd (show b ∈ ([] : List Addr) from y) (by simp)) (by simp)
      · obtain ⟨e1, _⟩ := hok b _ z
        obtain ⟨e2, _⟩ := hok2 b _ (un.frzs b ob _ z)
        rw [e] at e1
        cases e1
        exact e2
end
end Ev
/-! Hd: what the module's names hold behind its top, looked up in the kernel, for Su. -/
namespace Ev
open PySem PySem.Spec PyProof.Rows L2 RZ StX
/-- a written value as the layer has it -/
def uV : Value → V
  | .bool b => .bl b
  | .int i _ => .int i
  | .str s _ => .str s
  | .ref a => .ref a
  | _ => .non
def wNon : Value → Bool
  | .none => true
  | _ => false
def wBl (b : Bool) : Value → Bool
  | .bool c => b == c
  | _ => false
def wInt (i : Int) : Value → Bool
  | .int j _ => decide (i = j)
  | _ => false
def wStr (s : Str) : Value → Bool
  | .str t _ => decide (s = t)
  | _ => false
def wTup (K : PySem.W.Frag) (f : List Value → Bool) : Value → Bool
  | .ref a => (match K.lookup a with
    | some ⟨.type c, _, .seq its _, _⟩ => decide (c = "tuple") && (decide (its.size ≤ sizeLine) && f its.toList)
    | _ => false)
  | _ => false
def wCons (f : Value → Bool) (g : List Value → Bool) : List Value → Bool
  | u :: r => f u && g r
  | [] => false
mutual
/-- a written value is the tree -/
def wB (K : PySem.W.Frag) : D → Value → Bool
  | .non => wNon
  | .bl b => wBl b
  | .int i => wInt i
  | .str s => wStr s
  | .tup ds => wTup K (wsB K ds)
  | .lst _ => fun _ => false
  | .dct _ => fun _ => false
  | .fn _ => fun _ => false
  | .scr _ => fun _ => false
  | .er _ _ => fun _ => false
def wsB (K : PySem.W.Frag) : List D → List Value → Bool
  | [] => fun us => us.isEmpty
  | d :: ds => wCons (wB K d) (wsB K ds)
end
theorem ba' {a b : Bool} (h : (a && b) = true) : a = true ∧ b = true := Bool.and_eq_true_iff.mp h
mutual
theorem wB_ok {K : PySem.W.Frag} : ∀ (d : D) (u : Value), wB K d u = true → RelV (uV u) u ∧ ∀ (g : Gx) (F : Addr → Prop) (H : Hp), g.K = K → Fr g F H d (uV u)
  | .non, u, h => by
    rw [wB] at h
    unfold wNon at h
    split at h
    · exact ⟨rfl, fun g F H _ => by rw [Fr]; rfl⟩
    · cases h
  | .bl b, u, h => by
    rw [wB] at h
    unfold wBl at h
    split at h
    · obtain rfl := eq_of_beq h
      exact ⟨rfl, fun g F H _ => by rw [Fr]; rfl⟩
    · cases h
  | .int i, u, h => by
    rw [wB] at h
    unfold wInt at h
    split at h
    · obtain rfl := of_decide_eq_true h
      exact ⟨⟨_, rfl⟩, fun g F H _ => by rw [Fr]; rfl⟩
    · cases h
  | .str s, u, h => by
    rw [wB] at h
    unfold wStr at h
    split at h
    · obtain rfl := of_decide_eq_true h
      exact ⟨⟨_, rfl⟩, fun g F H _ => by rw [Fr]; rfl⟩
    · cases h
  | .tup ds, u, h => by
    rw [wB] at h
    unfold wTup at h
    split at h
    · rename_i a
      split at h
      · rename_i c od its n sl q
        obtain ⟨h1, h2⟩ := ba' h
        obtain ⟨h3, h4⟩ := ba' h2
        obtain ⟨k1, k2⟩ := wsB_ok ds its.toList h4
        refine ⟨rfl, fun g F H e => ?_⟩
        rw [Fr]
        refine ⟨a, its.toList.map uV, rfl, ?_, k2 g F H e⟩
        rw [e]
        exact .inr ⟨_, its, n, q, congrArg Value.type (of_decide_eq_true h1), rfl, of_decide_eq_true h3, k1⟩
      · cases h
    · cases h
  | .lst _, u, h => by rw [wB] at h; cases h
  | .dct _, u, h => by rw [wB] at h; cases h
  | .fn _, u, h => by rw [wB] at h; cases h
  | .scr _, u, h => by rw [wB] at h; cases h
  | .er _ _, u, h => by rw [wB] at h; cases h
theorem wsB_ok {K : PySem.W.Frag} : ∀ (ds : List D) (us : List Value), wsB K ds us = true → Vals (us.map uV) us ∧ ∀ (g : Gx) (F : Addr → Prop) (H : Hp), g.K = K → FrL g F H ds (us.map uV)
  | [], us, h => by
    rw [wsB] at h
    cases us with
    | nil => exact ⟨.nil, fun g F H _ => by rw [FrL]; rfl⟩
    | cons _ _ => cases h
  | d :: ds, us, h => by
    rw [wsB] at h
    cases us with
    | nil => cases h
    | cons u r =>
      obtain ⟨h1, h2⟩ := ba' (show (wB K d u && wsB K ds r) = true from h)
      obtain ⟨a1, a2⟩ := wB_ok d u h1
      obtain ⟨b1, b2⟩ := wsB_ok ds r h2
      exact ⟨.cons a1 b1, fun g F H e => by rw [FrL]; exact ⟨_, _, rfl, a2 g F H e, b2 g F H e⟩⟩
end
/-! ### a written dict -/
def keyB : Key → Value → Bool
  | .inr x, .str y _ => decide (x = y)
  | _, _ => false
theorem keyB_ok {k : Key} {v : Value} (h : keyB k v = true) : ∃ x t, k = .inr x ∧ v = .str x t := by
  unfold keyB at h
  split at h
  · obtain rfl := of_decide_eq_true h
    exact ⟨_, _, rfl, rfl⟩
  · cases h
def entsB (K : PySem.W.Frag) : List DictEntry → List (Key × D) → Bool
  | [], [] => true
  | e :: es, (k, d) :: r => keyB k e.key && (wB K d e.val && entsB K es r)
  | _, _ => false
def kOf : Value → Key
  | .str x _ => .inr x
  | _ => .inl 0
def entsV (es : List DictEntry) : List (Key × V) := es.map fun e => (kOf e.key, uV e.val)
def entsU (es : List DictEntry) : List (Key × Value) := es.map fun e => (kOf e.key, e.val)
def esAt (K : PySem.W.Frag) (a : Addr) : List DictEntry := match K.lookup a with
  | some ⟨_, _, .dict es _, _⟩ => es.toList
  | _ => []
def dcB (K : PySem.W.Frag) (a : Addr) (kvs : List (Key × D)) : Bool := entsB K (esAt K a) kvs && (decide (kvs.length ≤ sizeLine) && decide ((kvs.map (·.1)).Nodup))
section
variable {K : PySem.W.Frag}
theorem ents_ok : ∀ {es : List DictEntry} {kvs : List (Key × D)}, entsB K es kvs = true → (∀ (g : Gx) (F : Addr → Prop) (H : Hp), g.K = K → FrK g F H kvs (entsV es)) ∧ KV (entsV es) (entsU es) ∧ (entsU es).map (·.1) = kvs.map (·.1) ∧ es.length = kvs.length
  | [], [], _ => ⟨fun g F H _ => by rw [FrK]; rfl, .nil, rfl, rfl⟩
  | [], _ :: _, h => by cases h
  | _ :: _, [], h => by cases h
  | e :: es, (k, d) :: r, h => by
    have h' : (keyB k e.key && (wB K d e.val && entsB K es r)) = true := h
    obtain ⟨h1, h2⟩ := ba' h'
    obtain ⟨h3, h4⟩ := ba' h2
    obtain ⟨a1, a2⟩ := wB_ok d e.val h3
    obtain ⟨b1, b2, b3, b4⟩ := ents_ok h4
    have ek : kOf e.key = k := by
      obtain ⟨x, t, rfl, q⟩ := keyB_ok h1
      rw [q]
      rfl
    refine ⟨fun g F H eg => ?_, ?_, ?_, ?_⟩
    · rw [FrK]
      refine ⟨uV e.val, entsV es, ?_, a2 g F H eg, b1 g F H eg⟩
      show (kOf e.key, uV e.val) :: entsV es = _
      rw [ek]
    · exact .cons ⟨rfl, a1⟩ b2
    · show kOf e.key :: (entsU es).map (·.1) = k :: r.map (·.1)
      rw [ek, b3]
    · show es.length + 1 = r.length + 1
      rw [b4]
theorem ents_find (z : Str) : ∀ {es : List DictEntry} {kvs : List (Key × D)}, entsB K es kvs = true → (match es.find? (·.key.isStr z), valD kvs (.inr z) with
      | some e, some d => wB K d e.val = true
      | none, none => True
      | _, _ => False) ∧ es.any (·.refKey) = false
  | [], [], _ => ⟨trivial, rfl⟩
  | [], _ :: _, h => by cases h
  | _ :: _, [], h => by cases h
  | e :: es, (k, d) :: r, h => by
    have h' : (keyB k e.key && (wB K d e.val && entsB K es r)) = true := h
    obtain ⟨h1, h2⟩ := ba' h'
    obtain ⟨h3, h4⟩ := ba' h2
    obtain ⟨ih1, ih2⟩ := ents_find z h4
    obtain ⟨x, t, rfl, ek⟩ := keyB_ok h1
    have hk : e.key.isStr z = decide (x = z) := by
      rw [ek]
      show (x == z) = decide (x = z)
      by_cases e' : x = z
      · subst e'; simp
      · rw [decide_eq_false e', beq_eq_false_iff_ne.mpr e']
    constructor
    · unfold valD
      rw [List.find?_cons, List.find?_cons, hk]
      by_cases e' : x = z
      · subst e'
        simp only [decide_true, Option.map_some]
        exact h3
      · have e2 : ¬ (Sum.inr x : Key) = Sum.inr z := fun q => e' (Sum.inr.inj q)
        rw [decide_eq_false e', decide_eq_false e2]
        exact ih1
    · rw [List.any_cons, ih2, Bool.or_false]
      unfold DictEntry.refKey
      rw [ek]
theorem dc_ok {w : World} {a : Addr} {es : Array DictEntry} {n : Nat} {kvs : List (Key × D)} (D0 : KDict K w a es n) (h : dcB K a kvs = true) :
    (∀ z : Str, ∃ r, PySem.W.nsIn K a z = some r ∧ r.isSome = (valD kvs (.inr z)).isSome) ∧
    (∀ (z : Str) (d : D), valD kvs (.inr z) = some d → ∃ v, KDct K w a z v ∧ ∀ (g : Gx) (F : Addr → Prop) (H : Hp), g.K = K → Fr g F H d v) ∧
    (∀ (g : Gx) (F : Addr → Prop) (H : Hp), g.K = K → FrK g F H kvs (entsV (esAt K a))) ∧
    (entsV (esAt K a)).length ≤ sizeLine ∧ ∀ P : Program, ∃ vs, KV (entsV (esAt K a)) vs ∧ ∀ hp : Heap, K.In hp → hp.DictOf (mixKind P w) a vs := by
  have ea : esAt K a = es.toList := by
    unfold esAt
    rw [D0.at_]
  unfold dcB at h
  obtain ⟨h1, h2⟩ := ba' h
  obtain ⟨h3, h4⟩ := ba' h2
  have hl := of_decide_eq_true h3
  have hn := of_decide_eq_true h4
  rw [ea] at h1 ⊢
  obtain ⟨p1, p2, p3, p4⟩ := ents_ok h1
  have ns : ∀ z : Str, PySem.W.nsIn K a z = some ((es.toList.find? (·.key.isStr z)).map (·.val)) := fun z => by
    obtain ⟨_, q2⟩ := ents_find (K := K) z h1
    unfold PySem.W.nsIn
    rw [D0.at_]
    show (match es.toList.find? (·.key.isStr z) with
      | some e => some (some e.val)
      | none => if es.toList.any (·.refKey) then none else some none) = _
    cases hf : es.toList.find? (·.key.isStr z) with
    | some e => rfl
    | none =>
      show (if es.toList.any (·.refKey) = true then none else some none) = _
      rw [q2]
      rfl
  refine ⟨fun z => ⟨_, ns z, ?_⟩, fun z d hd => ?_, p1, ?_, fun P => ⟨entsU es.toList, p2, fun hp KX => ?_⟩⟩
  · obtain ⟨q1, _⟩ := ents_find (K := K) z h1
    cases hf : es.toList.find? (·.key.isStr z) with
    | some e =>
      cases hv : valD kvs (.inr z) with
      | some d => rfl
      | none => rw [hf, hv] at q1; exact q1.elim
    | none =>
      cases hv : valD kvs (.inr z) with
      | some d => rw [hf, hv] at q1; exact q1.elim
      | none => rfl
  · obtain ⟨q1, _⟩ := ents_find (K := K) z h1
    cases hf : es.toList.find? (·.key.isStr z) with
    | some e =>
      rw [hf, hd] at q1
      obtain ⟨a1, a2⟩ := wB_ok d e.val q1
      refine ⟨uV e.val, ⟨es, n, e.val, D0.at_, D0.lit, ?_, a1⟩, a2⟩
      rw [ns z, hf]
      rfl
    | none => rw [hf, hd] at q1; exact q1.elim
  · show (List.map _ es.toList).length ≤ sizeLine
    rw [List.length_map, p4]
    exact hl
  · refine ⟨_, es, n, KX _ _ D0.at_, ⟨rfl, rfl, rfl⟩, rfl, fun e he => ?_, ?_, ?_⟩
    · obtain ⟨x, t, e1, e2⟩ := D0.lit.all e (Array.mem_toList_iff.mpr he)
      exact ⟨.inr x, by rw [e1]; exact keyIs_str x t, e2⟩
    · have key : ∀ l : List DictEntry, PySem.W.KeysLit w.params l → Pairs (mixKind P w) l (entsU l) := by
        intro l
        induction l with
        | nil => intro _; exact .nil
        | cons e r ih =>
          intro hl
          obtain ⟨⟨x, t, e1, _⟩, hr⟩ := hl
          refine .cons ?_ rfl (ih hr)
          show keyIs (kOf e.key) e.key = true
          rw [e1]
          exact keyIs_str x t
      exact key _ D0.lit
    · rw [p3]
      exact hn
/-! ### a constant of a written class -/
def clsB (K : PySem.W.Frag) (C : Str) : Bool := PySem.W.readsIn K (He.ga K C) (.type "type") && He.eqO (PySem.W.specialIn K (.ref (He.ga K C)) "__getattribute__") (some (some (.builtin "type.__getattribute__")))
def cvlB (K : PySem.W.Frag) (C f : Str) (d : D) : Bool := match PySem.W.findCls K (.ref (He.ga K C)) (.type "type") f with
  | some (.val u) => flatD d && wB K d u
  | _ => false
theorem cls_okB {C : Str} (h : clsB K C = true) : ClX.CRead K (He.ga K C) (.type "type") := by
  obtain ⟨h1, h2⟩ := ba' h
  exact ⟨h1, He.eqO_ok h2⟩
theorem uV_cV {d : D} {u : Value} (hf : flatD d = true) (h : wB K d u = true) : uV u = cV d := by
  have := (wB_ok d u h).2 ⟨K, fun _ => none, fun _ => none⟩ (fun _ => False) (fun _ => none) rfl
  cases d <;> first | (rw [Fr] at this; exact this) | (cases hf)
theorem cvl_ok {C f : Str} {d : D} (h : cvlB K C f d = true) : ∃ u, ClX.CVal K (He.ga K C) (.type "type") f (cV d) u := by
  unfold cvlB at h
  split at h
  · rename_i u q
    obtain ⟨h1, h2⟩ := ba' h
    exact ⟨u, q, by rw [← uV_cV h1 h2]; exact (wB_ok d u h2).1⟩
  · cases h
end
end Ev
section
set_option maxHeartbeats 3200000
/-! Xb: what is asked of the program's errors' classes, as a Bool over the written part. -/
namespace Ev.Xc
open PySem PySem.Spec PyProof.Rows L2
/-- a built-in error, as a base -/
structure Bd where
  Bs : Str
  B : String
  initId : String
  Bn : String
  newId : String
  iN : String
  bm : List Value
  bmN : List Value
structure BdOk (b : Bd) : Prop where
  eb : ExcBaseFacts b.Bn b.newId b.iN b.bmN
  bt : Bt b.Bs b.B b.initId
  mr : Mr b.bm b.Bn b.B
  st : St b.bm
def bdVE : Bd := ⟨"ValueError", "ValueError", "ValueError.__init__", "ValueError", "ValueError.__new__", "ValueError.__init__", mVE, mVE⟩
def bdKE : Bd := ⟨"KeyError", "KeyError", "KeyError.__init__", "LookupError", "LookupError.__new__", "LookupError.__init__", mKE, mLE⟩
def bdLE : Bd := ⟨"LookupError", "LookupError", "LookupError.__init__", "LookupError", "LookupError.__new__", "LookupError.__init__", mLE, mLE⟩
def bdRE : Bd := ⟨"RuntimeError", "RuntimeError", "RuntimeError.__init__", "RuntimeError", "RuntimeError.__new__", "RuntimeError.__init__", mRE, mRE⟩
theorem ok_VE : BdOk bdVE := ⟨F.excBase_ValueError, bt_VE, ⟨by decide +kernel, by decide +kernel, by decide +kernel, by decide +kernel⟩, st_VE⟩
theorem ok_KE : BdOk bdKE := ⟨base_LE, bt_KE, ⟨by decide +kernel, by decide +kernel, by decide +kernel, by decide +kernel⟩, st_KE⟩
theorem ok_LE : BdOk bdLE := ⟨base_LE, bt_LE, ⟨by decide +kernel, by decide +kernel, by decide +kernel, by decide +kernel⟩, st_LE⟩
theorem ok_RE : BdOk bdRE := ⟨F.excBase_RuntimeError, bt_RE, ⟨by decide +kernel, by decide +kernel, by decide +kernel, by decide +kernel⟩, st_RE⟩
inductive Bk where | ve | ke | le | re
def Bk.d : Bk → Bd
  | .ve => bdVE
  | .ke => bdKE
  | .le => bdLE
  | .re => bdRE
theorem Bk.ok : ∀ k : Bk, BdOk k.d
  | .ve => ok_VE
  | .ke => ok_KE
  | .le => ok_LE
  | .re => ok_RE
/-- an error's class: its name, fields, base, its __init__ -/
structure Er where
  cn : Str
  fs : List Str
  bk : Bk
  qual : Str
  params : Arguments
  body : List Stmt
  scope : Scope
def objB (C : Addr) (bm : List Value) (newId : String) (o : Obj) : Bool := match o with
  | ⟨c, dd, .cls cd, sl⟩ => decide (c = .type "type") && (decide (cd.mro = .ref C :: bm) && (cd.hasDict && (!cd.hasDel && (match sl with
    | ⟨[k0, k1, k2, k3, k4, k5]⟩ => decide (k4 = some (.builtin newId))
    | _ => false))))
  | _ => false
def ocB (K : PySem.W.Frag) (C : Addr) (bm : List Value) (newId : String) : Bool := (match K.lookup C with
  | some o => objB C bm newId o
  | none => false) && (decide (PySem.W.findIn K (.ref C) "__setattr__" = some (some (.builtin "object.__setattr__"))) && (decide (PySem.W.subIn K (.ref C) (.type "BaseException") = some true) && (decide (PySem.W.typeIn K (.ref C) = some (.type "type")) && PySem.W.keepIn K (.ref C))))
theorem ocB_ok {K : PySem.W.Frag} {C : Addr} {b : Bd} (B : BdOk b) (h : ocB K C b.bm b.newId = true) : Oc K C b.Bn b.B b.newId := by
  unfold ocB at h
  simp only [Bool.and_eq_true, decide_eq_true_eq] at h
  obtain ⟨h1, h2, h3, h4, h5⟩ := h
  refine ⟨?_, h2, h3, h4, h5⟩
  split at h1
  · rename_i o ho
    unfold objB at h1
    split at h1
    · rename_i c dd cd sl
      simp only [Bool.and_eq_true, decide_eq_true_eq, Bool.not_eq_true'] at h1
      obtain ⟨e1, e2, e3, e4, h1⟩ := h1
      split at h1
      · rename_i k0 k1 k2 k3 k4 k5
        have e5 := of_decide_eq_true h1
        obtain ⟨nm, bs, mro, N, q, hd, sn, sub, ab, col, del⟩ := cd
        dsimp only at e2 e3 e4
        subst e1 e2 e3 e4 e5
        exact ⟨nm, q, N, bs, b.bm, sn, sub, ab, col, dd, k0, k1, k2, k3, k5, ho, B.mr, B.st⟩
      · cases h1
    · cases h1
  · cases h1
def excB (K : PySem.W.Frag) (C : Addr) : Bool := decide (PySem.W.findIn K (.ref C) "__getattribute__" = some (some (.builtin "BaseException.__getattribute__"))) && (decide (PySem.W.findIn K (.ref C) "__getattr__" = some none) && (decide (PySem.W.subIn K (.ref C) (.type "BaseException") = some true) && (PySem.W.hasDictIn K C &&
  (decide (PySem.W.findIn K (.ref C) "__class__" = some (some (.builtin "object.__class__"))) && (decide (PySem.W.specialIn K (.builtin "object.__class__") "__get__" = some (some (.builtin "getset_descriptor.__get__"))) && (decide (PySem.W.takesIn K (.builtin "object.__class__") = some true) && decide (PySem.W.mroIn K C (.type "object") = some true)))))))
theorem excB_ok {K : PySem.W.Frag} {C : Addr} (h : excB K C = true) : XfC K C ∧ ExcC K C := by
  unfold excB at h
  simp only [Bool.and_eq_true, decide_eq_true_eq] at h
  obtain ⟨h1, h2, h3, h4, h5, h6, h7, h8⟩ := h
  exact ⟨⟨h1, h2, h3, h4⟩, ⟨h1, h2, h3, h4, h5, h6, h7, h8⟩⟩
def Er.dd (e : Er) : He.DefD := ⟨(e.cn, some "__init__"), "__init__", e.qual, e.params, e.body, e.scope, [], []⟩
def fclB (K : PySem.W.Frag) (b : Bd) : Bool := match PySem.W.findCls K (.type b.B) (.type "type") "__init__" with
  | some (.val (.builtin i)) => decide (i = b.initId)
  | _ => false
theorem fclB_ok {K : PySem.W.Frag} {b : Bd} (h : fclB K b = true) : PySem.W.findCls K (.type b.B) (.type "type") "__init__" = some (.val (.builtin b.initId)) := by
  unfold fclB at h
  split at h
  · rename_i i e
    rw [e, of_decide_eq_true h]
  · cases h
/-- what is seen of the written part -/
def erB (K : PySem.W.Frag) (e : Er) : Bool := ocB K (He.ga K e.cn) e.bk.d.bm e.bk.d.newId && (fclB K e.bk.d &&
  (decide (PySem.W.findIn K (.ref (He.ga K e.cn)) "__init__" = some (some (.ref (He.ma K (He.ga K e.cn) "__init__")))) && (decide (PySem.W.typeIn K (.ref (He.ma K (He.ga K e.cn) "__init__")) = some (.type "function")) &&
  (((("self" : Str) :: e.fs).all fun x => decide (PySem.W.findIn K (.ref (He.ga K e.cn)) x = some none)) && excB K (He.ga K e.cn)))))
/-- what is seen of the text -/
structure ErOk (e : Er) : Prop where
  fsc : FnScope (("self" : Str) :: e.fs) (("self" : Str) :: e.fs) e.scope
  gl : e.scope.names.lookup e.bk.d.Bs = some .globalImplicit
  bdy : bdyB e.bk.d.Bs e.fs e.body = true
  few : e.fs.length ≤ 800
  vis : ∀ x ∈ ("self" : Str) :: e.fs, Vis e.scope x ∧ (x == ("__debug__" : Str)) = false ∧ (x == ("__classdict__" : Str)) = false
theorem vis_of {sc : Scope} {N : List Str} (h : (N.all fun x => (match sc.names.lookup x with
    | some .local => true
    | some .cell => true
    | _ => false) && (!(x == ("__debug__" : Str)) && !(x == ("__classdict__" : Str)))) = true) : ∀ x ∈ N, Vis sc x ∧ (x == ("__debug__" : Str)) = false ∧ (x == ("__classdict__" : Str)) = false := by
  intro x m
  have o := List.all_eq_true.mp h x m
  simp only [Bool.and_eq_true, Bool.not_eq_true'] at o
  refine ⟨?_, o.2.1, o.2.2⟩
  have o := o.1
  split at o
  · rename_i e
    exact .inl e
  · rename_i e
    exact .inr (.inl e)
  · cases o
theorem er_ei {K : PySem.W.Frag} {mg : Str → Option Value} {e : Er} (E : ErOk e) (h : erB K e = true) {fd : FuncData} (F : FunD K "__init__" e.qual e.params e.body e.scope [] [] (He.fAd K (e.cn, some "__init__")) fd) (mB : mg e.bk.d.Bs = none) :
    Ei K mg (He.ga K e.cn) e.fs e.bk.d.Bn e.bk.d.B e.bk.d.newId e.bk.d.iN e.bk.d.initId e.bk.d.bmN e.bk.d.Bs (He.ma K (He.ga K e.cn) "__init__") fd "__init__" e.qual e.params e.body e.scope := by
  unfold erB at h
  simp only [Bool.and_eq_true, decide_eq_true_eq, List.all_eq_true] at h
  obtain ⟨h1, h2, h3, h4, h5, h6⟩ := h
  exact ⟨ocB_ok e.bk.ok h1, e.bk.ok.eb, e.bk.ok.bt, fclB_ok h2, mB, h3, h4, F, E.fsc, E.gl, E.bdy, E.few, E.vis, h5⟩
theorem erB_exc {K : PySem.W.Frag} {e : Er} (h : erB K e = true) : (XfC K (He.ga K e.cn) ∧ ExcC K (He.ga K e.cn)) ∧ ∀ x ∈ e.fs, PySem.W.findIn K (.ref (He.ga K e.cn)) x = some none := by
  unfold erB at h
  simp only [Bool.and_eq_true, decide_eq_true_eq, List.all_eq_true] at h
  obtain ⟨h1, h2, h3, h4, h5, h6⟩ := h
  exact ⟨excB_ok h6, fun x m => h5 x (List.mem_cons_of_mem _ m)⟩
/-- a class in isinstance: one of the program, or a built-in error -/
def ctV (K : PySem.W.Frag) (p : Str × Option String) : V := match p.2 with
  | some b => .ty b
  | none => .ref (He.ga K p.1)
def ctU (K : PySem.W.Frag) (p : Str × Option String) : Value := match p.2 with
  | some b => .type b
  | none => .ref (He.ga K p.1)
theorem ct_rel {K : PySem.W.Frag} {p : Str × Option String} : RelV (ctV K p) (ctU K p) ∧ ∀ u, RelV (ctV K p) u → u = ctU K p := by
  obtain ⟨x, b⟩ := p
  cases b <;> exact ⟨rfl, fun u h => h⟩
end Ev.Xc
end
/-! OkB: a Bool that says okSs. Printed by genok.py. -/
namespace Ev
open PySem L2
mutual
def okEB (ids : Nat → Bool) : Tm → Bool
  | .var _ => true
  | .cst d => flatD d
  | .gl _ => true
  | .fnv i => ids i
  | .bin _ a b => (okEB ids a && okEB ids b)
  | .neg a => okEB ids a
  | .notv a => okEB ids a
  | .cmp _ a b => (okEB ids a && okEB ids b)
  | .isN a => okEB ids a
  | .isNN a => okEB ids a
  | .chain _ _ a b c => (okEB ids a && (okEB ids b && okEB ids c))
  | .andv a b => (okEB ids a && okEB ids b)
  | .orv a b => (okEB ids a && okEB ids b)
  | .ife c a b => (okCB ids c && (okEB ids a && okEB ids b))
  | .idx a b => (okEB ids a && okEB ids b)
  | .slc a lo hi => (okEB ids a && (okToB ids lo && okToB ids hi))
  | .evn a lo => (okEB ids a && okToB ids lo)
  | .rev a => okEB ids a
  | .bi _ a => okEB ids a
  | .join s a => (okEB ids s && okEB ids a)
  | .dget d k x => (okEB ids d && (okEB ids k && okEB ids x))
  | .zipl a b => (okEB ids a && okEB ids b)
  | .gin _ a => okEB ids a
  | .gidx _ a => okEB ids a
  | .gdict _ => true
  | .tupd es => okAB ids es
  | .lstd es => okAB ids es
  | .dctd ps => okPB ids ps
  | .call _ as => okAB ids as
  | .callv _ as => okAB ids as
  | .ncall _ as => okAB ids as
  | .comp e _ _ it c _ => (okEB ids e && (okIB ids it && okTcB ids c))
  | .look e _ _ _ c _ => (okEB ids e && okTcB ids c)
  | .dcomp k v _ _ it _ => (okEB ids k && (okEB ids v && okIB ids it))
  | .mu _ _ as => okAB ids as
  | .min2 a b => (okEB ids a && okEB ids b)
  | .dupd _ a => okEB ids a
  | .mkx _ _ _ es ks _ => (okAB ids es && okAB ids ks)
  | .fld a _ => okEB ids a
  | .isx a _ => okEB ids a
def okToB (ids : Nat → Bool) : To → Bool
  | .no => true
  | .yes a => okEB ids a
def okTcB (ids : Nat → Bool) : To' → Bool
  | .no => true
  | .yes c => okCB ids c
def okAB (ids : Nat → Bool) : Tms → Bool
  | .nil => true
  | .cons a r => (okEB ids a && okAB ids r)
  | .star a r => (okEB ids a && okAB ids r)
def okPB (ids : Nat → Bool) : Tps → Bool
  | .nil => true
  | .cons k v r => (okEB ids k && (okEB ids v && okPB ids r))
def okIB (ids : Nat → Bool) : It → Bool
  | .seq a => okEB ids a
  | .rng1 a => okEB ids a
  | .rng2 a b => (okEB ids a && okEB ids b)
  | .enum a => okEB ids a
  | .zip a b => (okEB ids a && okEB ids b)
def okCB (ids : Nat → Bool) : Ct → Bool
  | .val a => okEB ids a
  | .cmp a => okEB ids a
  | .and a b => (okCB ids a && okCB ids b)
  | .or a b => (okCB ids a && okCB ids b)
  | .not a => okCB ids a
end
mutual
theorem okEB_ok {ids : Nat → Bool} {fa : Nat → Option Addr} (hf : ∀ i, ids i = true → (fa i).isSome = true) : ∀ t : Tm, okEB ids t = true → okE fa t
  | .var _, h => by rw [okE]; trivial
  | .cst d, h => by rw [okE]; rw [okEB] at h; exact h
  | .gl _, h => by rw [okE]; trivial
  | .fnv i, h => by rw [okE]; rw [okEB] at h; exact hf _ h
  | .bin _ a b, h => by rw [okE]; rw [okEB] at h; exact ⟨okEB_ok hf a (ba' h).1, okEB_ok hf b (ba' h).2⟩
  | .neg a, h => by rw [okE]; rw [okEB] at h; exact okEB_ok hf a h
  | .notv a, h => by rw [okE]; rw [okEB] at h; exact okEB_ok hf a h
  | .cmp _ a b, h => by rw [okE]; rw [okEB] at h; exact ⟨okEB_ok hf a (ba' h).1, okEB_ok hf b (ba' h).2⟩
  | .isN a, h => by rw [okE]; rw [okEB] at h; exact okEB_ok hf a h
  | .isNN a, h => by rw [okE]; rw [okEB] at h; exact okEB_ok hf a h
  | .chain _ _ a b c, h => by rw [okE]; rw [okEB] at h; exact ⟨okEB_ok hf a (ba' h).1, okEB_ok hf b (ba' (ba' h).2).1, okEB_ok hf c (ba' (ba' h).2).2⟩
  | .andv a b, h => by rw [okE]; rw [okEB] at h; exact ⟨okEB_ok hf a (ba' h).1, okEB_ok hf b (ba' h).2⟩
  | .orv a b, h => by rw [okE]; rw [okEB] at h; exact ⟨okEB_ok hf a (ba' h).1, okEB_ok hf b (ba' h).2⟩
  | .ife c a b, h => by rw [okE]; rw [okEB] at h; exact ⟨okCB_ok hf c (ba' h).1, okEB_ok hf a (ba' (ba' h).2).1, okEB_ok hf b (ba' (ba' h).2).2⟩
  | .idx a b, h => by rw [okE]; rw [okEB] at h; exact ⟨okEB_ok hf a (ba' h).1, okEB_ok hf b (ba' h).2⟩
  | .slc a lo hi, h => by rw [okE]; rw [okEB] at h; exact ⟨okEB_ok hf a (ba' h).1, okToB_ok hf lo (ba' (ba' h).2).1, okToB_ok hf hi (ba' (ba' h).2).2⟩
  | .evn a lo, h => by rw [okE]; rw [okEB] at h; exact ⟨okEB_ok hf a (ba' h).1, okToB_ok hf lo (ba' h).2⟩
  | .rev a, h => by rw [okE]; rw [okEB] at h; exact okEB_ok hf a h
  | .bi _ a, h => by rw [okE]; rw [okEB] at h; exact okEB_ok hf a h
  | .join s a, h => by rw [okE]; rw [okEB] at h; exact ⟨okEB_ok hf s (ba' h).1, okEB_ok hf a (ba' h).2⟩
  | .dget d k x, h => by rw [okE]; rw [okEB] at h; exact ⟨okEB_ok hf d (ba' h).1, okEB_ok hf k (ba' (ba' h).2).1, okEB_ok hf x (ba' (ba' h).2).2⟩
  | .zipl a b, h => by rw [okE]; rw [okEB] at h; exact ⟨okEB_ok hf a (ba' h).1, okEB_ok hf b (ba' h).2⟩
  | .gin _ a, h => by rw [okE]; rw [okEB] at h; exact okEB_ok hf a h
  | .gidx _ a, h => by rw [okE]; rw [okEB] at h; exact okEB_ok hf a h
  | .gdict _, h => by rw [okE]; trivial
  | .tupd es, h => by rw [okE]; rw [okEB] at h; exact okAB_ok hf es h
  | .lstd es, h => by rw [okE]; rw [okEB] at h; exact okAB_ok hf es h
  | .dctd ps, h => by rw [okE]; rw [okEB] at h; exact okPB_ok hf ps h
  | .call _ as, h => by rw [okE]; rw [okEB] at h; exact okAB_ok hf as h
  | .callv _ as, h => by rw [okE]; rw [okEB] at h; exact okAB_ok hf as h
  | .ncall _ as, h => by rw [okE]; rw [okEB] at h; exact okAB_ok hf as h
  | .comp e _ _ it c _, h => by rw [okE]; rw [okEB] at h; exact ⟨okEB_ok hf e (ba' h).1, okIB_ok hf it (ba' (ba' h).2).1, okTcB_ok hf c (ba' (ba' h).2).2⟩
  | .look e _ _ _ c _, h => by rw [okE]; rw [okEB] at h; exact ⟨okEB_ok hf e (ba' h).1, okTcB_ok hf c (ba' h).2⟩
  | .dcomp k v _ _ it _, h => by rw [okE]; rw [okEB] at h; exact ⟨okEB_ok hf k (ba' h).1, okEB_ok hf v (ba' (ba' h).2).1, okIB_ok hf it (ba' (ba' h).2).2⟩
  | .mu _ _ as, h => by rw [okE]; rw [okEB] at h; exact okAB_ok hf as h
  | .min2 a b, h => by rw [okE]; rw [okEB] at h; exact ⟨okEB_ok hf a (ba' h).1, okEB_ok hf b (ba' h).2⟩
  | .dupd _ a, h => by rw [okE]; rw [okEB] at h; exact okEB_ok hf a h
  | .mkx _ _ _ es ks _, h => by rw [okE]; rw [okEB] at h; exact ⟨okAB_ok hf es (ba' h).1, okAB_ok hf ks (ba' h).2⟩
  | .fld a _, h => by rw [okE]; rw [okEB] at h; exact okEB_ok hf a h
  | .isx a _, h => by rw [okE]; rw [okEB] at h; exact okEB_ok hf a h
theorem okToB_ok {ids : Nat → Bool} {fa : Nat → Option Addr} (hf : ∀ i, ids i = true → (fa i).isSome = true) : ∀ t : To, okToB ids t = true → okTo fa t
  | .no, h => by rw [okTo]; trivial
  | .yes a, h => by rw [okTo]; rw [okToB] at h; exact okEB_ok hf a h
theorem okTcB_ok {ids : Nat → Bool} {fa : Nat → Option Addr} (hf : ∀ i, ids i = true → (fa i).isSome = true) : ∀ t : To', okTcB ids t = true → okTc fa t
  | .no, h => by rw [okTc]; trivial
  | .yes c, h => by rw [okTc]; rw [okTcB] at h; exact okCB_ok hf c h
theorem okAB_ok {ids : Nat → Bool} {fa : Nat → Option Addr} (hf : ∀ i, ids i = true → (fa i).isSome = true) : ∀ t : Tms, okAB ids t = true → okA fa t
  | .nil, h => by rw [okA]; trivial
  | .cons a r, h => by rw [okA]; rw [okAB] at h; exact ⟨okEB_ok hf a (ba' h).1, okAB_ok hf r (ba' h).2⟩
  | .star a r, h => by rw [okA]; rw [okAB] at h; exact ⟨okEB_ok hf a (ba' h).1, okAB_ok hf r (ba' h).2⟩
theorem okPB_ok {ids : Nat → Bool} {fa : Nat → Option Addr} (hf : ∀ i, ids i = true → (fa i).isSome = true) : ∀ t : Tps, okPB ids t = true → okP fa t
  | .nil, h => by rw [okP]; trivial
  | .cons k v r, h => by rw [okP]; rw [okPB] at h; exact ⟨okEB_ok hf k (ba' h).1, okEB_ok hf v (ba' (ba' h).2).1, okPB_ok hf r (ba' (ba' h).2).2⟩
theorem okIB_ok {ids : Nat → Bool} {fa : Nat → Option Addr} (hf : ∀ i, ids i = true → (fa i).isSome = true) : ∀ t : It, okIB ids t = true → okI fa t
  | .seq a, h => by rw [okI]; rw [okIB] at h; exact okEB_ok hf a h
  | .rng1 a, h => by rw [okI]; rw [okIB] at h; exact okEB_ok hf a h
  | .rng2 a b, h => by rw [okI]; rw [okIB] at h; exact ⟨okEB_ok hf a (ba' h).1, okEB_ok hf b (ba' h).2⟩
  | .enum a, h => by rw [okI]; rw [okIB] at h; exact okEB_ok hf a h
  | .zip a b, h => by rw [okI]; rw [okIB] at h; exact ⟨okEB_ok hf a (ba' h).1, okEB_ok hf b (ba' h).2⟩
theorem okCB_ok {ids : Nat → Bool} {fa : Nat → Option Addr} (hf : ∀ i, ids i = true → (fa i).isSome = true) : ∀ t : Ct, okCB ids t = true → okC fa t
  | .val a, h => by rw [okC]; rw [okCB] at h; exact okEB_ok hf a h
  | .cmp a, h => by rw [okC]; rw [okCB] at h; exact okEB_ok hf a h
  | .and a b, h => by rw [okC]; rw [okCB] at h; exact ⟨okCB_ok hf a (ba' h).1, okCB_ok hf b (ba' h).2⟩
  | .or a b, h => by rw [okC]; rw [okCB] at h; exact ⟨okCB_ok hf a (ba' h).1, okCB_ok hf b (ba' h).2⟩
  | .not a, h => by rw [okC]; rw [okCB] at h; exact okCB_ok hf a h
end
mutual
def okSB (ids : Nat → Bool) : Sm → Bool
  | .asg _ a => okEB ids a
  | .unp _ a => okEB ids a
  | .par is es => (decide (is.length ≤ sizeLine) && okAB ids es)
  | .setk _ k v => (okEB ids k && okEB ids v)
  | .aug _ a => okEB ids a
  | .ifs c a b => (okCB ids c && (okSsB ids a && okSsB ids b))
  | .fors _ _ it b => (okIB ids it && okSsB ids b)
  | .whiles c b => (okCB ids c && okSsB ids b)
  | .ret a => okEB ids a
  | .retn => true
  | .expr a => okEB ids a
  | .pass => true
  | .brk => true
  | .cont => true
  | .rais _ _ => true
def okSsB (ids : Nat → Bool) : Sms → Bool
  | .nil => true
  | .cons s r => (okSB ids s && okSsB ids r)
end
mutual
theorem okSB_ok {ids : Nat → Bool} {fa : Nat → Option Addr} (hf : ∀ i, ids i = true → (fa i).isSome = true) : ∀ t : Sm, okSB ids t = true → okS fa t
  | .asg _ a, h => by rw [okS]; rw [okSB] at h; exact okEB_ok hf a h
  | .unp _ a, h => by rw [okS]; rw [okSB] at h; exact okEB_ok hf a h
  | .par is es, h => by rw [okS]; rw [okSB] at h; exact ⟨of_decide_eq_true (ba' h).1, okAB_ok hf es (ba' h).2⟩
  | .setk _ k v, h => by rw [okS]; rw [okSB] at h; exact ⟨okEB_ok hf k (ba' h).1, okEB_ok hf v (ba' h).2⟩
  | .aug _ a, h => by rw [okS]; rw [okSB] at h; exact okEB_ok hf a h
  | .ifs c a b, h => by rw [okS]; rw [okSB] at h; exact ⟨okCB_ok hf c (ba' h).1, okSsB_ok hf a (ba' (ba' h).2).1, okSsB_ok hf b (ba' (ba' h).2).2⟩
  | .fors _ _ it b, h => by rw [okS]; rw [okSB] at h; exact ⟨okIB_ok hf it (ba' h).1, okSsB_ok hf b (ba' h).2⟩
  | .whiles c b, h => by rw [okS]; rw [okSB] at h; exact ⟨okCB_ok hf c (ba' h).1, okSsB_ok hf b (ba' h).2⟩
  | .ret a, h => by rw [okS]; rw [okSB] at h; exact okEB_ok hf a h
  | .retn, h => by rw [okS]; trivial
  | .expr a, h => by rw [okS]; rw [okSB] at h; exact okEB_ok hf a h
  | .pass, h => by rw [okS]; trivial
  | .brk, h => by rw [okS]; trivial
  | .cont, h => by rw [okS]; trivial
  | .rais _ _, h => by rw [okS]; trivial
theorem okSsB_ok {ids : Nat → Bool} {fa : Nat → Option Addr} (hf : ∀ i, ids i = true → (fa i).isSome = true) : ∀ t : Sms, okSsB ids t = true → okSs fa t
  | .nil, h => by rw [okSs]; trivial
  | .cons s r, h => by rw [okSs]; rw [okSsB] at h; exact ⟨okSB_ok hf s (ba' h).1, okSsB_ok hf r (ba' h).2⟩
end
end Ev
/-! Lw: a law's data, what is looked up of it behind the top, its end. -/
namespace Ev
open PySem PySem.Spec PyProof.Rows L2 RZ StX
/-! ### the Hook: what the module's names reach, and the statics -/
structure SaysY (fa : List He.Fa) (fn : List He.DefD) (ts : List He.Tab) (ex : PySem.W.Frag → Bool) (w : World) (K : PySem.W.Frag) : Prop where
  t : He.SaysT fa fn ts w K
  more : ex K = true
def frY (g : Addr → Option Obj) (n : Nat) : PySem.W.Frag := He.frT g (cStatics :: He.asD g n)
abbrev AlY : Type := He.AlT × Bool
def obsY (n : Nat) (fa : List He.Fa) (fn : List He.DefD) (ts : List He.Tab) (ex : PySem.W.Frag → Bool) (g : Addr → Option Obj) : AlY := (fun K => (He.obsT fa fn ts K, ex K)) (frY g n)
def hookY (n : Nat) (fa : List He.Fa) (fn : List He.DefD) (ts : List He.Tab) (ex : PySem.W.Frag → Bool) : PySem.W.Hook where
  α := AlY
  obs := fun s => obsY n fa fn ts ex s.heap.get?
  val := fun w => (He.valT fn ts w, true)
  says := fun w h => ∃ K : PySem.W.Frag, K.In h ∧ SaysY fa fn ts ex w K
  of := fun _ _ e => ⟨_, He.frT_in, congrArg (fun z : AlY => z.1) e, congrArg (fun z : AlY => z.2) e⟩
  keeps := fun _ _ _ ⟨K, hK, c⟩ k => ⟨K, PySem.W.Frag.In.keeps hK k, c⟩
theorem obsY_eq {n : Nat} {fa : List He.Fa} {fn : List He.DefD} {ts : List He.Tab} {ex : PySem.W.Frag → Bool} {g : Addr → Option Obj} {s : Shared} (h : ∀ a, g a = s.heap.get? a) : obsY n fa fn ts ex g = (hookY n fa fn ts ex).obs s := by
  have e : g = s.heap.get? := funext h
  rw [e] <;> rfl
structure Law where
  tb : Tb
  dfl : List (Nat × Df)
  ext : List He.DefD
  gcs : List D
  gds : List (List (Key × D))
  gdn : List Str
  ers : List (Nat × Xc.Er) := []
  isn : List (Nat × (Str × Option String)) := []
  isa : List ((Nat × Nat) × Bool) := []
namespace Law
def dfs (l : Law) (i : Nat) : Option Df := l.dfl.lookup i
def pg (l : Law) : Pg := { gc := l.gcs, gd := l.gds, keeps := fun f => match l.dfs f with | some x => x.d.keep | none => 0, ec := fun c => (l.ers.lookup c).map (·.fs), isa := fun k c => l.isa.lookup (k, c) }
def nm (l : Law) : List (Nat × Str) := l.tb.fns.map fun p => (p.2, p.1)
def ddOf (x : Df) : He.DefD := ⟨(x.nm, none), x.nm, x.nm, x.params, x.body, x.scope, [], []⟩
def fn (l : Law) : List He.DefD := (l.dfl.map fun p => ddOf p.2) ++ (l.ext ++ l.ers.map fun p => p.2.dd)
def xfa (l : Law) : List He.Fa := (l.ers.map fun p => .glo p.2.cn) ++ (l.isn.filterMap fun p => match p.2.2 with
  | none => some (.glo p.2.1)
  | some _ => none)
def fa (l : Law) : List He.Fa := (l.tb.fns.map fun p => .glo p.1) ++ ((l.gdn.map .glo) ++ ((l.tb.cls.map fun p => .glo p.1.1) ++ (l.tb.free.map .free ++ l.xfa)))
def keyS : Key → Str
  | .inr x => x
  | .inl _ => ⟨#[]⟩
def ts (l : Law) : List He.Tab := (l.gdn.zip l.gds).map fun p => (fun K => He.ga K p.1, p.2.map fun kv => keyS kv.1)
def gcB (K : PySem.W.Frag) (l : Law) (p : Str × Nat) : Bool := match PySem.W.nsIn K mainGlobals p.1, l.gcs[p.2]? with
  | some (some u), some d => flatD d && wB K d u
  | _, _ => false
def clB (K : PySem.W.Frag) (l : Law) (p : (Str × Str) × Nat) : Bool := match l.gcs[p.2]? with
  | some d => cvlB K p.1.1 p.1.2 d
  | _ => false
def clns (l : Law) : List Str := (l.tb.cls.map fun p => p.1.1).eraseDups
def isB (K : PySem.W.Frag) (l : Law) (p : (Nat × Nat) × Bool) : Bool := match l.ers.lookup p.1.1, l.isn.lookup p.1.2 with
  | some e, some q => decide (PySem.W.kitOne K (.ref (He.ga K e.cn)) (Xc.ctU K q) = some p.2)
  | _, _ => false
def ex2 (l : Law) (K : PySem.W.Frag) : Bool := (l.ers.all fun p => Xc.erB K p.2) && l.isa.all (isB K l)
def ex (l : Law) (K : PySem.W.Frag) : Bool := ex2 l K && ((l.tb.gcs.all (gcB K l)) && (((l.gdn.zip l.gds).all fun p => dcB K (He.ga K p.1) p.2) && ((l.clns.all (clsB K)) && l.tb.cls.all (clB K l))))
/-- what is seen of the data alone -/
structure Good (l : Law) : Prop where
  nm : ∀ p ∈ l.tb.fns, l.nm.lookup p.2 = some p.1
  at_ : ∀ p ∈ l.nm, (p.2, (none : Option Str)) ∈ l.fn.map (·.at_)
  df : ∀ p ∈ l.dfl, l.nm.lookup p.1 = some p.2.nm
  gd : ∀ p ∈ l.tb.gds, l.gdn[p.2]? = some p.1
  gl : l.gdn.length = l.gds.length
  flat : l.gcs.all flatD = true
  ok : ∀ p ∈ l.dfl, okSsB (fun i => (l.nm.lookup i).isSome) p.2.d.body = true
  cls : ∀ p ∈ l.tb.cls, p.1.1 ∈ l.clns
  ers : ∀ p ∈ l.tb.ers, ∃ e, l.ers.lookup p.2 = some e ∧ e.cn = p.1
  ist : ∀ p ∈ l.tb.ises, ∃ o, l.isn.lookup p.2 = some (p.1, o) ∧ ∀ B, o = some B → p.1 ∈ l.tb.free ∧ bootBuiltins p.1 = some (.type B) ∧ p.1 ≠ "__name__"
  erf : ∀ p ∈ l.ers, p.2.bk.d.Bs ∈ l.tb.free
def ersB (l : Law) (p : Str × Nat) : Bool := match l.ers.lookup p.2 with
  | some e => decide (e.cn = p.1)
  | none => false
def istB (l : Law) (p : Str × Nat) : Bool := match l.isn.lookup p.2 with
  | some (x, o) => decide (x = p.1) && (match o with
    | some B => decide (p.1 ∈ l.tb.free) && (decide (bootBuiltins p.1 = some (.type B)) && decide (p.1 ≠ "__name__"))
    | none => true)
  | none => false
def goodB2 (l : Law) : Bool := l.tb.ers.all (ersB l) && (l.tb.ises.all (istB l) && l.ers.all fun p => decide (p.2.bk.d.Bs ∈ l.tb.free))
def goodB (l : Law) : Bool := goodB2 l && ((l.tb.fns.all fun p => decide (l.nm.lookup p.2 = some p.1)) && ((l.nm.all fun p => (l.fn.map (·.at_)).contains (p.2, (none : Option Str))) && ((l.dfl.all fun p => decide (l.nm.lookup p.1 = some p.2.nm)) && ((l.tb.gds.all fun p => decide (l.gdn[p.2]? = some p.1)) && (decide (l.gdn.length = l.gds.length) && (l.gcs.all flatD && ((l.dfl.all fun p => okSsB (fun i => (l.nm.lookup i).isSome) p.2.d.body) && l.tb.cls.all fun p => decide (p.1.1 ∈ l.clns))))))))
theorem good_of {l : Law} (h : l.goodB = true) : l.Good := by
  unfold goodB at h
  obtain ⟨h0, h⟩ := ba' h
  unfold goodB2 at h0
  obtain ⟨k1, h0⟩ := ba' h0
  obtain ⟨k2, k3⟩ := ba' h0
  obtain ⟨h1, h⟩ := ba' h
  obtain ⟨h2, h⟩ := ba' h
  obtain ⟨h3, h⟩ := ba' h
  obtain ⟨h4, h⟩ := ba' h
  obtain ⟨h5, h⟩ := ba' h
  obtain ⟨h6, h⟩ := ba' h
  obtain ⟨h7, h8⟩ := ba' h
  refine ⟨fun p m => of_decide_eq_true (List.all_eq_true.mp h1 p m), fun p m => List.contains_iff_mem.mp (List.all_eq_true.mp h2 p m), fun p m => of_decide_eq_true (List.all_eq_true.mp h3 p m), fun p m => of_decide_eq_true (List.all_eq_true.mp h4 p m), of_decide_eq_true h5, h6, fun p m => List.all_eq_true.mp h7 p m, fun p m => of_decide_eq_true (List.all_eq_true.mp h8 p m), fun p m => ?_, fun p m => ?_, fun p m => of_decide_eq_true (List.all_eq_true.mp k3 p m)⟩
  · have o := List.all_eq_true.mp k1 p m
    unfold ersB at o
    split at o
    · rename_i e he
      exact ⟨e, he, of_decide_eq_true o⟩
    · cases o
  · have o := List.all_eq_true.mp k2 p m
    unfold istB at o
    split at o
    · rename_i x b he
      obtain ⟨o1, o2⟩ := ba' o
      obtain rfl := of_decide_eq_true o1
      refine ⟨b, he, fun B eb => ?_⟩
      subst eb
      obtain ⟨o3, o4⟩ := ba' o2
      obtain ⟨o5, o6⟩ := ba' o4
      exact ⟨of_decide_eq_true o3, of_decide_eq_true o5, of_decide_eq_true o6⟩
    · cases o
def dn (l : Law) (K : PySem.W.Frag) (w : World) : Dn where
  g := ⟨K, fun i => (l.nm.lookup i).map (He.ga K), fun c => (l.ers.lookup c).map fun e => He.ga K e.cn⟩
  sp := fun _ _ _ _ _ => False
  w := w
  gcv := fun i => match l.gcs[i]? with | some d => cV d | none => .non
  gda := fun i => match l.gdn[i]? with | some n => He.ga K n | none => 0
  gdw := fun i => match l.gdn[i]? with | some n => entsV (esAt K (He.ga K n)) | none => []
  ef := fun c => match l.ers.lookup c with | some e => e.fs | none => []
  ct := fun i => match l.isn.lookup i with | some p => Xc.ctV K p | none => .non
def Ers (l : Law) : Prop := ∀ p ∈ l.ers, Xc.ErOk p.2 ∧ ∀ n ks pm, (p.1, n, ks, pm) ∈ l.tb.kws → Xc.KwB p.2.fs "__init__" p.2.qual p.2.params p.2.body p.2.scope n ks pm
theorem lookup_mem' {α β : Type} [BEq α] [LawfulBEq α] {a : α} {b : β} : ∀ {l : List (α × β)}, l.lookup a = some b → (a, b) ∈ l
  | [], h => by cases h
  | (c, d) :: r, h => by
    rw [List.lookup_cons] at h
    split at h
    · rename_i e
      rw [Option.some.inj h, eq_of_beq e]
      exact List.mem_cons_self ..
    · exact List.mem_cons_of_mem _ (lookup_mem' h)
theorem su {l : Law} (good : l.Good) (hE : l.Ers) (hD : ∀ p ∈ l.dfl, DfOk l.tb p.2) {P : Program} {w : World} {K : PySem.W.Frag} {h : Heap} {mg : Str → Option Value} (KX : K.In h) (G : h.Ns mainGlobals mg) (c' : SaysY l.fa l.fn l.ts l.ex w K) :
    Su l.tb l.pg l.dfs (l.dn K w) P w K mg := by
  have glo : ∀ {x : Str}, He.Fa.glo x ∈ l.fa → mg x = some (.ref (He.ga K x)) := fun m => He.glo_ok KX G (c'.t.d.facts m)
  obtain ⟨x0, hx⟩ := ba' (show (ex2 l K && _) = true from c'.more)
  obtain ⟨y1, y2⟩ := ba' x0
  obtain ⟨x1, hx⟩ := ba' (show (l.tb.gcs.all (gcB K l) && (((l.gdn.zip l.gds).all fun p => dcB K (He.ga K p.1) p.2) && ((l.clns.all (clsB K)) && l.tb.cls.all (clB K l)))) = true from hx)
  obtain ⟨x2, hx⟩ := ba' hx
  obtain ⟨x3, x4⟩ := ba' hx
  have dict : ∀ i kvs, l.gds[i]? = some kvs → ∃ n, l.gdn[i]? = some n ∧ (∃ es m, KDict K w (He.ga K n) es m) ∧ dcB K (He.ga K n) kvs = true := fun i kvs hi => by
    have lt := (List.getElem?_eq_some_iff.mp hi).1
    rw [← good.gl] at lt
    refine ⟨l.gdn[i], List.getElem?_eq_getElem lt, ?_, ?_⟩
    · have hz : (l.gdn.zip l.gds)[i]? = some (l.gdn[i], kvs) := by
        rw [List.getElem?_zip_eq_some]
        exact ⟨List.getElem?_eq_getElem lt, hi⟩
      have ht : l.ts[i]? = some (fun K => He.ga K l.gdn[i], kvs.map fun kv => keyS kv.1) := by
        unfold ts
        rw [List.getElem?_map, hz]
        rfl
      exact c'.t.tab i ht
    · have hz : (l.gdn.zip l.gds)[i]? = some (l.gdn[i], kvs) := by
        rw [List.getElem?_zip_eq_some]
        exact ⟨List.getElem?_eq_getElem lt, hi⟩
      exact List.all_eq_true.mp x2 _ (List.mem_of_getElem? hz)
  have gda : ∀ {i n}, l.gdn[i]? = some n → (l.dn K w).gda i = He.ga K n := fun {i n} e => by
    show (match l.gdn[i]? with | some n => He.ga K n | none => 0) = _
    rw [e]
  have gdw : ∀ {i n}, l.gdn[i]? = some n → (l.dn K w).gdw i = entsV (esAt K (He.ga K n)) := fun {i n} e => by
    show (match l.gdn[i]? with | some n => entsV (esAt K (He.ga K n)) | none => []) = _
    rw [e]
  have gcv : ∀ {i d}, l.gcs[i]? = some d → (l.dn K w).gcv i = cV d := fun {i d} e => by
    show (match l.gcs[i]? with | some d => cV d | none => .non) = _
    rw [e]
  refine ⟨rfl, rfl, ⟨fun i d hi => ⟨List.all_eq_true.mp good.flat d (List.mem_of_getElem? hi), gcv hi⟩, fun i kvs z hi => ?_, fun i kvs z d hi hv => ?_, fun i kvs hi F H => ?_, fun c fs hc => ?_, fun c C hc => ?_, fun k c b C hb hk => ?_⟩, fun i a hi => ?_, fun i x hi => ?_, fun x i hi => ?_, fun x i hi => ?_, fun x i hi => ?_, fun C f i hi => ?_, fun x m => ?_, fun x c hx => ?_, fun x c hx => ?_⟩
  · obtain ⟨n, hn, ⟨es, m, D0⟩, hd⟩ := dict i kvs hi
    rw [gda hn]
    exact (dc_ok D0 hd).1 z
  · obtain ⟨n, hn, ⟨es, m, D0⟩, hd⟩ := dict i kvs hi
    rw [gda hn]
    obtain ⟨v, k1, k2⟩ := (dc_ok D0 hd).2.1 z d hv
    exact ⟨v, k1, fun F H => k2 _ F H rfl⟩
  · obtain ⟨n, hn, ⟨es, m, D0⟩, hd⟩ := dict i kvs hi
    rw [gdw hn]
    exact (dc_ok D0 hd).2.2.1 _ F H rfl
  · have hc' : (l.ers.lookup c).map (·.fs) = some fs := hc
    cases he : l.ers.lookup c with
    | none => rw [he] at hc'; cases hc'
    | some e =>
      rw [he] at hc'
      obtain rfl := Option.some.inj hc'
      refine ⟨?_, He.ga K e.cn, ?_, (Xc.erB_exc (List.all_eq_true.mp y1 _ (lookup_mem' he))).2⟩
      · show (match l.ers.lookup c with | some e => e.fs | none => []) = _
        rw [he]
      · show (l.ers.lookup c).map (fun e => He.ga K e.cn) = _
        rw [he]
        rfl
  · have hc' : (l.ers.lookup c).map (fun e => He.ga K e.cn) = some C := hc
    cases he : l.ers.lookup c with
    | none => rw [he] at hc'; cases hc'
    | some e =>
      rw [he] at hc'
      obtain rfl : He.ga K e.cn = C := Option.some.inj hc'
      exact (Xc.erB_exc (List.all_eq_true.mp y1 _ (lookup_mem' he))).1
  · have hb' : l.isa.lookup (k, c) = some b := hb
    have o := List.all_eq_true.mp y2 _ (lookup_mem' hb')
    have hk' : (l.ers.lookup k).map (fun e => He.ga K e.cn) = some C := hk
    unfold isB at o
    split at o
    · rename_i e q e1 e2
      simp only at e1 e2
      rw [e1] at hk'
      obtain rfl : He.ga K e.cn = C := Option.some.inj hk'
      refine ⟨Xc.ctU K q, fun u hu => ?_, of_decide_eq_true o⟩
      have hu : RelV (match l.isn.lookup c with | some p => Xc.ctV K p | none => .non) u := hu
      rw [e2] at hu
      exact Xc.ct_rel.2 u hu
    · cases o
  · have hi' : (l.nm.lookup i).map (He.ga K) = some a := hi
    cases hn : l.nm.lookup i with
    | none => rw [hn] at hi'; cases hi'
    | some x =>
      rw [hn] at hi'
      obtain rfl : He.ga K x = a := Option.some.inj hi'
      have m := good.at_ _ (lookup_mem' hn)
      obtain ⟨dd, md, ed⟩ := List.mem_map.mp m
      have kp : PySem.W.keepIn K (.ref (He.ga K x)) = true := by
        have c2 := (ba' (show ((l.fa.all fun f => f.ok K) && l.fn.all fun d => d.ok K) = true from congrArg (fun z : He.AlD => z.1) c'.t.d)).2
        have o := (ba' (show (PySem.W.keepIn K (.ref (He.fAd K dd.at_)) && _) = true from List.all_eq_true.mp c2 dd md)).1
        rw [ed] at o
        exact o
      refine ⟨kp, fun y hy => ?_⟩
      have my := lookup_mem' (show l.dfl.lookup i = some y from hy)
      have en := good.df _ my
      simp only at en
      rw [hn] at en
      obtain rfl := Option.some.inj en
      exact c'.t.d.defs (d := ddOf y) (List.mem_append_left _ (List.mem_map.mpr ⟨_, my, rfl⟩))
  · have my := lookup_mem' (show l.dfl.lookup i = some x from hi)
    refine ⟨hD _ my, okSsB_ok (ids := fun i => (l.nm.lookup i).isSome) (fun j hj => ?_) _ (good.ok _ my), ?_⟩
    · show ((l.nm.lookup j).map (He.ga K)).isSome = true
      rw [Option.isSome_map]
      exact hj
    · show (match l.dfs i with | some x => x.d.keep | none => 0) = _
      rw [hi]
  · have m := lookup_mem' hi
    refine ⟨He.ga K x, glo (List.mem_append_left _ (List.mem_map.mpr ⟨_, m, rfl⟩)), ?_⟩
    show (l.nm.lookup i).map (He.ga K) = _
    rw [good.nm _ m]
    rfl
  · have m := lookup_mem' hi
    have o := List.all_eq_true.mp x1 _ m
    unfold gcB at o
    simp only at o
    split at o
    · rename_i u d e1 e2
      obtain ⟨o1, o2⟩ := ba' o
      refine ⟨u, PySem.W.mg_of KX G e1, ?_⟩
      rw [gcv e2, ← uV_cV o1 o2]
      exact (wB_ok d u o2).1
    · cases o
  · have m := lookup_mem' hi
    have e := good.gd _ m
    simp only at e
    have lt := (List.getElem?_eq_some_iff.mp e).1
    rw [good.gl] at lt
    obtain ⟨n, hn, hk, hd⟩ := dict i _ (List.getElem?_eq_getElem lt)
    rw [e] at hn
    obtain rfl := Option.some.inj hn
    rw [gda e, gdw e]
    obtain ⟨es, k, D0⟩ := hk
    obtain ⟨_, _, _, d4, d5⟩ := dc_ok D0 hd
    obtain ⟨vs, d6, d7⟩ := d5 P
    exact ⟨glo (List.mem_append_right _ (List.mem_append_left _ (List.mem_map.mpr ⟨_, List.mem_of_getElem? e, rfl⟩))), ⟨es, k, D0⟩, d4, vs, d6, d7⟩
  · have m := lookup_mem' hi
    have o := List.all_eq_true.mp x4 _ m
    have oc := List.all_eq_true.mp x3 _ (good.cls _ m)
    unfold clB at o
    simp only at o
    split at o
    · rename_i d e1
      obtain ⟨u, hu⟩ := cvl_ok o
      refine ⟨He.ga K C, .type "type", u, glo (List.mem_append_right _ (List.mem_append_right _ (List.mem_append_left _ (List.mem_map.mpr ⟨_, m, rfl⟩)))), cls_okB oc, ?_⟩
      rw [gcv e1]
      exact hu
    · cases o
  · exact He.free_ok KX G (c'.t.d.facts (List.mem_append_right _ (List.mem_append_right _ (List.mem_append_right _ (List.mem_append_left _ (List.mem_map.mpr ⟨_, m, rfl⟩))))))
  · have m := lookup_mem' hx
    obtain ⟨e, he, hn⟩ := good.ers _ m
    simp only at he hn
    subst hn
    have me := lookup_mem' he
    have mg0 : mg e.cn = some (.ref (He.ga K e.cn)) := glo (List.mem_append_right _ (List.mem_append_right _ (List.mem_append_right _ (List.mem_append_right _ (List.mem_append_left _ (List.mem_map.mpr ⟨_, me, rfl⟩))))))
    obtain ⟨E, hb⟩ := hE _ me
    obtain ⟨fd, F⟩ := c'.t.d.defs (d := e.dd) (List.mem_append_right _ (List.mem_append_right _ (List.mem_map.mpr ⟨_, me, rfl⟩)))
    have mB := He.free_ok KX G (c'.t.d.facts (List.mem_append_right _ (List.mem_append_right _ (List.mem_append_right _ (List.mem_append_left _ (List.mem_map.mpr ⟨_, good.erf _ me, rfl⟩))))))
    have T := Xc.er_ei (mg := mg) E (List.all_eq_true.mp y1 _ me) F mB
    have ef : (l.dn K w).ef c = e.fs := by
      show (match l.ers.lookup c with | some e => e.fs | none => []) = _
      rw [he]
    refine ⟨He.ga K e.cn, ?_, mg0, _, _, _, _, _, _, _, _, fd, _, _, _, _, _, by rw [ef]; exact T, fun n ks pm hm => by rw [ef]; exact hb n ks pm hm⟩
    show (l.ers.lookup c).map (fun e => He.ga K e.cn) = _
    rw [he]
    rfl
  · have m := lookup_mem' hx
    obtain ⟨o, ho, hB⟩ := good.ist _ m
    simp only at ho hB
    have hct : (l.dn K w).ct c = Xc.ctV K (x, o) := by
      show (match l.isn.lookup c with | some p => Xc.ctV K p | none => .non) = _
      rw [ho]
    refine ⟨Xc.ctU K (x, o), by rw [hct]; exact Xc.ct_rel.1, ?_⟩
    cases o with
    | none => exact .inl (glo (List.mem_append_right _ (List.mem_append_right _ (List.mem_append_right _ (List.mem_append_right _ (List.mem_append_right _ (List.mem_filterMap.mpr ⟨_, lookup_mem' ho, rfl⟩)))))))
    | some B =>
      obtain ⟨h1, h2, h3⟩ := hB B rfl
      exact .inr ⟨He.free_ok KX G (c'.t.d.facts (List.mem_append_right _ (List.mem_append_right _ (List.mem_append_right _ (List.mem_append_left _ (List.mem_map.mpr ⟨_, h1, rfl⟩)))))), h2, h3⟩
/-- the law's end -/
theorem walk {l : Law} (good : l.Good) (hE : l.Ers) (hD : ∀ p ∈ l.dfl, DfOk l.tb p.2) {ol : PySem.W.OpenLaw} {m n wf k i : Nat} {q : Program} {loose : List Str} {XP : (Str → Option Value) → Heap → Prop} {d : DefRec}
    (hn : ol.most = some n) (hn2 : n ≤ sizeLine) (hdf : d.params.defaults = []) (hr : Room (k + 2) callerA) (hnm : l.nm.lookup i = some d.name)
    (hc : ∀ ns : List Int, ns.length ≤ n → ∃ o outs, callF l.pg (ftOf l.dfs) wf k i [fz (.scr ns)] = .ok (o, .bl true) outs) :
    PySem.W.WalkO q loose XP (hookY m l.fa l.fn l.ts l.ex).says ol.row.toRowW d [] (fun f vs => PySem.call f vs) := by
  refine Att.attach_call hn hdf fun w s₀ s₁ mg mb f o pm cd doc a vs ns G Y ho hd hcd hmg hobj hints hlen hg => ?_
  obtain ⟨K, KX, c⟩ := Y
  have S : Su l.tb l.pg l.dfs (l.dn K w) ol.prog w K mg := su good hE hD KX G.T.g c
  have hfi : (l.dn K w).g.fa i = some f := by
    have m := lookup_mem' hnm
    obtain ⟨p, mp, ep⟩ := List.mem_map.mp m
    have e : p.1 = d.name := congrArg Prod.snd ep
    have g1 := He.glo_ok KX G.T.g (c.t.d.facts (f := .glo d.name) (List.mem_append_left _ (List.mem_map.mpr ⟨p, mp, by rw [e]⟩)))
    rw [hmg] at g1
    have e2 : f = He.ga K d.name := Value.ref.inj (Option.some.inj g1)
    show (l.nm.lookup i).map (He.ga K) = _
    rw [hnm, e2]
    rfl
  obtain ⟨ob, outs, he⟩ := hc ns hlen
  exact law_callG KX G.T.g G.T.b G.T.builtins G.T.nolimit hg hobj hints (Nat.le_trans hlen hn2) hr (fun base => levels S wf base k i f hfi) fun H hO hS => law_sp S he hO hS
end Law
end Ev
section
namespace Ev.K98
open PySem L2
/-! the defs as terms -/
def d_law_pen : Fd := { np := 1, nn := 1, keep := 1, star := false, body := (.cons (.ret (.dctd (.cons (.cst (.str "cells")) (.bi .list (.slc (.var 0) .no (.yes (.cst (.int 63))))) (.cons (.cst (.str "used")) (.cst (.int 0)) (.cons (.cst (.str "left")) (.cst (.int 0)) .nil))))) .nil) }
def d_law_draw : Fd := { np := 2, nn := 6, keep := 2, star := false, body := (.cons (.ifs (.cmp (.cmp .gt (.idx (.var 0) (.cst (.str "left"))) (.cst (.int 0)))) (.cons (.asg 2 (.bin .mod (.bi .int (.idx (.var 0) (.cst (.str "left")))) (.var 1))) (.cons (.setk 0 (.cst (.str "left")) (.bin .fdiv (.idx (.var 0) (.cst (.str "left"))) (.var 1))) (.cons (.ret (.var 2)) .nil))) .nil) (.cons (.asg 3 (.idx (.var 0) (.cst (.str "used")))) (.cons (.setk 0 (.cst (.str "used")) (.bin .add (.var 3) (.cst (.int 1)))) (.cons (.asg 4 (.bin .add (.bin .mul (.cst (.int 59)) (.var 3)) (.cst (.int 17)))) (.cons (.ifs (.cmp (.cmp .ne (.idx (.var 0) (.cst (.str "cells"))) (.lstd .nil))) (.cons (.asg 4 (.idx (.idx (.var 0) (.cst (.str "cells"))) (.bin .mod (.bi .int (.var 3)) (.bi .len (.idx (.var 0) (.cst (.str "cells"))))))) .nil) .nil) (.cons (.ifs (.and (.cmp (.cmp .lt (.var 3) (.bi .len (.idx (.var 0) (.cst (.str "cells")))))) (.cmp (.cmp .ge (.bi .abs (.var 4)) (.bin .pow (.cst (.int 10)) (.cst (.int 18)))))) (.cons (.setk 0 (.cst (.str "left")) (.bin .fdiv (.bin .sub (.bi .abs (.var 4)) (.bin .pow (.cst (.int 10)) (.cst (.int 18)))) (.var 1))) (.cons (.ret (.bin .mod (.bin .sub (.bi .abs (.var 4)) (.bin .pow (.cst (.int 10)) (.cst (.int 18)))) (.var 1))) .nil)) .nil) (.cons (.asg 5 (.bin .mod (.bi .int (.bin .add (.bin .add (.bin .add (.bin .mul (.bin .mod (.bi .int (.var 4)) (.cst (.int 4294967279))) (.cst (.int 48271))) (.bin .mul (.bin .mul (.cst (.int 50021)) (.var 3)) (.var 3))) (.bin .mul (.cst (.int 69621)) (.var 3))) (.cst (.int 13)))) (.cst (.int 4294967231)))) (.cons (.asg 5 (.bin .mod (.bi .int (.bin .add (.bin .add (.bin .add (.bin .mul (.var 5) (.var 5)) (.bin .mul (.cst (.int 40692)) (.var 5))) (.bin .mul (.cst (.int 7)) (.var 3))) (.cst (.int 5)))) (.cst (.int 4294967197)))) (.cons (.ret (.bin .mod (.bi .int (.bin .fdiv (.bin .mod (.bi .int (.bin .mul (.var 5) (.bin .add (.var 5) (.cst (.int 16777259))))) (.cst (.int 4294967189))) (.cst (.int 32)))) (.var 1))) .nil))))))))) }
def d_law_pick : Fd := { np := 2, nn := 2, keep := 2, star := false, body := (.cons (.ret (.idx (.var 1) (.call 42 (.cons (.var 0) (.cons (.bi .len (.var 1)) .nil))))) .nil) }
def d_law_any_value : Fd := { np := 1, nn := 2, keep := 1, star := false, body := (.cons (.asg 1 (.lstd (.cons (.cst .non) (.cons (.cst (.bl true)) (.cons (.cst (.bl false)) (.cons (.cst (.int 0)) (.cons (.cst (.int 1)) (.cons (.neg (.cst (.int 1))) (.cons (.cst (.int 7)) (.cons (.bin .pow (.cst (.int 10)) (.cst (.int 40))) (.cons (.cst (.str "")) (.cons (.cst (.str "a")) (.cons (.cst (.str "main")) (.cons (.tupd .nil) (.cons (.tupd (.cons (.cst (.str "a")) .nil)) (.cons (.tupd (.cons (.cst (.str "main")) (.cons (.cst (.str "entry")) (.cons (.cst (.int 0)) .nil)))) (.cons (.lstd .nil) (.cons (.lstd (.cons (.cst (.str "x")) (.cons (.cst (.int 1)) .nil))) .nil)))))))))))))))))) (.cons (.ret (.call 43 (.cons (.var 0) (.cons (.bin .add (.var 1) (.lstd (.cons (.dctd .nil) (.cons (.dctd (.cons (.cst (.str "a")) (.cst (.int 1)) .nil)) (.cons (.tupd (.cons (.cst .non) (.cons (.tupd (.cons (.cst (.str "form")) .nil)) .nil))) (.cons (.lstd (.cons (.tupd (.cons (.cst (.str "num")) (.cons (.cst (.str "r")) (.cons (.cst (.int 1)) .nil)))) .nil)) .nil)))))) .nil)))) .nil)) }
def d_law_fields : Fd := { np := 2, nn := 3, keep := 2, star := false, body := (.cons (.asg 2 (.lstd (.cons (.fld (.mkx 0 1 0 (.cons (.var 0) .nil) .nil []) "reason") (.cons (.fld (.mkx 0 0 1 .nil (.cons (.var 0) .nil) [0]) "reason") .nil)))) (.cons (.asg 2 (.bin .add (.var 2) (.lstd (.cons (.fld (.mkx 1 1 0 (.cons (.var 0) .nil) .nil []) "value") (.cons (.fld (.mkx 1 0 1 .nil (.cons (.var 0) .nil) [0]) "value") .nil))))) (.cons (.asg 2 (.bin .add (.var 2) (.lstd (.cons (.fld (.mkx 2 1 0 (.cons (.var 0) .nil) .nil []) "value") (.cons (.fld (.mkx 2 0 1 .nil (.cons (.var 0) .nil) [0]) "value") .nil))))) (.cons (.asg 2 (.bin .add (.var 2) (.lstd (.cons (.fld (.mkx 7 1 0 (.cons (.var 0) .nil) .nil []) "value") (.cons (.fld (.mkx 7 0 1 .nil (.cons (.var 0) .nil) [0]) "value") .nil))))) (.cons (.asg 2 (.bin .add (.var 2) (.lstd (.cons (.fld (.mkx 8 1 0 (.cons (.var 0) .nil) .nil []) "value") (.cons (.fld (.mkx 8 0 1 .nil (.cons (.var 0) .nil) [0]) "value") .nil))))) (.cons (.asg 2 (.bin .add (.var 2) (.lstd (.cons (.fld (.mkx 9 1 0 (.cons (.var 0) .nil) .nil []) "value") (.cons (.fld (.mkx 9 0 1 .nil (.cons (.var 0) .nil) [0]) "value") .nil))))) (.cons (.asg 2 (.bin .add (.var 2) (.lstd (.cons (.fld (.mkx 11 1 0 (.cons (.var 0) .nil) .nil []) "index") (.cons (.fld (.mkx 11 0 1 .nil (.cons (.var 0) .nil) [0]) "index") .nil))))) (.cons (.asg 2 (.bin .add (.var 2) (.lstd (.cons (.fld (.mkx 12 1 0 (.cons (.var 0) .nil) .nil []) "value") (.cons (.fld (.mkx 12 0 1 .nil (.cons (.var 0) .nil) [0]) "value") .nil))))) (.cons (.asg 2 (.bin .add (.var 2) (.lstd (.cons (.fld (.mkx 6 2 0 (.cons (.var 0) (.cons (.var 1) .nil)) .nil []) "line") (.cons (.fld (.mkx 6 0 2 .nil (.cons (.var 1) (.cons (.var 0) .nil)) [1, 0]) "line") .nil))))) (.cons (.asg 2 (.bin .add (.var 2) (.lstd (.cons (.fld (.mkx 6 2 0 (.cons (.var 1) (.cons (.var 0) .nil)) .nil []) "word") (.cons (.fld (.mkx 6 0 2 .nil (.cons (.var 1) (.cons (.var 0) .nil)) [0, 1]) "word") .nil))))) (.cons (.asg 2 (.bin .add (.var 2) (.lstd (.cons (.fld (.mkx 3 1 0 (.cons (.var 0) .nil) .nil []) "value") (.cons (.fld (.mkx 3 0 1 .nil (.cons (.var 0) .nil) [0]) "value") .nil))))) (.cons (.asg 2 (.bin .add (.var 2) (.lstd (.cons (.fld (.mkx 4 1 0 (.cons (.var 0) .nil) .nil []) "value") (.cons (.fld (.mkx 4 0 1 .nil (.cons (.var 0) .nil) [0]) "value") .nil))))) (.cons (.asg 2 (.bin .add (.var 2) (.lstd (.cons (.fld (.mkx 5 1 0 (.cons (.var 0) .nil) .nil []) "place") (.cons (.fld (.mkx 5 0 1 .nil (.cons (.var 0) .nil) [0]) "place") .nil))))) (.cons (.ret (.bin .add (.var 2) (.lstd (.cons (.fld (.mkx 13 1 0 (.cons (.var 0) .nil) .nil []) "index") (.cons (.fld (.mkx 13 0 1 .nil (.cons (.var 0) .nil) [0]) "index") .nil))))) .nil)))))))))))))) }
def d_law_all_errors : Fd := { np := 1, nn := 2, keep := 1, star := false, body := (.cons (.asg 1 (.lstd (.cons (.mkx 0 1 0 (.cons (.var 0) .nil) .nil []) (.cons (.mkx 1 1 0 (.cons (.var 0) .nil) .nil []) (.cons (.mkx 2 1 0 (.cons (.var 0) .nil) .nil []) (.cons (.mkx 7 1 0 (.cons (.var 0) .nil) .nil []) (.cons (.mkx 8 1 0 (.cons (.var 0) .nil) .nil []) .nil))))))) (.cons (.asg 1 (.bin .add (.var 1) (.lstd (.cons (.mkx 9 1 0 (.cons (.var 0) .nil) .nil []) (.cons (.mkx 11 1 0 (.cons (.var 0) .nil) .nil []) (.cons (.mkx 12 1 0 (.cons (.var 0) .nil) .nil []) (.cons (.mkx 6 2 0 (.cons (.var 0) (.cons (.cst (.int 0)) .nil)) .nil []) (.cons (.mkx 10 0 0 .nil .nil []) .nil)))))))) (.cons (.ret (.bin .add (.var 1) (.lstd (.cons (.mkx 3 1 0 (.cons (.var 0) .nil) .nil []) (.cons (.mkx 4 1 0 (.cons (.var 0) .nil) .nil []) (.cons (.mkx 5 1 0 (.cons (.var 0) .nil) .nil []) (.cons (.mkx 13 1 0 (.cons (.var 0) .nil) .nil []) .nil))))))) .nil))) }
def d_law_classes : Fd := { np := 1, nn := 2, keep := 1, star := false, body := (.cons (.asg 1 (.lstd (.cons (.isx (.var 0) 0) (.cons (.isx (.var 0) 1) (.cons (.isx (.var 0) 2) .nil))))) (.cons (.asg 1 (.bin .add (.var 1) (.lstd (.cons (.isx (.var 0) 7) (.cons (.isx (.var 0) 8) (.cons (.isx (.var 0) 9) .nil)))))) (.cons (.asg 1 (.bin .add (.var 1) (.lstd (.cons (.isx (.var 0) 11) (.cons (.isx (.var 0) 12) (.cons (.isx (.var 0) 6) .nil)))))) (.cons (.asg 1 (.bin .add (.var 1) (.lstd (.cons (.isx (.var 0) 10) (.cons (.isx (.var 0) 3) (.cons (.isx (.var 0) 4) .nil)))))) (.cons (.ret (.bin .add (.var 1) (.lstd (.cons (.isx (.var 0) 5) (.cons (.isx (.var 0) 13) .nil))))) .nil))))) }
def d_law_wide_ones : Fd := { np := 1, nn := 2, keep := 1, star := false, body := (.cons (.asg 1 (.lstd (.cons (.isx (.var 0) 14) (.cons (.isx (.var 0) 15) (.cons (.isx (.var 0) 16) .nil))))) (.cons (.ret (.bin .add (.var 1) (.lstd (.cons (.isx (.var 0) 17) .nil)))) .nil)) }
def d_law_bounds : Fd := { np := 0, nn := 1, keep := 0, star := false, body := (.cons (.asg 0 (.lstd (.cons (.gl 0) (.cons (.gl 1) (.cons (.gl 2) (.cons (.gl 3) (.cons (.gl 4) .nil))))))) (.cons (.asg 0 (.bin .add (.var 0) (.lstd (.cons (.gl 5) (.cons (.gl 6) (.cons (.gl 7) (.cons (.gl 8) .nil))))))) (.cons (.ret (.bin .add (.var 0) (.lstd (.cons (.gl 9) (.cons (.gl 10) .nil))))) .nil))) }
def d_law : Fd := { np := 1, nn := 12, keep := 1, star := false, body := (.cons (.asg 1 (.call 41 (.cons (.var 0) .nil))) (.cons (.par [2, 3] (.cons (.lstd (.cons (.cst (.bl true)) (.cons (.cst (.bl false)) (.cons (.cst (.bl false)) (.cons (.cst (.bl false)) .nil))))) (.cons (.lstd (.cons (.cst (.bl false)) (.cons (.cst (.bl true)) (.cons (.cst (.bl true)) (.cons (.cst (.bl false)) .nil))))) .nil))) (.cons (.asg 4 (.bin .add (.bin .mul (.lstd (.cons (.var 2) .nil)) (.cst (.int 10))) (.lstd (.cons (.var 3) (.cons (.var 3) (.cons (.lstd (.cons (.cst (.bl false)) (.cons (.cst (.bl false)) (.cons (.cst (.bl true)) (.cons (.cst (.bl false)) .nil))))) (.cons (.lstd (.cons (.cst (.bl false)) (.cons (.cst (.bl false)) (.cons (.cst (.bl false)) (.cons (.cst (.bl true)) .nil))))) .nil))))))) (.cons (.fors [5] true (.rng1 (.cst (.int 3))) (.cons (.par [6, 7] (.cons (.call 126 (.cons (.var 1) .nil)) (.cons (.call 126 (.cons (.var 1) .nil)) .nil))) (.cons (.ifs (.cmp (.cmp .ne (.comp (.var 8) [8] true (.seq (.call 127 (.cons (.var 6) (.cons (.var 7) .nil)))) (.yes (.cmp (.cmp .ne (.bi .repr (.var 8)) (.bi .repr (.var 6))))) [8]) (.lstd .nil))) (.cons (.ret (.cst (.bl false))) .nil) .nil) (.cons (.asg 9 (.call 128 (.cons (.var 6) .nil))) (.cons (.ifs (.cmp (.cmp .ne (.comp (.call 130 (.cons (.var 8) .nil)) [8] true (.seq (.var 9)) .no [8]) (.var 4))) (.cons (.ret (.cst (.bl false))) .nil) .nil) (.cons (.fors [10] true (.rng1 (.bi .len (.var 9))) (.cons (.ifs (.cmp (.cmp .ne (.call 129 (.cons (.idx (.var 9) (.var 10)) .nil)) (.comp (.cmp .eq (.var 11) (.var 10)) [11] true (.rng1 (.bi .len (.var 9))) .no [11]))) (.cons (.ret (.cst (.bl false))) .nil) .nil) .nil)) .nil)))))) (.cons (.ret (.cmp .eq (.bi .repr (.call 131 .nil)) (.bi .repr (.lstd (.cons (.cst (.int 8)) (.cons (.cst (.int 6)) (.cons (.cst (.int 8)) (.cons (.cst (.int 4)) (.cons (.cst (.int 12)) (.cons (.cst (.int 6)) (.cons (.cst (.int 40)) (.cons (.cst (.int 120)) (.cons (.cst (.int 60)) (.cons (.cst (.int 20000)) (.cons (.cst (.int 40)) .nil))))))))))))))) .nil))))) }
def gcs : List D := [(.int 8), (.int 6), (.int 8), (.int 4), (.int 12), (.int 6), (.int 40), (.int 120), (.int 60), (.int 20000), (.int 40)]
def gds : List (List (Key × D)) := []
end Ev.K98
end
section
set_option maxHeartbeats 0
namespace Ev.K98
open PySem PySem.Spec PyProof.Rows L2
def top (i : Nat) : Stmt := PySem.Challenge.pw_clobberwalk_k98_errors_and_limits.main.body.getD i (.Pass ⟨0, 0, 0, 0⟩)
def x_law_pen : Df := ⟨d_law_pen, ["_law_script"], ["_law_script"], "_law_pen", defArgs (top 18), defBody (top 18), defScope (top 18)⟩
def x_law_draw : Df := ⟨d_law_draw, ["_law_pen_here", "_law_many", "_law_digit", "_law_k", "_law_cell", "_law_mixed"], ["_law_pen_here", "_law_many"], "_law_draw", defArgs (top 19), defBody (top 19), defScope (top 19)⟩
def x_law_pick : Df := ⟨d_law_pick, ["_law_pen_here", "_law_options"], ["_law_pen_here", "_law_options"], "_law_pick", defArgs (top 20), defBody (top 20), defScope (top 20)⟩
def x_law_any_value : Df := ⟨d_law_any_value, ["_law_pen_here", "_law_some"], ["_law_pen_here"], "_law_any_value", defArgs (top 21), defBody (top 21), defScope (top 21)⟩
def x_law_fields : Df := ⟨d_law_fields, ["_law_thing", "_law_other", "_law_found"], ["_law_thing", "_law_other"], "_law_fields", defArgs (top 22), defBody (top 22), defScope (top 22)⟩
def x_law_all_errors : Df := ⟨d_law_all_errors, ["_law_thing", "_law_found"], ["_law_thing"], "_law_all_errors", defArgs (top 23), defBody (top 23), defScope (top 23)⟩
def x_law_classes : Df := ⟨d_law_classes, ["_law_own", "_law_found"], ["_law_own"], "_law_classes", defArgs (top 24), defBody (top 24), defScope (top 24)⟩
def x_law_wide_ones : Df := ⟨d_law_wide_ones, ["_law_own", "_law_found"], ["_law_own"], "_law_wide_ones", defArgs (top 25), defBody (top 25), defScope (top 25)⟩
def x_law_bounds : Df := ⟨d_law_bounds, ["_law_found"], [], "_law_bounds", defArgs (top 26), defBody (top 26), defScope (top 26)⟩
def x_law : Df := ⟨d_law, ["_law_script", "_law_pen_here", "_law_plain", "_law_named", "_law_due", "_law_turn", "_law_thing", "_law_other", "_law_own", "_law_some", "_law_k", "_law_at"], ["_law_script"], "law", defArgs (top 27), defBody (top 27), defScope (top 27)⟩
def fns0 : List (Str × Nat) := [((Str.ofString "_law_pen"), 41), ((Str.ofString "_law_draw"), 42), ((Str.ofString "_law_pick"), 43), ((Str.ofString "_law_any_value"), 126), ((Str.ofString "_law_fields"), 127), ((Str.ofString "_law_all_errors"), 128), ((Str.ofString "_law_classes"), 129), ((Str.ofString "_law_wide_ones"), 130), ((Str.ofString "_law_bounds"), 131), ((Str.ofString "law"), 50)]
def clsBody (s : Stmt) : List Stmt := match s with
  | .ClassDef _ _ _ b _ _ _ _ _ _ _ => b
  | _ => []
def ini (i : Nat) : Stmt := (clsBody (top i)).getD 0 (.Pass ⟨0, 0, 0, 0⟩)
def e0 : Xc.Er := ⟨"InvalidModule", ["reason"], .ve, "InvalidModule.__init__", defArgs (ini 1), defBody (ini 1), defScope (ini 1)⟩
def e1 : Xc.Er := ⟨"InvalidInputs", ["value"], .ve, "InvalidInputs.__init__", defArgs (ini 2), defBody (ini 2), defScope (ini 2)⟩
def e2 : Xc.Er := ⟨"InvalidNumber", ["value"], .ve, "InvalidNumber.__init__", defArgs (ini 3), defBody (ini 3), defScope (ini 3)⟩
def e3 : Xc.Er := ⟨"UnknownName", ["value"], .ke, "UnknownName.__init__", defArgs (ini 4), defBody (ini 4), defScope (ini 4)⟩
def e4 : Xc.Er := ⟨"UnknownPlace", ["value"], .ke, "UnknownPlace.__init__", defArgs (ini 5), defBody (ini 5), defScope (ini 5)⟩
def e5 : Xc.Er := ⟨"WrongPlace", ["place"], .le, "WrongPlace.__init__", defArgs (ini 6), defBody (ini 6), defScope (ini 6)⟩
def e6 : Xc.Er := ⟨"ParseError", ["line", "word"], .ve, "ParseError.__init__", defArgs (ini 7), defBody (ini 7), defScope (ini 7)⟩
def e7 : Xc.Er := ⟨"InvalidThings", ["value"], .ve, "InvalidThings.__init__", defArgs (ini 8), defBody (ini 8), defScope (ini 8)⟩
def e8 : Xc.Er := ⟨"InvalidView", ["value"], .ve, "InvalidView.__init__", defArgs (ini 9), defBody (ini 9), defScope (ini 9)⟩
def e9 : Xc.Er := ⟨"InvalidStep", ["value"], .ve, "InvalidStep.__init__", defArgs (ini 10), defBody (ini 10), defScope (ini 10)⟩
def e10 : Xc.Er := ⟨"WrongInputs", [], .ve, "WrongInputs.__init__", defArgs (ini 11), defBody (ini 11), defScope (ini 11)⟩
def e11 : Xc.Er := ⟨"InvalidEdit", ["index"], .ve, "InvalidEdit.__init__", defArgs (ini 12), defBody (ini 12), defScope (ini 12)⟩
def e12 : Xc.Er := ⟨"InvalidRow", ["value"], .ve, "InvalidRow.__init__", defArgs (ini 13), defBody (ini 13), defScope (ini 13)⟩
def e13 : Xc.Er := ⟨"Broken", ["index"], .re, "Broken.__init__", defArgs (ini 14), defBody (ini 14), defScope (ini 14)⟩
def kws : List (Nat × Nat × List Str × List Nat) := [(0, 0, [(Str.ofString "reason")], [0]), (0, 1, [], []), (1, 0, [(Str.ofString "value")], [0]), (1, 1, [], []), (2, 0, [(Str.ofString "value")], [0]), (2, 1, [], []), (3, 0, [(Str.ofString "value")], [0]), (3, 1, [], []), (4, 0, [(Str.ofString "value")], [0]), (4, 1, [], []), (5, 0, [(Str.ofString "place")], [0]), (5, 1, [], []), (6, 0, [(Str.ofString "line"), (Str.ofString "word")], [0, 1]), (6, 0, [(Str.ofString "word"), (Str.ofString "line")], [1, 0]), (6, 2, [], []), (7, 0, [(Str.ofString "value")], [0]), (7, 1, [], []), (8, 0, [(Str.ofString "value")], [0]), (8, 1, [], []), (9, 0, [(Str.ofString "value")], [0]), (9, 1, [], []), (10, 0, [], []), (11, 0, [(Str.ofString "index")], [0]), (11, 1, [], []), (12, 0, [(Str.ofString "value")], [0]), (12, 1, [], []), (13, 0, [(Str.ofString "index")], [0]), (13, 1, [], [])]
def isa0 : List ((Nat × Nat) × Bool) := [((0, 0), true), ((0, 1), false), ((0, 2), false), ((0, 3), false), ((0, 4), false), ((0, 5), false), ((0, 6), false), ((0, 7), false), ((0, 8), false), ((0, 9), false), ((0, 10), false), ((0, 11), false), ((0, 12), false), ((0, 13), false), ((0, 14), true), ((0, 15), false), ((0, 16), false), ((0, 17), false), ((1, 0), false), ((1, 1), true), ((1, 2), false), ((1, 3), false), ((1, 4), false), ((1, 5), false), ((1, 6), false), ((1, 7), false), ((1, 8), false), ((1, 9), false), ((1, 10), false), ((1, 11), false), ((1, 12), false), ((1, 13), false), ((1, 14), true), ((1, 15), false), ((1, 16), false), ((1, 17), false), ((2, 0), false), ((2, 1), false), ((2, 2), true), ((2, 3), false)]
def isa1 : List ((Nat × Nat) × Bool) := [((2, 4), false), ((2, 5), false), ((2, 6), false), ((2, 7), false), ((2, 8), false), ((2, 9), false), ((2, 10), false), ((2, 11), false), ((2, 12), false), ((2, 13), false), ((2, 14), true), ((2, 15), false), ((2, 16), false), ((2, 17), false), ((3, 0), false), ((3, 1), false), ((3, 2), false), ((3, 3), true), ((3, 4), false), ((3, 5), false), ((3, 6), false), ((3, 7), false), ((3, 8), false), ((3, 9), false), ((3, 10), false), ((3, 11), false), ((3, 12), false), ((3, 13), false), ((3, 14), false), ((3, 15), true), ((3, 16), true), ((3, 17), false), ((4, 0), false), ((4, 1), false), ((4, 2), false), ((4, 3), false), ((4, 4), true), ((4, 5), false), ((4, 6), false), ((4, 7), false)]
def isa2 : List ((Nat × Nat) × Bool) := [((4, 8), false), ((4, 9), false), ((4, 10), false), ((4, 11), false), ((4, 12), false), ((4, 13), false), ((4, 14), false), ((4, 15), true), ((4, 16), true), ((4, 17), false), ((5, 0), false), ((5, 1), false), ((5, 2), false), ((5, 3), false), ((5, 4), false), ((5, 5), true), ((5, 6), false), ((5, 7), false), ((5, 8), false), ((5, 9), false), ((5, 10), false), ((5, 11), false), ((5, 12), false), ((5, 13), false), ((5, 14), false), ((5, 15), false), ((5, 16), true), ((5, 17), false), ((6, 0), false), ((6, 1), false), ((6, 2), false), ((6, 3), false), ((6, 4), false), ((6, 5), false), ((6, 6), true), ((6, 7), false), ((6, 8), false), ((6, 9), false), ((6, 10), false), ((6, 11), false)]
def isa3 : List ((Nat × Nat) × Bool) := [((6, 12), false), ((6, 13), false), ((6, 14), true), ((6, 15), false), ((6, 16), false), ((6, 17), false), ((7, 0), false), ((7, 1), false), ((7, 2), false), ((7, 3), false), ((7, 4), false), ((7, 5), false), ((7, 6), false), ((7, 7), true), ((7, 8), false), ((7, 9), false), ((7, 10), false), ((7, 11), false), ((7, 12), false), ((7, 13), false), ((7, 14), true), ((7, 15), false), ((7, 16), false), ((7, 17), false), ((8, 0), false), ((8, 1), false), ((8, 2), false), ((8, 3), false), ((8, 4), false), ((8, 5), false), ((8, 6), false), ((8, 7), false), ((8, 8), true), ((8, 9), false), ((8, 10), false), ((8, 11), false), ((8, 12), false), ((8, 13), false), ((8, 14), true), ((8, 15), false)]
def isa4 : List ((Nat × Nat) × Bool) := [((8, 16), false), ((8, 17), false), ((9, 0), false), ((9, 1), false), ((9, 2), false), ((9, 3), false), ((9, 4), false), ((9, 5), false), ((9, 6), false), ((9, 7), false), ((9, 8), false), ((9, 9), true), ((9, 10), false), ((9, 11), false), ((9, 12), false), ((9, 13), false), ((9, 14), true), ((9, 15), false), ((9, 16), false), ((9, 17), false), ((10, 0), false), ((10, 1), false), ((10, 2), false), ((10, 3), false), ((10, 4), false), ((10, 5), false), ((10, 6), false), ((10, 7), false), ((10, 8), false), ((10, 9), false), ((10, 10), true), ((10, 11), false), ((10, 12), false), ((10, 13), false), ((10, 14), true), ((10, 15), false), ((10, 16), false), ((10, 17), false), ((11, 0), false), ((11, 1), false)]
def isa5 : List ((Nat × Nat) × Bool) := [((11, 2), false), ((11, 3), false), ((11, 4), false), ((11, 5), false), ((11, 6), false), ((11, 7), false), ((11, 8), false), ((11, 9), false), ((11, 10), false), ((11, 11), true), ((11, 12), false), ((11, 13), false), ((11, 14), true), ((11, 15), false), ((11, 16), false), ((11, 17), false), ((12, 0), false), ((12, 1), false), ((12, 2), false), ((12, 3), false), ((12, 4), false), ((12, 5), false), ((12, 6), false), ((12, 7), false), ((12, 8), false), ((12, 9), false), ((12, 10), false), ((12, 11), false), ((12, 12), true), ((12, 13), false), ((12, 14), true), ((12, 15), false), ((12, 16), false), ((12, 17), false), ((13, 0), false), ((13, 1), false), ((13, 2), false), ((13, 3), false), ((13, 4), false), ((13, 5), false)]
def isa6 : List ((Nat × Nat) × Bool) := [((13, 6), false), ((13, 7), false), ((13, 8), false), ((13, 9), false), ((13, 10), false), ((13, 11), false), ((13, 12), false), ((13, 13), true), ((13, 14), false), ((13, 15), false), ((13, 16), false), ((13, 17), true)]
def tb : Tb := ⟨fns0, [], [], [(((Str.ofString "Limits"), (Str.ofString "MOST_KINDS")), 0), (((Str.ofString "Limits"), (Str.ofString "MOST_FIELDS")), 1), (((Str.ofString "Limits"), (Str.ofString "MOST_FUNCTIONS")), 2), (((Str.ofString "Limits"), (Str.ofString "MOST_PARAMETERS")), 3), (((Str.ofString "Limits"), (Str.ofString "MOST_BLOCKS")), 4), (((Str.ofString "Limits"), (Str.ofString "MOST_BLOCK_PARAMETERS")), 5), (((Str.ofString "Limits"), (Str.ofString "MOST_INSTRUCTIONS")), 6), (((Str.ofString "Limits"), (Str.ofString "MOST_PLACES")), 7), (((Str.ofString "Limits"), (Str.ofString "MOST_ELEMENTS")), 8), (((Str.ofString "Limits"), (Str.ofString "MOST_STEPS")), 9), (((Str.ofString "Limits"), (Str.ofString "MOST_CALLS")), 10)], [(Str.ofString "len"), (Str.ofString "all"), (Str.ofString "any"), (Str.ofString "list"), (Str.ofString "tuple"), (Str.ofString "sorted"), (Str.ofString "int"), (Str.ofString "abs"), (Str.ofString "repr"), (Str.ofString "dict"), (Str.ofString "isinstance"), (Str.ofString "bool"), (Str.ofString "str"), (Str.ofString "range"), (Str.ofString "enumerate"), (Str.ofString "zip"), (Str.ofString "sum"), (Str.ofString "set"), (Str.ofString "min"), (Str.ofString "ValueError"), (Str.ofString "KeyError"), (Str.ofString "LookupError"), (Str.ofString "RuntimeError")], [((Str.ofString "InvalidModule"), 0), ((Str.ofString "InvalidInputs"), 1), ((Str.ofString "InvalidNumber"), 2), ((Str.ofString "UnknownName"), 3), ((Str.ofString "UnknownPlace"), 4), ((Str.ofString "WrongPlace"), 5), ((Str.ofString "ParseError"), 6), ((Str.ofString "InvalidThings"), 7), ((Str.ofString "InvalidView"), 8), ((Str.ofString "InvalidStep"), 9), ((Str.ofString "WrongInputs"), 10), ((Str.ofString "InvalidEdit"), 11), ((Str.ofString "InvalidRow"), 12), ((Str.ofString "Broken"), 13)], kws, [((Str.ofString "InvalidModule"), 0), ((Str.ofString "InvalidInputs"), 1), ((Str.ofString "InvalidNumber"), 2), ((Str.ofString "UnknownName"), 3), ((Str.ofString "UnknownPlace"), 4), ((Str.ofString "WrongPlace"), 5), ((Str.ofString "ParseError"), 6), ((Str.ofString "InvalidThings"), 7), ((Str.ofString "InvalidView"), 8), ((Str.ofString "InvalidStep"), 9), ((Str.ofString "WrongInputs"), 10), ((Str.ofString "InvalidEdit"), 11), ((Str.ofString "InvalidRow"), 12), ((Str.ofString "Broken"), 13), ((Str.ofString "ValueError"), 14), ((Str.ofString "KeyError"), 15), ((Str.ofString "LookupError"), 16), ((Str.ofString "RuntimeError"), 17)]⟩
def dfl0 : List (Nat × Df) := [(41, x_law_pen), (42, x_law_draw), (43, x_law_pick), (126, x_law_any_value), (127, x_law_fields), (128, x_law_all_errors), (129, x_law_classes), (130, x_law_wide_ones), (131, x_law_bounds), (50, x_law)]
def law : Law := ⟨tb, dfl0, [], gcs, gds, [], [(0, e0), (1, e1), (2, e2), (3, e3), (4, e4), (5, e5), (6, e6), (7, e7), (8, e8), (9, e9), (10, e10), (11, e11), (12, e12), (13, e13)], [(0, ((Str.ofString "InvalidModule"), none)), (1, ((Str.ofString "InvalidInputs"), none)), (2, ((Str.ofString "InvalidNumber"), none)), (3, ((Str.ofString "UnknownName"), none)), (4, ((Str.ofString "UnknownPlace"), none)), (5, ((Str.ofString "WrongPlace"), none)), (6, ((Str.ofString "ParseError"), none)), (7, ((Str.ofString "InvalidThings"), none)), (8, ((Str.ofString "InvalidView"), none)), (9, ((Str.ofString "InvalidStep"), none)), (10, ((Str.ofString "WrongInputs"), none)), (11, ((Str.ofString "InvalidEdit"), none)), (12, ((Str.ofString "InvalidRow"), none)), (13, ((Str.ofString "Broken"), none)), (14, ((Str.ofString "ValueError"), some "ValueError")), (15, ((Str.ofString "KeyError"), some "KeyError")), (16, ((Str.ofString "LookupError"), some "LookupError")), (17, ((Str.ofString "RuntimeError"), some "RuntimeError"))], isa0 ++ isa1 ++ isa2 ++ isa3 ++ isa4 ++ isa5 ++ isa6⟩
theorem ok_law_pen : DfOk tb x_law_pen := ⟨⟨rfl, rfl, rfl, by decide +kernel, rfl, by decide +kernel, by decide +kernel⟩, rfl, rfl, by decide, by kernel_rfl, fun _ _ _ _ _ _ us hl => match us, hl with | [_], _ => rfl⟩
theorem ok_law_draw : DfOk tb x_law_draw := ⟨⟨rfl, rfl, rfl, by decide +kernel, rfl, by decide +kernel, by decide +kernel⟩, rfl, rfl, by decide, by kernel_rfl, fun _ _ _ _ _ _ us hl => match us, hl with | [_, _], _ => rfl⟩
theorem ok_law_pick : DfOk tb x_law_pick := ⟨⟨rfl, rfl, rfl, by decide +kernel, rfl, by decide +kernel, by decide +kernel⟩, rfl, rfl, by decide, by kernel_rfl, fun _ _ _ _ _ _ us hl => match us, hl with | [_, _], _ => rfl⟩
theorem ok_law_any_value : DfOk tb x_law_any_value := ⟨⟨rfl, rfl, rfl, by decide +kernel, rfl, by decide +kernel, by decide +kernel⟩, rfl, rfl, by decide, by kernel_rfl, fun _ _ _ _ _ _ us hl => match us, hl with | [_], _ => rfl⟩
theorem ok_law_fields : DfOk tb x_law_fields := ⟨⟨rfl, rfl, rfl, by decide +kernel, rfl, by decide +kernel, by decide +kernel⟩, rfl, rfl, by decide, by kernel_rfl, fun _ _ _ _ _ _ us hl => match us, hl with | [_, _], _ => rfl⟩
theorem ok_law_all_errors : DfOk tb x_law_all_errors := ⟨⟨rfl, rfl, rfl, by decide +kernel, rfl, by decide +kernel, by decide +kernel⟩, rfl, rfl, by decide, by kernel_rfl, fun _ _ _ _ _ _ us hl => match us, hl with | [_], _ => rfl⟩
theorem ok_law_classes : DfOk tb x_law_classes := ⟨⟨rfl, rfl, rfl, by decide +kernel, rfl, by decide +kernel, by decide +kernel⟩, rfl, rfl, by decide, by kernel_rfl, fun _ _ _ _ _ _ us hl => match us, hl with | [_], _ => rfl⟩
theorem ok_law_wide_ones : DfOk tb x_law_wide_ones := ⟨⟨rfl, rfl, rfl, by decide +kernel, rfl, by decide +kernel, by decide +kernel⟩, rfl, rfl, by decide, by kernel_rfl, fun _ _ _ _ _ _ us hl => match us, hl with | [_], _ => rfl⟩
theorem ok_law_bounds : DfOk tb x_law_bounds := ⟨⟨rfl, rfl, rfl, by decide +kernel, rfl, by decide +kernel, by decide +kernel⟩, rfl, rfl, by decide, by kernel_rfl, fun _ _ _ _ _ _ us hl => match us, hl with | [], _ => rfl⟩
theorem ok_law : DfOk tb x_law := ⟨⟨rfl, rfl, rfl, by decide +kernel, rfl, by decide +kernel, by decide +kernel⟩, rfl, rfl, by decide, by kernel_rfl, fun _ _ _ _ _ _ us hl => match us, hl with | [_], _ => rfl⟩
theorem dfl_ok : ∀ p ∈ law.dfl, DfOk law.tb p.2 := by
  intro p h
  have h2 : p ∈ dfl0 := h
  simp only [dfl0, List.cons_append, List.nil_append, List.mem_cons, List.not_mem_nil, or_false] at h2
  rcases h2 with rfl | rfl | rfl | rfl | rfl | rfl | rfl | rfl | rfl | rfl
  · exact ok_law_pen
  · exact ok_law_draw
  · exact ok_law_pick
  · exact ok_law_any_value
  · exact ok_law_fields
  · exact ok_law_all_errors
  · exact ok_law_classes
  · exact ok_law_wide_ones
  · exact ok_law_bounds
  · exact ok_law
theorem eo0 : Xc.ErOk e0 := ⟨⟨rfl, rfl, rfl, by decide +kernel, rfl, by decide +kernel, by decide +kernel⟩, by kernel_rfl, by kernel_rfl, by decide, Xc.vis_of (by kernel_rfl)⟩
theorem eo1 : Xc.ErOk e1 := ⟨⟨rfl, rfl, rfl, by decide +kernel, rfl, by decide +kernel, by decide +kernel⟩, by kernel_rfl, by kernel_rfl, by decide, Xc.vis_of (by kernel_rfl)⟩
theorem eo2 : Xc.ErOk e2 := ⟨⟨rfl, rfl, rfl, by decide +kernel, rfl, by decide +kernel, by decide +kernel⟩, by kernel_rfl, by kernel_rfl, by decide, Xc.vis_of (by kernel_rfl)⟩
theorem eo3 : Xc.ErOk e3 := ⟨⟨rfl, rfl, rfl, by decide +kernel, rfl, by decide +kernel, by decide +kernel⟩, by kernel_rfl, by kernel_rfl, by decide, Xc.vis_of (by kernel_rfl)⟩
theorem eo4 : Xc.ErOk e4 := ⟨⟨rfl, rfl, rfl, by decide +kernel, rfl, by decide +kernel, by decide +kernel⟩, by kernel_rfl, by kernel_rfl, by decide, Xc.vis_of (by kernel_rfl)⟩
theorem eo5 : Xc.ErOk e5 := ⟨⟨rfl, rfl, rfl, by decide +kernel, rfl, by decide +kernel, by decide +kernel⟩, by kernel_rfl, by kernel_rfl, by decide, Xc.vis_of (by kernel_rfl)⟩
theorem eo6 : Xc.ErOk e6 := ⟨⟨rfl, rfl, rfl, by decide +kernel, rfl, by decide +kernel, by decide +kernel⟩, by kernel_rfl, by kernel_rfl, by decide, Xc.vis_of (by kernel_rfl)⟩
theorem eo7 : Xc.ErOk e7 := ⟨⟨rfl, rfl, rfl, by decide +kernel, rfl, by decide +kernel, by decide +kernel⟩, by kernel_rfl, by kernel_rfl, by decide, Xc.vis_of (by kernel_rfl)⟩
theorem eo8 : Xc.ErOk e8 := ⟨⟨rfl, rfl, rfl, by decide +kernel, rfl, by decide +kernel, by decide +kernel⟩, by kernel_rfl, by kernel_rfl, by decide, Xc.vis_of (by kernel_rfl)⟩
theorem eo9 : Xc.ErOk e9 := ⟨⟨rfl, rfl, rfl, by decide +kernel, rfl, by decide +kernel, by decide +kernel⟩, by kernel_rfl, by kernel_rfl, by decide, Xc.vis_of (by kernel_rfl)⟩
theorem eo10 : Xc.ErOk e10 := ⟨⟨rfl, rfl, rfl, by decide +kernel, rfl, by decide +kernel, by decide +kernel⟩, by kernel_rfl, by kernel_rfl, by decide, Xc.vis_of (by kernel_rfl)⟩
theorem eo11 : Xc.ErOk e11 := ⟨⟨rfl, rfl, rfl, by decide +kernel, rfl, by decide +kernel, by decide +kernel⟩, by kernel_rfl, by kernel_rfl, by decide, Xc.vis_of (by kernel_rfl)⟩
theorem eo12 : Xc.ErOk e12 := ⟨⟨rfl, rfl, rfl, by decide +kernel, rfl, by decide +kernel, by decide +kernel⟩, by kernel_rfl, by kernel_rfl, by decide, Xc.vis_of (by kernel_rfl)⟩
theorem eo13 : Xc.ErOk e13 := ⟨⟨rfl, rfl, rfl, by decide +kernel, rfl, by decide +kernel, by decide +kernel⟩, by kernel_rfl, by kernel_rfl, by decide, Xc.vis_of (by kernel_rfl)⟩
theorem kb0 : Xc.KwB e0.fs "__init__" e0.qual e0.params e0.body e0.scope 0 [(Str.ofString "reason")] [0] := fun _ _ _ _ _ _ _ us ws h1 h2 => match us, ws, h1, h2 with | [], [_], _, _ => rfl
theorem kb1 : Xc.KwB e0.fs "__init__" e0.qual e0.params e0.body e0.scope 1 [] [] := fun _ _ _ _ _ _ _ us ws h1 h2 => match us, ws, h1, h2 with | [_], [], _, _ => rfl
theorem kb2 : Xc.KwB e1.fs "__init__" e1.qual e1.params e1.body e1.scope 0 [(Str.ofString "value")] [0] := fun _ _ _ _ _ _ _ us ws h1 h2 => match us, ws, h1, h2 with | [], [_], _, _ => rfl
theorem kb3 : Xc.KwB e1.fs "__init__" e1.qual e1.params e1.body e1.scope 1 [] [] := fun _ _ _ _ _ _ _ us ws h1 h2 => match us, ws, h1, h2 with | [_], [], _, _ => rfl
theorem kb4 : Xc.KwB e2.fs "__init__" e2.qual e2.params e2.body e2.scope 0 [(Str.ofString "value")] [0] := fun _ _ _ _ _ _ _ us ws h1 h2 => match us, ws, h1, h2 with | [], [_], _, _ => rfl
theorem kb5 : Xc.KwB e2.fs "__init__" e2.qual e2.params e2.body e2.scope 1 [] [] := fun _ _ _ _ _ _ _ us ws h1 h2 => match us, ws, h1, h2 with | [_], [], _, _ => rfl
theorem kb6 : Xc.KwB e3.fs "__init__" e3.qual e3.params e3.body e3.scope 0 [(Str.ofString "value")] [0] := fun _ _ _ _ _ _ _ us ws h1 h2 => match us, ws, h1, h2 with | [], [_], _, _ => rfl
theorem kb7 : Xc.KwB e3.fs "__init__" e3.qual e3.params e3.body e3.scope 1 [] [] := fun _ _ _ _ _ _ _ us ws h1 h2 => match us, ws, h1, h2 with | [_], [], _, _ => rfl
theorem kb8 : Xc.KwB e4.fs "__init__" e4.qual e4.params e4.body e4.scope 0 [(Str.ofString "value")] [0] := fun _ _ _ _ _ _ _ us ws h1 h2 => match us, ws, h1, h2 with | [], [_], _, _ => rfl
theorem kb9 : Xc.KwB e4.fs "__init__" e4.qual e4.params e4.body e4.scope 1 [] [] := fun _ _ _ _ _ _ _ us ws h1 h2 => match us, ws, h1, h2 with | [_], [], _, _ => rfl
theorem kb10 : Xc.KwB e5.fs "__init__" e5.qual e5.params e5.body e5.scope 0 [(Str.ofString "place")] [0] := fun _ _ _ _ _ _ _ us ws h1 h2 => match us, ws, h1, h2 with | [], [_], _, _ => rfl
theorem kb11 : Xc.KwB e5.fs "__init__" e5.qual e5.params e5.body e5.scope 1 [] [] := fun _ _ _ _ _ _ _ us ws h1 h2 => match us, ws, h1, h2 with | [_], [], _, _ => rfl
theorem kb12 : Xc.KwB e6.fs "__init__" e6.qual e6.params e6.body e6.scope 0 [(Str.ofString "line"), (Str.ofString "word")] [0, 1] := fun _ _ _ _ _ _ _ us ws h1 h2 => match us, ws, h1, h2 with | [], [_, _], _, _ => rfl
theorem kb13 : Xc.KwB e6.fs "__init__" e6.qual e6.params e6.body e6.scope 0 [(Str.ofString "word"), (Str.ofString "line")] [1, 0] := fun _ _ _ _ _ _ _ us ws h1 h2 => match us, ws, h1, h2 with | [], [_, _], _, _ => rfl
theorem kb14 : Xc.KwB e6.fs "__init__" e6.qual e6.params e6.body e6.scope 2 [] [] := fun _ _ _ _ _ _ _ us ws h1 h2 => match us, ws, h1, h2 with | [_, _], [], _, _ => rfl
theorem kb15 : Xc.KwB e7.fs "__init__" e7.qual e7.params e7.body e7.scope 0 [(Str.ofString "value")] [0] := fun _ _ _ _ _ _ _ us ws h1 h2 => match us, ws, h1, h2 with | [], [_], _, _ => rfl
theorem kb16 : Xc.KwB e7.fs "__init__" e7.qual e7.params e7.body e7.scope 1 [] [] := fun _ _ _ _ _ _ _ us ws h1 h2 => match us, ws, h1, h2 with | [_], [], _, _ => rfl
theorem kb17 : Xc.KwB e8.fs "__init__" e8.qual e8.params e8.body e8.scope 0 [(Str.ofString "value")] [0] := fun _ _ _ _ _ _ _ us ws h1 h2 => match us, ws, h1, h2 with | [], [_], _, _ => rfl
theorem kb18 : Xc.KwB e8.fs "__init__" e8.qual e8.params e8.body e8.scope 1 [] [] := fun _ _ _ _ _ _ _ us ws h1 h2 => match us, ws, h1, h2 with | [_], [], _, _ => rfl
theorem kb19 : Xc.KwB e9.fs "__init__" e9.qual e9.params e9.body e9.scope 0 [(Str.ofString "value")] [0] := fun _ _ _ _ _ _ _ us ws h1 h2 => match us, ws, h1, h2 with | [], [_], _, _ => rfl
theorem kb20 : Xc.KwB e9.fs "__init__" e9.qual e9.params e9.body e9.scope 1 [] [] := fun _ _ _ _ _ _ _ us ws h1 h2 => match us, ws, h1, h2 with | [_], [], _, _ => rfl
theorem kb21 : Xc.KwB e10.fs "__init__" e10.qual e10.params e10.body e10.scope 0 [] [] := fun _ _ _ _ _ _ _ us ws h1 h2 => match us, ws, h1, h2 with | [], [], _, _ => rfl
theorem kb22 : Xc.KwB e11.fs "__init__" e11.qual e11.params e11.body e11.scope 0 [(Str.ofString "index")] [0] := fun _ _ _ _ _ _ _ us ws h1 h2 => match us, ws, h1, h2 with | [], [_], _, _ => rfl
theorem kb23 : Xc.KwB e11.fs "__init__" e11.qual e11.params e11.body e11.scope 1 [] [] := fun _ _ _ _ _ _ _ us ws h1 h2 => match us, ws, h1, h2 with | [_], [], _, _ => rfl
theorem kb24 : Xc.KwB e12.fs "__init__" e12.qual e12.params e12.body e12.scope 0 [(Str.ofString "value")] [0] := fun _ _ _ _ _ _ _ us ws h1 h2 => match us, ws, h1, h2 with | [], [_], _, _ => rfl
theorem kb25 : Xc.KwB e12.fs "__init__" e12.qual e12.params e12.body e12.scope 1 [] [] := fun _ _ _ _ _ _ _ us ws h1 h2 => match us, ws, h1, h2 with | [_], [], _, _ => rfl
theorem kb26 : Xc.KwB e13.fs "__init__" e13.qual e13.params e13.body e13.scope 0 [(Str.ofString "index")] [0] := fun _ _ _ _ _ _ _ us ws h1 h2 => match us, ws, h1, h2 with | [], [_], _, _ => rfl
theorem kb27 : Xc.KwB e13.fs "__init__" e13.qual e13.params e13.body e13.scope 1 [] [] := fun _ _ _ _ _ _ _ us ws h1 h2 => match us, ws, h1, h2 with | [_], [], _, _ => rfl
theorem kw_all : ∀ p ∈ kws, ∀ e, law.ers.lookup p.1 = some e → Xc.KwB e.fs "__init__" e.qual e.params e.body e.scope p.2.1 p.2.2.1 p.2.2.2 := by
  intro p h
  unfold kws at h
  simp only [List.mem_cons, List.not_mem_nil, or_false] at h
  rcases h with rfl | rfl | rfl | rfl | rfl | rfl | rfl | rfl | rfl | rfl | rfl | rfl | rfl | rfl | rfl | rfl | rfl | rfl | rfl | rfl | rfl | rfl | rfl | rfl | rfl | rfl | rfl | rfl
  · intro e he
    cases he
    exact kb0
  · intro e he
    cases he
    exact kb1
  · intro e he
    cases he
    exact kb2
  · intro e he
    cases he
    exact kb3
  · intro e he
    cases he
    exact kb4
  · intro e he
    cases he
    exact kb5
  · intro e he
    cases he
    exact kb6
  · intro e he
    cases he
    exact kb7
  · intro e he
    cases he
    exact kb8
  · intro e he
    cases he
    exact kb9
  · intro e he
    cases he
    exact kb10
  · intro e he
    cases he
    exact kb11
  · intro e he
    cases he
    exact kb12
  · intro e he
    cases he
    exact kb13
  · intro e he
    cases he
    exact kb14
  · intro e he
    cases he
    exact kb15
  · intro e he
    cases he
    exact kb16
  · intro e he
    cases he
    exact kb17
  · intro e he
    cases he
    exact kb18
  · intro e he
    cases he
    exact kb19
  · intro e he
    cases he
    exact kb20
  · intro e he
    cases he
    exact kb21
  · intro e he
    cases he
    exact kb22
  · intro e he
    cases he
    exact kb23
  · intro e he
    cases he
    exact kb24
  · intro e he
    cases he
    exact kb25
  · intro e he
    cases he
    exact kb26
  · intro e he
    cases he
    exact kb27
theorem ers : law.Ers := by
  intro p h
  have h2 : p ∈ [(0, e0), (1, e1), (2, e2), (3, e3), (4, e4), (5, e5), (6, e6), (7, e7), (8, e8), (9, e9), (10, e10), (11, e11), (12, e12), (13, e13)] := h
  simp only [List.mem_cons, List.not_mem_nil, or_false] at h2
  rcases h2 with rfl | rfl | rfl | rfl | rfl | rfl | rfl | rfl | rfl | rfl | rfl | rfl | rfl | rfl
  · exact ⟨eo0, fun n ks pm hm => kw_all _ hm e0 rfl⟩
  · exact ⟨eo1, fun n ks pm hm => kw_all _ hm e1 rfl⟩
  · exact ⟨eo2, fun n ks pm hm => kw_all _ hm e2 rfl⟩
  · exact ⟨eo3, fun n ks pm hm => kw_all _ hm e3 rfl⟩
  · exact ⟨eo4, fun n ks pm hm => kw_all _ hm e4 rfl⟩
  · exact ⟨eo5, fun n ks pm hm => kw_all _ hm e5 rfl⟩
  · exact ⟨eo6, fun n ks pm hm => kw_all _ hm e6 rfl⟩
  · exact ⟨eo7, fun n ks pm hm => kw_all _ hm e7 rfl⟩
  · exact ⟨eo8, fun n ks pm hm => kw_all _ hm e8 rfl⟩
  · exact ⟨eo9, fun n ks pm hm => kw_all _ hm e9 rfl⟩
  · exact ⟨eo10, fun n ks pm hm => kw_all _ hm e10 rfl⟩
  · exact ⟨eo11, fun n ks pm hm => kw_all _ hm e11 rfl⟩
  · exact ⟨eo12, fun n ks pm hm => kw_all _ hm e12 rfl⟩
  · exact ⟨eo13, fun n ks pm hm => kw_all _ hm e13 rfl⟩
theorem good : law.Good := Law.good_of (by kernel_rfl)
end Ev.K98
end
section
set_option maxHeartbeats 0
namespace Ev.K98
open PySem PySem.Spec PyProof.Rows L2
def names0 : List Str := [(Str.ofString "InvalidModule"), (Str.ofString "InvalidInputs"), (Str.ofString "InvalidNumber"), (Str.ofString "UnknownName"), (Str.ofString "UnknownPlace"), (Str.ofString "WrongPlace"), (Str.ofString "ParseError"), (Str.ofString "InvalidThings"), (Str.ofString "InvalidView"), (Str.ofString "InvalidStep"), (Str.ofString "WrongInputs"), (Str.ofString "InvalidEdit"), (Str.ofString "InvalidRow"), (Str.ofString "Broken"), (Str.ofString "Limits"), (Str.ofString "_law_pen"), (Str.ofString "_law_draw"), (Str.ofString "_law_pick"), (Str.ofString "_law_any_value"), (Str.ofString "_law_fields")]
def names1 : List Str := [(Str.ofString "_law_all_errors"), (Str.ofString "_law_classes"), (Str.ofString "_law_wide_ones"), (Str.ofString "_law_bounds")]
def names : List Str := names0 ++ names1
abbrev R : PySem.W.OpenRow := PySem.W.OpenLaw.row PySem.Challenge.rw_clobberwalk_k98_errors_and_limits
abbrev hk : PySem.W.Hook := hookY 4 law.fa law.fn law.ts law.ex
def ob (s : PySem.W.SharedT) : AlY := obsY 4 law.fa law.fn law.ts law.ex (HandSHeadRun.getT s)
theorem ob_eq (s : PySem.W.SharedT) : ob s = hk.obs s.abs := obsY_eq (HandSHeadRun.getT_eq s)
theorem run0 (w : World) : (fun w => HandSHeadRun.RunEq R (PySem.W.view R.prog [27]) hk ob 60000 names w) (w.withFollow "special-get-raises" false) := by
  intro os
  kernel_rfl
theorem run1 (w : World) : (fun w => HandSHeadRun.RunEq R (PySem.W.view R.prog [27]) hk ob 60000 names w) (w.withFollow "special-get-raises" true) := by
  intro os
  kernel_rfl
theorem run (w : World) : HandSHeadRun.RunEq R (PySem.W.view R.prog [27]) hk ob 60000 names w := PySem.W.byRow2 "special-get-raises" (P := fun w => HandSHeadRun.RunEq R (PySem.W.view R.prog [27]) hk ob 60000 names w) run0 run1 w
end Ev.K98
open PySem PySem.W PySem.Calls PyProof.Rows
theorem Ev.K98.holds_of {wf k : Nat} (hr : L2.Room (k + 2) callerA) (hc : ∀ ns : List Int, ns.length ≤ 63 → ∃ o outs, Ev.callF Ev.K98.law.pg (Ev.ftOf Ev.K98.law.dfs) wf k 50 [Ev.fz (.scr ns)] = .ok (o, .bl true) outs) : PySem.Challenge.rw_clobberwalk_k98_errors_and_limits.Holds := by
  w_on; o_law
  refine HandSHeadRun.head_any (r := OpenLaw.row PySem.Challenge.rw_clobberwalk_k98_errors_and_limits) (q := view (OpenLaw.row PySem.Challenge.rw_clobberwalk_k98_errors_and_limits).prog [27]) (H := Ev.K98.hk) (ob := Ev.K98.ob) (M := 60000) (loose := Ev.K98.names) (d := HandSHeadRun.topDef (OpenLaw.row PySem.Challenge.rw_clobberwalk_k98_errors_and_limits).prog 27) (kwd := []) Ev.K98.ob_eq
    (by kernel_rfl) (fun s => by kernel_rfl) Ev.K98.run (by kernel_rfl) (by kernel_rfl) (by kernel_rfl) (by rfl) (by first | assumption | decide +kernel) (by decide +kernel) ⟨rfl, rfl, rfl, rfl, rfl, by decide +kernel⟩ ?hw ?hc
  case hw => w_witness2
  case hc => exact Ev.Law.walk Ev.K98.good Ev.K98.ers Ev.K98.dfl_ok (n := 63) rfl (by decide) (by kernel_rfl) hr (by kernel_rfl) hc
end
/-! W: what must hold so that the evaluator comes through (its own small calculus). -/
namespace Ev
open PySem L2
section
variable (pg : Pg) (cf : Nat → List Rv → COut) (keep wf : Nat)
structure WE (t : Tm) (env : Ev) (Q : Rv → Ev → Prop) : Prop where
  ex : ∃ r e, evE pg cf keep t env = .ok r e ∧ Q r e
structure WO (t : Tm) (env : Ev) (Q : Opd → Ev → Prop) : Prop where
  ex : ∃ r e, opd t (evE pg cf keep t) env = .ok r e ∧ Q r e
structure WA (t : Tms) (env : Ev) (Q : List Opd → Ev → Prop) : Prop where
  ex : ∃ r e, evA pg cf keep t env = .ok r e ∧ Q r e
structure WF (t : Tms) (env : Ev) (Q : List D → Ev → Prop) : Prop where
  ex : ∃ r e, evF pg cf keep t env = .ok r e ∧ Q r e
structure WR (t : Tms) (env : Ev) (Q : List Rv → Ev → Prop) : Prop where
  ex : ∃ r e, evR pg cf keep t env = .ok r e ∧ Q r e
structure WP (t : Tps) (env : Ev) (Q : List (Key × D) → Ev → Prop) : Prop where
  ex : ∃ r e, evP pg cf keep t env = .ok r e ∧ Q r e
structure WTo (t : To) (env : Ev) (Q : Option Int → Ev → Prop) : Prop where
  ex : ∃ r e, evTo pg cf keep t env = .ok r e ∧ Q r e
structure WTc (t : To') (env : Ev) (Q : Bool → Ev → Prop) : Prop where
  ex : ∃ r e, evTc pg cf keep t env = .ok r e ∧ Q r e
structure WI (t : It) (env : Ev) (Q : List D → Ev → Prop) : Prop where
  ex : ∃ r e, evI pg cf keep t env = .ok r e ∧ Q r e
structure WC (t : Ct) (env : Ev) (Q : Bool → Ev → Prop) : Prop where
  ex : ∃ r e, evC pg cf keep t env = .ok r e ∧ Q r e
/-- N: the next statement; R: another way out -/
structure WS (s : Sm) (env : Ev) (N : Ev → Prop) (R : Flow' → Ev → Prop) : Prop where
  ex : ∃ f e, exS pg cf keep wf s env = .ok f e ∧ ((f = .nx ∧ N e) ∨ (f ≠ .nx ∧ R f e))
structure WSs (s : Sms) (env : Ev) (N : Ev → Prop) (R : Flow' → Ev → Prop) : Prop where
  ex : ∃ f e, exSs pg cf keep wf s env = .ok f e ∧ ((f = .nx ∧ N e) ∨ (f ≠ .nx ∧ R f e))
end
section
variable {pg : Pg} {cf : Nat → List Rv → COut} {keep wf : Nat} {env : Ev}
namespace W
theorem o_own {i : Nat} {d : D} {Q : Opd → Ev → Prop} (h : getS env i = some (true, d)) (q : Q (.s i) env) : WO pg cf keep (.var i) env Q := ⟨.s i, env, by simp only [opd, h], q⟩
theorem o_fz {i : Nat} {d : D} {Q : Opd → Ev → Prop} (h : getS env i = some (false, d)) (q : Q (.v (fz d)) env) : WO pg cf keep (.var i) env Q := ⟨.v (fz d), env, by simp only [opd, h], q⟩
theorem o_tm {t : Tm} {Q : Opd → Ev → Prop} (hv : ∀ i, t ≠ .var i) (q : WE pg cf keep t env fun r e => Q (.v r) e) : WO pg cf keep t env Q := by
  obtain ⟨r, e, h, q⟩ := q
  refine ⟨.v r, e, ?_, q⟩
  unfold opd
  split
  · exact absurd rfl (hv _)
  · rw [h]; rfl
theorem var_fz {i : Nat} {d : D} {Q : Rv → Ev → Prop} (h : getS env i = some (false, d)) (q : Q (fz d) env) : WE pg cf keep (.var i) env Q := ⟨_, _, by simp only [evE, readV, h], q⟩
theorem var_ow {i : Nat} {d : D} {Q : Rv → Ev → Prop} (h : getS env i = some (true, d)) (q : Q (fz d) (env.set i (some (fz d)))) : WE pg cf keep (.var i) env Q := ⟨_, _, by simp only [evE, readV, h], q⟩
theorem cst {d : D} {Q : Rv → Ev → Prop} (q : Q (fz d) env) : WE pg cf keep (.cst d) env Q := ⟨_, _, by simp only [evE], q⟩
theorem gl {i : Nat} {d : D} {Q : Rv → Ev → Prop} (h : pg.gc[i]? = some d) (q : Q (fz d) env) : WE pg cf keep (.gl i) env Q := ⟨_, _, by simp only [evE, h]; rfl, q⟩
theorem fnv {i : Nat} {Q : Rv → Ev → Prop} (q : Q (fz (.fn i)) env) : WE pg cf keep (.fnv i) env Q := ⟨_, _, by simp only [evE], q⟩
theorem wop1 {a : Tm} {f : D → Option Rv} {Q : Rv → Ev → Prop} (q : WO pg cf keep a env fun x e => ∃ d r, rdO e x = some d ∧ f d = some r ∧ Q r e) : ∃ r e, op1 a (evE pg cf keep a) f env = .ok r e ∧ Q r e := by
  obtain ⟨x, e, h, d, r, h1, h2, q⟩ := q
  refine ⟨r, e, ?_, q⟩
  unfold op1
  rw [h]
  simp only [Out.bind, h1, h2, lift]
theorem wop2 {a b : Tm} {f : D → D → Option Rv} {Q : Rv → Ev → Prop} (q : WO pg cf keep a env fun x e1 => WO pg cf keep b e1 fun y e => ∃ d d' r, rdO e x = some d ∧ rdO e y = some d' ∧ f d d' = some r ∧ Q r e) : ∃ r e, op2 a (evE pg cf keep a) b (evE pg cf keep b) f env = .ok r e ∧ Q r e := by
  obtain ⟨x, e1, h, y, e, h', d, d', r, h1, h2, h3, q⟩ := q
  refine ⟨r, e, ?_, q⟩
  unfold op2
  rw [h]
  simp only [Out.bind, h', h1, h2, h3, lift]
/-- what an operator asks -/
def BinK : BOp → D → D → (Rv → Prop) → Prop
  | .add, .int i, .int j, K => K (fz (.int (i + j)))
  | .add, .str a, .str b, K => a.length + b.length ≤ sizeLine ∧ K (fz (.str (a ++ b)))
  | .add, .lst a, .lst b, K => a.length + b.length ≤ sizeLine ∧ K (ow (.lst (a ++ b)))
  | .add, .tup a, .tup b, K => a.length + b.length ≤ sizeLine ∧ K (fz (.tup (a ++ b)))
  | .sub, .int i, .int j, K => K (fz (.int (i - j)))
  | .mul, .int i, .int j, K => ((-18446744073709551616 < i ∧ i < 18446744073709551616) ∨ (-18446744073709551616 < j ∧ j < 18446744073709551616)) ∧ K (fz (.int (i * j)))
  | .mul, .lst a, .int k, K => (-(2 ^ 63) ≤ k ∧ k < 2 ^ 63 ∧ a.length * k.toNat ≤ sizeLine) ∧ K (ow (.lst (List.replicate k.toNat a).flatten))
  | .fdiv, .int i, .int j, K => (0 < j ∧ j < 1073741824) ∧ K (fz (.int (i / j)))
  | .mod, .int i, .int j, K => 0 < j ∧ K (fz (.int (i % j)))
  | .pow, .int i, .int j, K => powOk i j = true ∧ K (fz (.int (i ^ j.toNat)))
  | _, _, _, _ => False
theorem binK {o : BOp} {d d' : D} {K : Rv → Prop} (h : BinK o d d' K) : ∃ r, binD o d d' = some r ∧ K r := by
  unfold BinK at h
  split at h
  · exact ⟨_, rfl, h⟩
  · exact ⟨_, if_pos h.1, h.2⟩
  · exact ⟨_, if_pos h.1, h.2⟩
  · exact ⟨_, if_pos h.1, h.2⟩
  · exact ⟨_, rfl, h⟩
  · rename_i i j
    refine ⟨_, if_pos ?_, h.2⟩
    unfold mulOk
    rcases h.1 with ⟨h1, h2⟩ | ⟨h1, h2⟩
    · rw [decide_eq_true (show -(2 ^ 64) < i from h1), decide_eq_true (show i < 2 ^ 64 from h2)]
      rfl
    · rw [decide_eq_true (show -(2 ^ 64) < j from h1), decide_eq_true (show j < 2 ^ 64 from h2)]
      exact Bool.or_true _
  · exact ⟨_, if_pos h.1, h.2⟩
  · exact ⟨_, if_pos h.1, h.2⟩
  · exact ⟨_, if_pos h.1, h.2⟩
  · exact ⟨_, if_pos h.1, h.2⟩
  · exact h.elim
theorem add_ii {i j : Int} {K : Rv → Prop} (h : K (fz (.int (i + j)))) : BinK .add (.int i) (.int j) K := h
theorem add_ss {a b : Str} {K : Rv → Prop} (h1 : a.length + b.length ≤ sizeLine) (h : K (fz (.str (a ++ b)))) : BinK .add (.str a) (.str b) K := ⟨h1, h⟩
theorem add_ll {a b : List D} {K : Rv → Prop} (h1 : a.length + b.length ≤ sizeLine) (h : K (ow (.lst (a ++ b)))) : BinK .add (.lst a) (.lst b) K := ⟨h1, h⟩
theorem add_tt {a b : List D} {K : Rv → Prop} (h1 : a.length + b.length ≤ sizeLine) (h : K (fz (.tup (a ++ b)))) : BinK .add (.tup a) (.tup b) K := ⟨h1, h⟩
theorem sub_ii {i j : Int} {K : Rv → Prop} (h : K (fz (.int (i - j)))) : BinK .sub (.int i) (.int j) K := h
theorem mul_ii {i j : Int} {K : Rv → Prop} (h1 : (-18446744073709551616 < i ∧ i < 18446744073709551616) ∨ (-18446744073709551616 < j ∧ j < 18446744073709551616)) (h : K (fz (.int (i * j)))) : BinK .mul (.int i) (.int j) K := ⟨h1, h⟩
theorem mul_li {a : List D} {k : Int} {K : Rv → Prop} (h1 : -(2 ^ 63) ≤ k ∧ k < 2 ^ 63 ∧ a.length * k.toNat ≤ sizeLine) (h : K (ow (.lst (List.replicate k.toNat a).flatten))) : BinK .mul (.lst a) (.int k) K := ⟨h1, h⟩
theorem fdiv_ii {i j : Int} {K : Rv → Prop} (h1 : 0 < j ∧ j < 1073741824) (h : K (fz (.int (i / j)))) : BinK .fdiv (.int i) (.int j) K := ⟨h1, h⟩
theorem mod_ii {i j : Int} {K : Rv → Prop} (h1 : 0 < j) (h : K (fz (.int (i % j)))) : BinK .mod (.int i) (.int j) K := ⟨h1, h⟩
theorem pow_ii {i j : Int} {K : Rv → Prop} (h1 : powOk i j = true) (h : K (fz (.int (i ^ j.toNat)))) : BinK .pow (.int i) (.int j) K := ⟨h1, h⟩
theorem bin {o : BOp} {a b : Tm} {Q : Rv → Ev → Prop} (q : WO pg cf keep a env fun x e1 => WO pg cf keep b e1 fun y e => ∃ d d', rdO e x = some d ∧ rdO e y = some d' ∧ BinK o d d' fun r => Q r e) : WE pg cf keep (.bin o a b) env Q := by
  constructor; simp only [evE]
  obtain ⟨x, e1, h, y, e, h', d, d', h1, h2, h3⟩ := q
  obtain ⟨r, h4, q⟩ := binK h3
  exact wop2 ⟨x, e1, h, y, e, h', d, d', r, h1, h2, h4, q⟩
theorem neg {a : Tm} {Q : Rv → Ev → Prop} (q : WO pg cf keep a env fun x e => ∃ i, rdO e x = some (.int i) ∧ Q (fz (.int (-i))) e) : WE pg cf keep (.neg a) env Q := by
  constructor; simp only [evE]; obtain ⟨x, e, h, i, h1, q⟩ := q; exact wop1 ⟨x, e, h, _, _, h1, rfl, q⟩
theorem notv {a : Tm} {Q : Rv → Ev → Prop} (q : WO pg cf keep a env fun x e => ∃ d k, rdO e x = some d ∧ truD d = some k ∧ Q (fz (.bl (!k))) e) : WE pg cf keep (.notv a) env Q := by
  constructor; simp only [evE]; obtain ⟨x, e, h, d, k, h1, h2, q⟩ := q; exact wop1 ⟨x, e, h, _, _, h1, by simp only [h2]; rfl, q⟩
theorem cmp {o : COp} {a b : Tm} {Q : Rv → Ev → Prop} (q : WO pg cf keep a env fun x e1 => WO pg cf keep b e1 fun y e => ∃ d d' k, rdO e x = some d ∧ rdO e y = some d' ∧ cmpD o d d' = some k ∧ Q (fz (.bl k)) e) : WE pg cf keep (.cmp o a b) env Q := by
  constructor; simp only [evE]
  obtain ⟨x, e1, h, y, e, h', d, d', k, h1, h2, h3, q⟩ := q
  exact wop2 ⟨x, e1, h, y, e, h', d, d', _, h1, h2, by simp only [h3]; rfl, q⟩
theorem isN {a : Tm} {Q : Rv → Ev → Prop} (q : WO pg cf keep a env fun x e => ∃ d, rdO e x = some d ∧ Q (fz (.bl (match d with | .non => true | _ => false))) e) : WE pg cf keep (.isN a) env Q := by
  constructor; simp only [evE]; obtain ⟨x, e, h, d, h1, q⟩ := q; exact wop1 ⟨x, e, h, _, _, h1, rfl, q⟩
theorem isNN {a : Tm} {Q : Rv → Ev → Prop} (q : WO pg cf keep a env fun x e => ∃ d, rdO e x = some d ∧ Q (fz (.bl (match d with | .non => false | _ => true))) e) : WE pg cf keep (.isNN a) env Q := by
  constructor; simp only [evE]; obtain ⟨x, e, h, d, h1, q⟩ := q; exact wop1 ⟨x, e, h, _, _, h1, rfl, q⟩
theorem chain {o p : COp} {a b c : Tm} {Q : Rv → Ev → Prop} (q : WO pg cf keep a env fun x e1 => WO pg cf keep b e1 fun y e2 => ∃ d d' k, rdO e2 x = some d ∧ rdO e2 y = some d' ∧ cmpD o d d' = some k ∧
      (k = false → Q (fz (.bl false)) e2) ∧ (k = true → WO pg cf keep c e2 fun z e3 => ∃ u u' k, rdO e3 y = some u ∧ rdO e3 z = some u' ∧ cmpD p u u' = some k ∧ Q (fz (.bl k)) e3)) : WE pg cf keep (.chain o p a b c) env Q := by
  obtain ⟨x, e1, h, y, e2, h', d, d', k, h1, h2, h3, q1, q2⟩ := q
  constructor; simp only [evE]
  rw [h]
  simp only [Out.bind, h', h1, h2, h3]
  cases k with
  | false => exact ⟨_, _, rfl, q1 rfl⟩
  | true =>
    obtain ⟨z, e3, h4, u, u', k, h5, h6, h7, q⟩ := q2 rfl
    exact ⟨_, _, by simp only [h4, h5, h6, h7]; rfl, q⟩
theorem andv {a b : Tm} {Q : Rv → Ev → Prop} (q : WE pg cf keep a env fun r e => ∃ k, truD r.2 = some k ∧ (k = false → Q r e) ∧ (k = true → WE pg cf keep b e Q)) : WE pg cf keep (.andv a b) env Q := by
  obtain ⟨r, e, h, k, h1, q1, q2⟩ := q
  constructor; simp only [evE]
  rw [h]
  simp only [Out.bind, h1]
  cases k with
  | false => exact ⟨_, _, rfl, q1 rfl⟩
  | true => exact (q2 rfl).ex
theorem orv {a b : Tm} {Q : Rv → Ev → Prop} (q : WE pg cf keep a env fun r e => ∃ k, truD r.2 = some k ∧ (k = true → Q r e) ∧ (k = false → WE pg cf keep b e Q)) : WE pg cf keep (.orv a b) env Q := by
  obtain ⟨r, e, h, k, h1, q1, q2⟩ := q
  constructor; simp only [evE]
  rw [h]
  simp only [Out.bind, h1]
  cases k with
  | false => exact (q2 rfl).ex
  | true => exact ⟨_, _, rfl, q1 rfl⟩
theorem ife {c : Ct} {a b : Tm} {Q : Rv → Ev → Prop} (q : WC pg cf keep c env fun t e => (t = true → WE pg cf keep a e Q) ∧ (t = false → WE pg cf keep b e Q)) : WE pg cf keep (.ife c a b) env Q := by
  obtain ⟨t, e, h, q1, q2⟩ := q
  constructor; simp only [evE]
  rw [h]
  cases t with
  | false => exact (q2 rfl).ex
  | true => exact (q1 rfl).ex
theorem idx {a b : Tm} {Q : Rv → Ev → Prop} (q : WO pg cf keep a env fun x e1 => WO pg cf keep b e1 fun y e => ∃ d d' r, rdO e x = some d ∧ rdO e y = some d' ∧ idxD d d' = some r ∧ Q (fz r) e) : WE pg cf keep (.idx a b) env Q := by
  constructor; simp only [evE]
  obtain ⟨x, e1, h, y, e, h', d, d', k, h1, h2, h3, q⟩ := q
  exact wop2 ⟨x, e1, h, y, e, h', d, d', _, h1, h2, by simp only [h3]; rfl, q⟩
theorem slc {a : Tm} {lo hi : To} {Q : Rv → Ev → Prop} (q : WO pg cf keep a env fun x e1 => WTo pg cf keep lo e1 fun l e2 => WTo pg cf keep hi e2 fun h e3 => ∃ d r, rdO e3 x = some d ∧ slcD l h d = some r ∧ Q r e3) : WE pg cf keep (.slc a lo hi) env Q := by
  obtain ⟨x, e1, h, l, e2, h', u, e3, h'', d, r, h1, h2, q⟩ := q
  constructor; simp only [evE]
  rw [h]
  exact ⟨_, _, by simp only [Out.bind, h', h'', h1, h2]; rfl, q⟩
theorem evn {a : Tm} {lo : To} {Q : Rv → Ev → Prop} (q : WO pg cf keep a env fun x e1 => WTo pg cf keep lo e1 fun l e2 => ∃ xs, rdO e2 x = some (.lst xs) ∧ (l = none ∧ Q (ow (.lst (evens xs))) e2 ∨ l = some 1 ∧ Q (ow (.lst (evens (xs.drop 1)))) e2)) : WE pg cf keep (.evn a lo) env Q := by
  obtain ⟨x, e1, h, l, e2, h', xs, h1, q⟩ := q
  constructor; simp only [evE]
  rw [h]
  rcases q with ⟨rfl, q⟩ | ⟨rfl, q⟩
  · exact ⟨_, _, by simp only [Out.bind, h', h1]; rfl, q⟩
  · exact ⟨_, _, by simp only [Out.bind, h', h1]; rfl, q⟩
theorem rev {a : Tm} {Q : Rv → Ev → Prop} (q : WO pg cf keep a env fun x e => ∃ xs, rdO e x = some (.lst xs) ∧ Q (ow (.lst xs.reverse)) e) : WE pg cf keep (.rev a) env Q := by
  constructor; simp only [evE]; obtain ⟨x, e, h, d, h1, q⟩ := q; exact wop1 ⟨x, e, h, _, _, h1, rfl, q⟩
theorem bi {f : Bi} {a : Tm} {Q : Rv → Ev → Prop} (q : WO pg cf keep a env fun x e => ∃ d r, rdO e x = some d ∧ biD f d = some r ∧ Q r e) : WE pg cf keep (.bi f a) env Q := by
  constructor; simp only [evE]; exact wop1 q
theorem join {s a : Tm} {Q : Rv → Ev → Prop} (q : WE pg cf keep s env fun x e1 => ∃ z, x.2 = .str z ∧ WO pg cf keep a e1 fun y e => ∃ ys ss, rdO e y = some (.lst ys) ∧ strsD ys = some ss ∧ (ss.map (·.length)).sum + ss.length * z.length ≤ 16777216 ∧ Q (fz (.str (Txt.join z ss))) e) : WE pg cf keep (.join s a) env Q := by
  obtain ⟨x, e1, h, z, hz, y, e, h', ys, ss, h1, h2, h3, q⟩ := q
  constructor; simp only [evE]
  rw [h]
  simp only [Out.bind, hz]
  exact wop1 ⟨y, e, h', _, _, h1, by simp only [h2, Option.bind_some, h3, if_true], q⟩
theorem dget {d k x : Tm} {Q : Rv → Ev → Prop} (q : WO pg cf keep d env fun x1 e1 => ∃ kvs, rdO e1 x1 = some (.dct kvs) ∧ WO pg cf keep k e1 fun y e2 => WE pg cf keep x e2 fun z e3 => ∃ kvs u key, rdO e3 x1 = some (.dct kvs) ∧ rdO e3 y = some u ∧ keyD u = some key ∧ Q (fz ((valD kvs key).getD z.2)) e3) : WE pg cf keep (.dget d k x) env Q := by
  obtain ⟨x1, e1, h, kvs, hk, y, e2, h', z, e3, h'', kvs', u, key, h1, h2, h3, q⟩ := q
  constructor; simp only [evE]
  rw [h]
  exact ⟨_, _, by simp only [Out.bind, hk, h', h'', h1, h2, h3], q⟩
theorem zipl {a b : Tm} {Q : Rv → Ev → Prop} (q : WO pg cf keep a env fun x e1 => WO pg cf keep b e1 fun y e => ∃ xs ys, ((rdO e x = some (.lst xs) ∧ rdO e y = some (.lst ys)) ∨ (rdO e x = some (.tup xs) ∧ rdO e y = some (.tup ys))) ∧ Q (ow (.lst (zipD xs ys))) e) : WE pg cf keep (.zipl a b) env Q := by
  constructor; simp only [evE]
  obtain ⟨x, e1, h, y, e, h', xs, ys, ⟨h1, h2⟩ | ⟨h1, h2⟩, q⟩ := q
  · exact wop2 ⟨x, e1, h, y, e, h', _, _, _, h1, h2, rfl, q⟩
  · exact wop2 ⟨x, e1, h, y, e, h', _, _, _, h1, h2, rfl, q⟩
theorem min2 {a b : Tm} {Q : Rv → Ev → Prop} (q : WO pg cf keep a env fun x e1 => WO pg cf keep b e1 fun y e => ∃ i j, rdO e x = some (.int i) ∧ rdO e y = some (.int j) ∧ Q (fz (.int (if j < i then j else i))) e) : WE pg cf keep (.min2 a b) env Q := by
  constructor; simp only [evE]
  obtain ⟨x, e1, h, y, e, h', i, j, h1, h2, q⟩ := q
  exact wop2 ⟨x, e1, h, y, e, h', _, _, _, h1, h2, rfl, q⟩
theorem dupd {i : Nat} {a : Tm} {kvs0 : List (Key × D)} {Q : Rv → Ev → Prop} (hg : getS env i = some (true, .dct kvs0)) (q : WE pg cf keep a env fun r e1 => ∃ kvs more, getS e1 i = some (true, .dct kvs) ∧ r.2 = .dct more ∧ kvs.length + more.length ≤ sizeLine ∧
    Q (fz .non) (e1.set i (some (ow (.dct (more.foldl (fun acc kv => putD acc kv.1 kv.2) kvs)))))) : WE pg cf keep (.dupd i a) env Q := by
  obtain ⟨r, e1, h, kvs, more, h1, h2, h3, q⟩ := q
  constructor; simp only [evE, hg]
  rw [h]
  simp only [Out.bind, h1, h2, h3, if_true]
  exact ⟨_, _, rfl, q⟩
theorem gin {g : Nat} {a : Tm} {Q : Rv → Ev → Prop} (q : WO pg cf keep a env fun x e => ∃ s kvs, rdO e x = some (.str s) ∧ pg.gd[g]? = some kvs ∧ Q (fz (.bl (valD kvs (.inr s)).isSome)) e) : WE pg cf keep (.gin g a) env Q := by
  constructor; simp only [evE]; obtain ⟨x, e, h, s, kvs, h1, h2, q⟩ := q; exact wop1 ⟨x, e, h, _, _, h1, by simp only [h2], q⟩
theorem gidx {g : Nat} {a : Tm} {Q : Rv → Ev → Prop} (q : WO pg cf keep a env fun x e => ∃ s kvs d, rdO e x = some (.str s) ∧ pg.gd[g]? = some kvs ∧ valD kvs (.inr s) = some d ∧ Q (fz d) e) : WE pg cf keep (.gidx g a) env Q := by
  constructor; simp only [evE]; obtain ⟨x, e, h, s, kvs, d, h1, h2, h3, q⟩ := q; exact wop1 ⟨x, e, h, _, _, h1, by simp only [h2, h3]; rfl, q⟩
theorem gdict {g : Nat} {kvs : List (Key × D)} {Q : Rv → Ev → Prop} (h : pg.gd[g]? = some kvs) (q : Q (ow (.dct kvs)) env) : WE pg cf keep (.gdict g) env Q := ⟨_, _, by simp only [evE, h]; rfl, q⟩
theorem tupd {es : Tms} {Q : Rv → Ev → Prop} (q : WF pg cf keep es env fun ds e => ds.length ≤ sizeLine ∧ Q (fz (.tup ds)) e) : WE pg cf keep (.tupd es) env Q := by
  obtain ⟨ds, e, h, h1, q⟩ := q
  exact ⟨_, _, by simp only [evE, h, Out.bind, h1, if_true], q⟩
theorem lstd {es : Tms} {Q : Rv → Ev → Prop} (q : WF pg cf keep es env fun ds e => ds.length ≤ sizeLine ∧ Q (ow (.lst ds)) e) : WE pg cf keep (.lstd es) env Q := by
  obtain ⟨ds, e, h, h1, q⟩ := q
  exact ⟨_, _, by simp only [evE, h, Out.bind, h1, if_true], q⟩
theorem dctd {ps : Tps} {Q : Rv → Ev → Prop} (q : WP pg cf keep ps env fun kvs e => kvs.length ≤ 15 ∧ Q (ow (.dct (kvs.foldl (fun acc kv => putD acc kv.1 kv.2) []))) e) : WE pg cf keep (.dctd ps) env Q := by
  obtain ⟨ds, e, h, h1, q⟩ := q
  exact ⟨_, _, by simp only [evE, h, Out.bind, h1, if_true], q⟩
/-- a call of f -/
def Cl (pg : Pg) (cf : Nat → List Rv → COut) (f : Nat) (os : List Opd) (e1 : Ev) (Q : Rv → Ev → Prop) : Prop := (slotsOf os).Nodup ∧ ∃ rs e2, lendAll (pg.keeps f) 0 os e1 = some (rs, e2) ∧ ∃ r outs, cf f rs = .ok r outs ∧ Q r (giveBack os rs outs e2)
theorem docall {f : Nat} {os : List Opd} {e1 : Ev} {Q : Rv → Ev → Prop} (q : Cl pg cf f os e1 Q) : ∃ r e, doCall pg cf f os e1 = .ok r e ∧ Q r e := by
  obtain ⟨nd, rs, e2, h1, r, outs, h2, q⟩ := q
  exact ⟨_, _, by simp only [doCall, nd, if_true, h1, h2], q⟩
theorem call {f : Nat} {as : Tms} {Q : Rv → Ev → Prop} (q : WA pg cf keep as env fun os e1 => Cl pg cf f os e1 Q) : WE pg cf keep (.call f as) env Q := by
  obtain ⟨os, e1, h, q⟩ := q
  constructor; simp only [evE]
  rw [h]
  exact docall q
theorem callv {i f : Nat} {as : Tms} {Q : Rv → Ev → Prop} (hg : getS env i = some (false, .fn f)) (q : WA pg cf keep as env fun os e1 => Cl pg cf f os e1 Q) : WE pg cf keep (.callv i as) env Q := by
  obtain ⟨os, e1, h, q⟩ := q
  constructor; simp only [evE, hg]
  rw [h]
  exact docall q
theorem ncall {f : Nat} {as : Tms} {Q : Rv → Ev → Prop} (q : WA pg cf keep as env fun os e1 => ∃ rs ds outs, frzs os = some rs ∧ cf f rs = .ok (false, .lst ds) outs ∧ pureDs ds = true ∧ Q (ow (.lst ds)) e1) : WE pg cf keep (.ncall f as) env Q := by
  obtain ⟨os, e1, h, rs, ds, outs, h1, h2, h3, q⟩ := q
  constructor; simp only [evE]
  rw [h]
  exact ⟨_, _, by simp only [Out.bind, h1, h2, h3, if_true], q⟩
/-- a turn of a comprehension -/
def cturn (pg : Pg) (cf : Nat → List Rv → COut) (keep : Nat) (e : Tm) (tg : List Nat) (one : Bool) (c : To') (own : List Nat) (d : D) (en : Ev) : Out (Option D) := match target keep tg one d en with
  | none => .stuck
  | some en1 => (evTc pg cf keep c en1).bind fun t en2 => if t then (evE pg cf keep e en2).bind fun r en3 => .ok (some r.2) (wipeE en3 own) else .ok none (wipeE en2 own)
theorem cturn_ok {e : Tm} {tg : List Nat} {one : Bool} {c : To'} {own : List Nat} {d : D} {en en1 : Ev} {Q : Option D → Ev → Prop} (ht : target keep tg one d en = some en1) (q : WTc pg cf keep c en1 fun t en2 => (t = true → WE pg cf keep e en2 fun r en3 => Q (some r.2) (wipeE en3 own)) ∧ (t = false → Q none (wipeE en2 own))) :
    ∃ o e', cturn pg cf keep e tg one c own d en = .ok o e' ∧ Q o e' := by
  obtain ⟨t, en2, h, q1, q2⟩ := q
  unfold cturn
  rw [ht]
  simp only [h, Out.bind]
  cases t with
  | true =>
    obtain ⟨r, en3, h3, q⟩ := q1 rfl
    exact ⟨_, _, by simp only [if_true, h3], q⟩
  | false => exact ⟨_, _, rfl, q2 rfl⟩
theorem compLoop_inv {f : D → Ev → Out (Option D)} {items : List D} (I : Nat → List D → Ev → Prop) (h : ∀ k d acc e, items[k]? = some d → I k acc e → ∃ o e', f d e = .ok o e' ∧ I (k + 1) (acc ++ o.toList) e') : ∀ (rest pre : List D) (acc : List D) (e : Ev), items = pre ++ rest → I pre.length acc e → ∃ r e', compLoop f rest e = .ok r e' ∧ I items.length (acc ++ r) e'
  | [], pre, acc, e, hi, I0 => ⟨[], e, rfl, by rw [List.append_nil]; rw [hi, List.append_nil]; exact I0⟩
  | d :: ds, pre, acc, e, hi, I0 => by
    obtain ⟨o, e1, h1, I1⟩ := h pre.length d acc e (by rw [hi]; simp) I0
    obtain ⟨r, e2, h2, I2⟩ := compLoop_inv I h ds (pre ++ [d]) (acc ++ o.toList) e1 (by rw [hi]; simp) (by simpa using I1)
    cases o with
    | none => exact ⟨r, e2, by simp only [compLoop, h1, h2, Out.bind], by simpa using I2⟩
    | some y => exact ⟨y :: r, e2, by simp only [compLoop, h1, h2, Out.bind], by simpa using I2⟩
/-- a comprehension's loop -/
structure WCl (f : D → Ev → Out (Option D)) (items : List D) (e : Ev) (Q : List D → Ev → Prop) : Prop where
  ex : ∃ r e', compLoop f items e = .ok r e' ∧ Q r e'
theorem cl_nil {f : D → Ev → Out (Option D)} {e : Ev} {Q : List D → Ev → Prop} (q : Q [] e) : WCl f [] e Q := ⟨_, _, rfl, q⟩
theorem cl_cons {f : D → Ev → Out (Option D)} {d : D} {ds : List D} {e : Ev} {Q : List D → Ev → Prop} (q : ∃ o e1, f d e = .ok o e1 ∧ WCl f ds e1 fun r e' => Q (o.toList ++ r) e') : WCl f (d :: ds) e Q := by
  obtain ⟨o, e1, h1, r, e', h2, q⟩ := q
  cases o with
  | none => exact ⟨r, e', by simp only [compLoop, h1, h2, Out.bind], q⟩
  | some y => exact ⟨y :: r, e', by simp only [compLoop, h1, h2, Out.bind], q⟩
theorem comp {e : Tm} {tg : List Nat} {one : Bool} {it : It} {c : To'} {own : List Nat} {Q : Rv → Ev → Prop} (q : WI pg cf keep it env fun items e1 => items.length ≤ sizeLine ∧ tg.all own.contains = true ∧ WCl (cturn pg cf keep e tg one c own) items (wipeE e1 own) fun r e2 => Q (ow (.lst r)) (restE e2 e1 own)) : WE pg cf keep (.comp e tg one it c own) env Q := by
  obtain ⟨items, e1, h, h1, h2, r, e2, h3, q⟩ := q
  refine ⟨_, _, ?_, q⟩
  have e0 : evE pg cf keep (.comp e tg one it c own) env = (evI pg cf keep it env).bind fun items e1 => if items.length ≤ sizeLine ∧ tg.all own.contains = true then (compLoop (cturn pg cf keep e tg one c own) items (wipeE e1 own)).bind fun r e2 => .ok (ow (.lst r)) (restE e2 e1 own) else .stuck := by
    rw [evE]; rfl
  rw [e0, h]
  simp only [Out.bind, h1, h2, and_self, if_true, h3]
/-- a comprehension that leaves the slots as they are -/
theorem comp_map {e : Tm} {tg : List Nat} {one : Bool} {it : It} {c : To'} {own : List Nat} {Q : Rv → Ev → Prop} (g : D → Option D) (q : WI pg cf keep it env fun items e1 => items.length ≤ sizeLine ∧ tg.all own.contains = true ∧ (∀ d ∈ items, ∃ o e', cturn pg cf keep e tg one c own d (wipeE e1 own) = .ok o e' ∧ o = g d ∧ e' = wipeE e1 own) ∧ Q (ow (.lst (items.filterMap g))) (restE (wipeE e1 own) e1 own)) : WE pg cf keep (.comp e tg one it c own) env Q := by
  obtain ⟨items, e1, h, h1, h2, h3, q⟩ := q
  refine comp ⟨items, e1, h, h1, h2, _, _, ?_, q⟩
  have key : ∀ l : List D, (∀ d ∈ l, ∃ o e', cturn pg cf keep e tg one c own d (wipeE e1 own) = .ok o e' ∧ o = g d ∧ e' = wipeE e1 own) → compLoop (cturn pg cf keep e tg one c own) l (wipeE e1 own) = .ok (l.filterMap g) (wipeE e1 own) := by
    intro l
    induction l with
    | nil => intro _; rfl
    | cons d l ih =>
      intro hl
      obtain ⟨o, e', k1, rfl, rfl⟩ := hl d (List.mem_cons_self ..)
      simp only [compLoop, k1, Out.bind, ih fun x hx => hl x (List.mem_cons_of_mem _ hx), List.filterMap_cons]
      cases g d <;> rfl
  exact key items h3
/-- a turn of a dict's comprehension -/
def dturn (pg : Pg) (cf : Nat → List Rv → COut) (keep : Nat) (k v : Tm) (tg : List Nat) (one : Bool) (own : List Nat) (d : D) (en : Ev) : Out (Key × D) := match target keep tg one d en with
  | none => .stuck
  | some en1 => (evE pg cf keep k en1).bind fun r en2 => (evE pg cf keep v en2).bind fun r' en3 => match keyD r.2 with
    | some key => .ok (key, r'.2) (wipeE en3 own)
    | none => .stuck
theorem dturn_ok {k v : Tm} {tg : List Nat} {one : Bool} {own : List Nat} {d : D} {en en1 : Ev} {Q : Key × D → Ev → Prop} (ht : target keep tg one d en = some en1) (q : WE pg cf keep k en1 fun r en2 => WE pg cf keep v en2 fun r' en3 => ∃ key, keyD r.2 = some key ∧ Q (key, r'.2) (wipeE en3 own)) :
    ∃ o e', dturn pg cf keep k v tg one own d en = .ok o e' ∧ Q o e' := by
  obtain ⟨r, en2, h, r', en3, h', key, h1, q⟩ := q
  refine ⟨_, _, ?_, q⟩
  unfold dturn
  rw [ht]
  simp only [h, h', h1, Out.bind]
theorem dcomp_map {k v : Tm} {tg : List Nat} {one : Bool} {it : It} {own : List Nat} {Q : Rv → Ev → Prop} (g : D → Key × D) (q : WI pg cf keep it env fun items e1 => items.length ≤ sizeLine ∧ tg.all own.contains = true ∧ (∀ d ∈ items, ∃ o e', dturn pg cf keep k v tg one own d (wipeE e1 own) = .ok o e' ∧ o = g d ∧ e' = wipeE e1 own) ∧ Q (ow (.dct ((items.map g).foldl (fun acc kv => putD acc kv.1 kv.2) []))) (restE (wipeE e1 own) e1 own)) : WE pg cf keep (.dcomp k v tg one it own) env Q := by
  obtain ⟨items, e1, h, h1, h2, h3, q⟩ := q
  refine ⟨_, _, ?_, q⟩
  have e0 : evE pg cf keep (.dcomp k v tg one it own) env = (evI pg cf keep it env).bind fun items e1 => if items.length ≤ sizeLine ∧ tg.all own.contains = true then (dcompLoop (dturn pg cf keep k v tg one own) items [] (wipeE e1 own)).bind fun r e2 => .ok (ow (.dct r)) (restE e2 e1 own) else .stuck := by
    rw [evE]; rfl
  rw [e0, h]
  simp only [Out.bind, h1, h2, and_self, if_true]
  have key : ∀ (l : List D) (acc : List (Key × D)), (∀ d ∈ l, ∃ o e', dturn pg cf keep k v tg one own d (wipeE e1 own) = .ok o e' ∧ o = g d ∧ e' = wipeE e1 own) → dcompLoop (dturn pg cf keep k v tg one own) l acc (wipeE e1 own) = .ok ((l.map g).foldl (fun acc kv => putD acc kv.1 kv.2) acc) (wipeE e1 own) := by
    intro l
    induction l with
    | nil => intro acc _; rfl
    | cons d l ih =>
      intro acc hl
      obtain ⟨o, e', k1, rfl, rfl⟩ := hl d (List.mem_cons_self ..)
      simp only [dcompLoop, k1, Out.bind, List.map_cons, List.foldl_cons]
      exact ih _ fun x hx => hl x (List.mem_cons_of_mem _ hx)
  rw [key items [] h3]
theorem mu {m : Mu} {i : Nat} {as : Tms} {Q : Rv → Ev → Prop} {xs : List D} (h0 : getS env i = some (true, .lst xs)) (q : WF pg cf keep as env fun ds e1 => ∃ xs d ys, getS e1 i = some (true, .lst xs) ∧ muD m xs ds = some (d, ys) ∧ Q (fz d) (e1.set i (some (ow (.lst ys))))) : WE pg cf keep (.mu m i as) env Q := by
  obtain ⟨ds, e1, h, ys, d, zs, h1, h2, q⟩ := q
  exact ⟨_, _, by simp only [evE, h0, h, Out.bind, h1, h2], q⟩
/-! items, arguments -/
theorem f_nil {Q : List D → Ev → Prop} (q : Q [] env) : WF pg cf keep .nil env Q := ⟨_, _, by simp only [evF], q⟩
theorem f_cons {a : Tm} {r : Tms} {Q : List D → Ev → Prop} (q : WE pg cf keep a env fun x e1 => WF pg cf keep r e1 fun xs e2 => Q (x.2 :: xs) e2) : WF pg cf keep (.cons a r) env Q := by
  obtain ⟨x, e1, h, xs, e2, h', q⟩ := q
  exact ⟨_, _, by simp only [evF, h, h', Out.bind], q⟩
theorem f_star {a : Tm} {r : Tms} {Q : List D → Ev → Prop} (q : WE pg cf keep a env fun x e1 => ∃ ys, seqD x.2 = some ys ∧ WF pg cf keep r e1 fun xs e2 => Q (ys ++ xs) e2) : WF pg cf keep (.star a r) env Q := by
  obtain ⟨x, e1, h, ys, hy, xs, e2, h', q⟩ := q
  exact ⟨_, _, by simp only [evF, h, hy, h', Out.bind], q⟩
theorem a_nil {Q : List Opd → Ev → Prop} (q : Q [] env) : WA pg cf keep .nil env Q := ⟨_, _, by simp only [evA], q⟩
theorem a_cons {a : Tm} {r : Tms} {Q : List Opd → Ev → Prop} (q : WO pg cf keep a env fun x e1 => WA pg cf keep r e1 fun xs e2 => Q (x :: xs) e2) : WA pg cf keep (.cons a r) env Q := by
  obtain ⟨x, e1, h, xs, e2, h', q⟩ := q
  exact ⟨_, _, by simp only [evA, h, h', Out.bind], q⟩
theorem r_nil {Q : List Rv → Ev → Prop} (q : Q [] env) : WR pg cf keep .nil env Q := ⟨_, _, by simp only [evR], q⟩
theorem r_cons {a : Tm} {r : Tms} {Q : List Rv → Ev → Prop} (q : WE pg cf keep a env fun x e1 => WR pg cf keep r e1 fun xs e2 => Q (x :: xs) e2) : WR pg cf keep (.cons a r) env Q := by
  obtain ⟨x, e1, h, xs, e2, h', q⟩ := q
  exact ⟨_, _, by simp only [evR, h, h', Out.bind], q⟩
theorem p_nil {Q : List (Key × D) → Ev → Prop} (q : Q [] env) : WP pg cf keep .nil env Q := ⟨_, _, by simp only [evP], q⟩
theorem p_cons {k v : Tm} {r : Tps} {Q : List (Key × D) → Ev → Prop} (q : WE pg cf keep k env fun x e1 => WE pg cf keep v e1 fun y e2 => ∃ key, keyD x.2 = some key ∧ WP pg cf keep r e2 fun xs e3 => Q ((key, y.2) :: xs) e3) : WP pg cf keep (.cons k v r) env Q := by
  obtain ⟨x, e1, h, y, e2, h', key, hk, xs, e3, h'', q⟩ := q
  exact ⟨_, _, by simp only [evP, h, h', hk, h'', Out.bind], q⟩
theorem to_no {Q : Option Int → Ev → Prop} (q : Q none env) : WTo pg cf keep .no env Q := ⟨_, _, by simp only [evTo], q⟩
theorem to_yes {a : Tm} {Q : Option Int → Ev → Prop} (q : WE pg cf keep a env fun r e => ∃ i, r.2 = .int i ∧ Q (some i) e) : WTo pg cf keep (.yes a) env Q := by
  obtain ⟨r, e, h, i, h1, q⟩ := q
  exact ⟨_, _, by simp only [evTo, h, Out.bind, h1], q⟩
theorem tc_no {Q : Bool → Ev → Prop} (q : Q true env) : WTc pg cf keep .no env Q := ⟨_, _, by simp only [evTc], q⟩
theorem tc_yes {c : Ct} {Q : Bool → Ev → Prop} (q : WC pg cf keep c env Q) : WTc pg cf keep (.yes c) env Q := by
  obtain ⟨r, e, h, q⟩ := q
  exact ⟨_, _, by simp only [evTc, h], q⟩
theorem i_seq {a : Tm} {Q : List D → Ev → Prop} (q : WE pg cf keep a env fun r e => ∃ xs, itemsD r.2 = some xs ∧ Q xs e) : WI pg cf keep (.seq a) env Q := by
  obtain ⟨r, e, h, xs, h1, q⟩ := q
  exact ⟨_, _, by simp only [evI, h, Out.bind, h1]; rfl, q⟩
structure RngI (n : Int) : Prop where
  lo : -4611686018427387904 ≤ n
  hi : n < 4611686018427387904
theorem RngI.ok {n : Int} (h : RngI n) : rngOk n = true := by
  unfold rngOk
  rw [decide_eq_true (show -(2 ^ 62) ≤ n from h.lo), decide_eq_true (show n < 2 ^ 62 from h.hi)]
  rfl
theorem i_rng1 {a : Tm} {Q : List D → Ev → Prop} (q : WE pg cf keep a env fun r e => ∃ n, r.2 = .int n ∧ RngI n ∧ Q (rngD 0 n.toNat) e) : WI pg cf keep (.rng1 a) env Q := by
  obtain ⟨r, e, h, n, h1, h2, q⟩ := q
  exact ⟨_, _, by simp only [evI, h, Out.bind, h1, h2.ok, if_true], q⟩
theorem i_rng2 {a b : Tm} {Q : List D → Ev → Prop} (q : WE pg cf keep a env fun r e1 => WE pg cf keep b e1 fun r' e => ∃ i j, r.2 = .int i ∧ r'.2 = .int j ∧ RngI i ∧ RngI j ∧ Q (rngD i (j - i).toNat) e) : WI pg cf keep (.rng2 a b) env Q := by
  obtain ⟨r, e1, h, r', e, h', i, j, h1, h2, h3, h4, q⟩ := q
  exact ⟨_, _, by simp only [evI, h, h', Out.bind, h1, h2, h3.ok, h4.ok, Bool.and_self, if_true], q⟩
theorem i_enum {a : Tm} {Q : List D → Ev → Prop} (q : WE pg cf keep a env fun r e => ∃ xs, seqD r.2 = some xs ∧ Q (enumD 0 xs) e) : WI pg cf keep (.enum a) env Q := by
  obtain ⟨r, e, h, xs, h1, q⟩ := q
  exact ⟨_, _, by simp only [evI, h, Out.bind, h1], q⟩
theorem i_zip {a b : Tm} {Q : List D → Ev → Prop} (q : WE pg cf keep a env fun r e1 => WE pg cf keep b e1 fun r' e => ∃ xs ys, ((r.2 = .lst xs ∧ r'.2 = .lst ys) ∨ (r.2 = .tup xs ∧ r'.2 = .tup ys)) ∧ Q (zipD xs ys) e) : WI pg cf keep (.zip a b) env Q := by
  obtain ⟨r, e1, h, r', e, h', xs, ys, ⟨h1, h2⟩ | ⟨h1, h2⟩, q⟩ := q
  · exact ⟨_, _, by simp only [evI, h, h', Out.bind, h1, h2], q⟩
  · exact ⟨_, _, by simp only [evI, h, h', Out.bind, h1, h2], q⟩
theorem c_val {a : Tm} {Q : Bool → Ev → Prop} (q : WO pg cf keep a env fun x e => ∃ d k, rdO e x = some d ∧ truD d = some k ∧ Q k e) : WC pg cf keep (.val a) env Q := by
  obtain ⟨x, e, h, d, k, h1, h2, q⟩ := q
  refine ⟨k, e, ?_, q⟩
  simp only [evC, h, Out.bind, h1, Option.bind_some, h2]
theorem c_cmp {a : Tm} {Q : Bool → Ev → Prop} (q : WE pg cf keep a env fun r e => ∃ k, r.2 = .bl k ∧ Q k e) : WC pg cf keep (.cmp a) env Q := by
  obtain ⟨r, e, h, k, h1, q⟩ := q
  exact ⟨_, _, by simp only [evC, h, Out.bind, h1], q⟩
theorem c_and {a b : Ct} {Q : Bool → Ev → Prop} (q : WC pg cf keep a env fun t e => (t = true → WC pg cf keep b e Q) ∧ (t = false → Q false e)) : WC pg cf keep (.and a b) env Q := by
  obtain ⟨t, e, h, q1, q2⟩ := q
  constructor; simp only [evC]
  rw [h]
  cases t with
  | true => exact (q1 rfl).ex
  | false => exact ⟨_, _, rfl, q2 rfl⟩
theorem c_or {a b : Ct} {Q : Bool → Ev → Prop} (q : WC pg cf keep a env fun t e => (t = true → Q true e) ∧ (t = false → WC pg cf keep b e Q)) : WC pg cf keep (.or a b) env Q := by
  obtain ⟨t, e, h, q1, q2⟩ := q
  constructor; simp only [evC]
  rw [h]
  cases t with
  | true => exact ⟨_, _, rfl, q1 rfl⟩
  | false => exact (q2 rfl).ex
theorem c_not {a : Ct} {Q : Bool → Ev → Prop} (q : WC pg cf keep a env fun t e => Q (!t) e) : WC pg cf keep (.not a) env Q := by
  obtain ⟨t, e, h, q⟩ := q
  exact ⟨_, _, by simp only [evC, h, Out.bind], q⟩
/-! statements -/
section
variable {N : Ev → Prop} {R : Flow' → Ev → Prop}
theorem ss_nil (q : N env) : WSs pg cf keep wf .nil env N R := ⟨_, _, by simp only [exSs], .inl ⟨rfl, q⟩⟩
theorem ss_cons {s : Sm} {r : Sms} (q : WS pg cf keep wf s env (fun e => WSs pg cf keep wf r e N R) R) : WSs pg cf keep wf (.cons s r) env N R := by
  obtain ⟨f, e, h, ⟨rfl, q⟩ | ⟨hf, q⟩⟩ := q
  · obtain ⟨f', e', h', q'⟩ := q
    exact ⟨f', e', by simp only [exSs, h, h'], q'⟩
  · refine ⟨f, e, ?_, .inr ⟨hf, q⟩⟩
    cases f with
    | nx => exact absurd rfl hf
    | _ => simp only [exSs, h]
theorem asg {i : Nat} {a : Tm} (q : WE pg cf keep a env fun r e => ∃ e2, putE keep i r e = some e2 ∧ N e2) : WS pg cf keep wf (.asg i a) env N R := by
  obtain ⟨r, e, h, e2, h1, q⟩ := q
  exact ⟨_, _, by simp only [exS, h, Out.bind, h1, lift], .inl ⟨rfl, q⟩⟩
theorem unp {is : List Nat} {a : Tm} (q : WE pg cf keep a env fun r e => ∃ e2, target keep is false r.2 e = some e2 ∧ N e2) : WS pg cf keep wf (.unp is a) env N R := by
  obtain ⟨r, e, h, e2, h1, q⟩ := q
  exact ⟨_, _, by simp only [exS, h, Out.bind, h1, lift], .inl ⟨rfl, q⟩⟩
theorem par {is : List Nat} {es : Tms} (q : WR pg cf keep es env fun rs e => ∃ e2, putRs keep is rs e = some e2 ∧ N e2) : WS pg cf keep wf (.par is es) env N R := by
  obtain ⟨r, e, h, e2, h1, q⟩ := q
  exact ⟨_, _, by simp only [exS, h, Out.bind, h1, lift], .inl ⟨rfl, q⟩⟩
theorem setk {i : Nat} {k v : Tm} (q : WE pg cf keep v env fun x e1 => ∃ kvs0, getS e1 i = some (true, .dct kvs0) ∧ WO pg cf keep k e1 fun y e2 => ∃ kvs u key, getS e2 i = some (true, .dct kvs) ∧ rdO e2 y = some u ∧ keyD u = some key ∧ kvs.length < sizeLine ∧ N (e2.set i (some (ow (.dct (putD kvs key x.2)))))) : WS pg cf keep wf (.setk i k v) env N R := by
  obtain ⟨x, e1, h, kvs0, h1, y, e2, h2, kvs, u, key, h3, h4, h5, h6, q⟩ := q
  refine ⟨_, _, ?_, .inl ⟨rfl, q⟩⟩
  simp only [exS, h, Out.bind, h1, h2, h3, h4, Option.bind_some, h5, h6, if_true]
theorem aug {i : Nat} {a : Tm} {m : Int} (h0 : getS env i = some (false, .int m)) (q : WE pg cf keep a env fun x e1 => ∃ n e2, x.2 = .int n ∧ putE keep i (fz (.int (m + n))) e1 = some e2 ∧ N e2) : WS pg cf keep wf (.aug i a) env N R := by
  obtain ⟨x, e1, h, n, e2, h1, h2, q⟩ := q
  exact ⟨_, _, by simp only [exS, h0, h, Out.bind, h1, h2, lift], .inl ⟨rfl, q⟩⟩
theorem ifs {c : Ct} {a b : Sms} (q : WC pg cf keep c env fun t e => (t = true → WSs pg cf keep wf a e N R) ∧ (t = false → WSs pg cf keep wf b e N R)) : WS pg cf keep wf (.ifs c a b) env N R := by
  obtain ⟨t, e, h, q1, q2⟩ := q
  constructor; simp only [exS]
  rw [h]
  cases t with
  | true => exact (q1 rfl).ex
  | false => exact (q2 rfl).ex
theorem ret {a : Tm} (hv : ∀ i, a ≠ .var i) (q : WE pg cf keep a env fun r e => R (.ret r) e) : WS pg cf keep wf (.ret a) env N R := by
  obtain ⟨r, e, h, q⟩ := q
  refine ⟨.ret r, e, ?_, .inr ⟨fun z => (nomatch z), q⟩⟩
  cases a <;> first | exact absurd rfl (hv _) | simp only [exS, h, Out.bind]
theorem ret_own {i : Nat} {d : D} (h : getS env i = some (true, d)) (hk : keep ≤ i) (q : R (.ret (ow d)) env) : WS pg cf keep wf (.ret (.var i)) env N R := ⟨.ret (ow d), env, by simp only [exS, h, hk, if_true], .inr ⟨fun z => (nomatch z), q⟩⟩
theorem ret_fz {i : Nat} {d : D} (h : getS env i = some (false, d)) (q : R (.ret (fz d)) env) : WS pg cf keep wf (.ret (.var i)) env N R := ⟨.ret (fz d), env, by simp only [exS, h], .inr ⟨fun z => (nomatch z), q⟩⟩
theorem retn (q : R (.ret (fz .non)) env) : WS pg cf keep wf .retn env N R := ⟨.ret (fz .non), env, by simp only [exS], .inr ⟨fun z => (nomatch z), q⟩⟩
theorem expr {a : Tm} (q : WE pg cf keep a env fun _ e => N e) : WS pg cf keep wf (.expr a) env N R := by
  obtain ⟨r, e, h, q⟩ := q
  exact ⟨_, _, by simp only [exS, h, Out.bind], .inl ⟨rfl, q⟩⟩
theorem pass (q : N env) : WS pg cf keep wf .pass env N R := ⟨_, _, by simp only [exS], .inl ⟨rfl, q⟩⟩
/-- a for by an invariant: I k e ahead of the k-th item -/
theorem fors {tg : List Nat} {one : Bool} {it : It} {b : Sms} (q : WI pg cf keep it env fun items e1 => ∃ I : Nat → Ev → Prop, I 0 e1 ∧ (∀ k d e, items[k]? = some d → I k e → ∃ en1, target keep tg one d e = some en1 ∧ WSs pg cf keep wf b en1 (fun e' => I (k + 1) e') fun f e' => (f = .cont ∧ I (k + 1) e') ∨ (f = .brk ∧ N e') ∨ (∃ r, f = .ret r ∧ R (.ret r) e')) ∧ ∀ e, I items.length e → N e) : WS pg cf keep wf (.fors tg one it b) env N R := by
  obtain ⟨items, e1, h, I, I0, hs, hN⟩ := q
  constructor; simp only [exS, h, Out.bind]
  have key : ∀ (rest pre : List D) (e : Ev), items = pre ++ rest → I pre.length e → ∃ f e', forLoop (fun d en => match target keep tg one d en with
        | none => .stuck
        | some en1 => exSs pg cf keep wf b en1) rest e = .ok f e' ∧ ((f = .nx ∧ N e') ∨ (f ≠ .nx ∧ R f e')) := by
    intro rest
    induction rest with
    | nil =>
      intro pre e hi i0
      exact ⟨.nx, e, rfl, .inl ⟨rfl, hN e (by rw [hi, List.append_nil]; exact i0)⟩⟩
    | cons d ds ih =>
      intro pre e hi i0
      obtain ⟨en1, ht, f, e', hb, hq⟩ := hs pre.length d e (by rw [hi]; simp) i0
      have go : I (pre.length + 1) e' → ∃ f e'', forLoop (fun d en => match target keep tg one d en with
        | none => .stuck
        | some en1 => exSs pg cf keep wf b en1) ds e' = .ok f e'' ∧ ((f = .nx ∧ N e'') ∨ (f ≠ .nx ∧ R f e'')) := fun i1 => ih (pre ++ [d]) e' (by rw [hi]; simp) (by simpa using i1)
      simp only [forLoop, ht, hb]
      rcases hq with ⟨rfl, i1⟩ | ⟨hf, ⟨rfl, i1⟩ | ⟨rfl, n1⟩ | ⟨r, rfl, r1⟩⟩
      · exact go i1
      · exact go i1
      · exact ⟨_, _, rfl, .inl ⟨rfl, n1⟩⟩
      · exact ⟨_, _, rfl, .inr ⟨fun z => (nomatch z), r1⟩⟩
  exact key items [] e1 rfl I0
def fturn (pg : Pg) (cf : Nat → List Rv → COut) (keep wf : Nat) (tg : List Nat) (one : Bool) (b : Sms) (d : D) (en : Ev) : Out Flow' := match target keep tg one d en with
  | none => .stuck
  | some en1 => exSs pg cf keep wf b en1
/-- a for over items that are written out -/
structure WFl (pg : Pg) (cf : Nat → List Rv → COut) (keep wf : Nat) (tg : List Nat) (one : Bool) (b : Sms) (items : List D) (env : Ev) (N : Ev → Prop) (R : Flow' → Ev → Prop) : Prop where
  ex : ∃ f e, forLoop (fturn pg cf keep wf tg one b) items env = .ok f e ∧ ((f = .nx ∧ N e) ∨ (f ≠ .nx ∧ R f e))
theorem fors_l {tg : List Nat} {one : Bool} {it : It} {b : Sms} (q : WI pg cf keep it env fun items e1 => WFl pg cf keep wf tg one b items e1 N R) : WS pg cf keep wf (.fors tg one it b) env N R := by
  obtain ⟨items, e1, h, f, e, h2, q⟩ := q
  refine ⟨f, e, ?_, q⟩
  have e0 : exS pg cf keep wf (.fors tg one it b) env = (evI pg cf keep it env).bind fun items e1 => forLoop (fturn pg cf keep wf tg one b) items e1 := by
    rw [exS]; rfl
  rw [e0, h]
  exact h2
theorem fl_nil {tg : List Nat} {one : Bool} {b : Sms} (q : N env) : WFl pg cf keep wf tg one b [] env N R := ⟨_, _, rfl, .inl ⟨rfl, q⟩⟩
theorem fl_cons {tg : List Nat} {one : Bool} {b : Sms} {d : D} {ds : List D} {en1 : Ev} (ht : target keep tg one d env = some en1) (q : WSs pg cf keep wf b en1 (fun e' => WFl pg cf keep wf tg one b ds e' N R) fun f e' => (f = .cont ∧ WFl pg cf keep wf tg one b ds e' N R) ∨ (f = .brk ∧ N e') ∨ (∃ r, f = .ret r ∧ R (.ret r) e')) : WFl pg cf keep wf tg one b (d :: ds) env N R := by
  obtain ⟨f, e', hb, hq⟩ := q
  constructor
  simp only [forLoop, fturn, ht, hb]
  rcases hq with ⟨rfl, i1⟩ | ⟨hf, ⟨rfl, i1⟩ | ⟨rfl, n1⟩ | ⟨r, rfl, r1⟩⟩
  · exact i1.ex
  · exact i1.ex
  · exact ⟨_, _, rfl, .inl ⟨rfl, n1⟩⟩
  · exact ⟨_, _, rfl, .inr ⟨fun z => (nomatch z), r1⟩⟩
/-- a while by an invariant and a number that falls -/
theorem whiles {c : Ct} {b : Sms} (I : Nat → Ev → Prop) (n : Nat) (hn : n < wf) (i0 : I n env) (hs : ∀ k e, k ≤ n → I k e → WC pg cf keep c e fun t e1 => (t = false → N e1) ∧ (t = true → WSs pg cf keep wf b e1 (fun e' => ∃ k', k' < k ∧ I k' e') fun f e' => (f = .cont ∧ ∃ k', k' < k ∧ I k' e') ∨ (f = .brk ∧ N e') ∨ (∃ r, f = .ret r ∧ R (.ret r) e'))) : WS pg cf keep wf (.whiles c b) env N R := by
  constructor; simp only [exS]
  have key : ∀ (m k : Nat) (e : Ev), k < m → k ≤ n → I k e → ∃ f e', whileLoop (evC pg cf keep c) (exSs pg cf keep wf b) m e = .ok f e' ∧ ((f = .nx ∧ N e') ∨ (f ≠ .nx ∧ R f e')) := by
    intro m
    induction m with
    | zero => intro k e hk; omega
    | succ m ih =>
      intro k e hk hkn i1
      obtain ⟨t, e1, hc, q1, q2⟩ := hs k e hkn i1
      simp only [whileLoop, hc, Out.bind]
      cases t with
      | false => exact ⟨_, _, rfl, .inl ⟨rfl, q1 rfl⟩⟩
      | true =>
        obtain ⟨f, e', hb, hq⟩ := q2 rfl
        simp only [if_true, hb]
        rcases hq with ⟨rfl, k', l', i2⟩ | ⟨hf, ⟨rfl, k', l', i2⟩ | ⟨rfl, n1⟩ | ⟨r, rfl, r1⟩⟩
        · exact ih k' e' (by omega) (by omega) i2
        · exact ih k' e' (by omega) (by omega) i2
        · exact ⟨_, _, rfl, .inl ⟨rfl, n1⟩⟩
        · exact ⟨_, _, rfl, .inr ⟨fun z => (nomatch z), r1⟩⟩
  exact key wf n env hn (Nat.le_refl _) i0
end
theorem ws_mono {s : Sm} {N N' : Ev → Prop} {R : Flow' → Ev → Prop} (q : WS pg cf keep wf s env N R) (h : ∀ e, N e → N' e) : WS pg cf keep wf s env N' R := by
  obtain ⟨f, e, h1, ⟨rfl, q⟩ | q⟩ := q
  · exact ⟨_, _, h1, .inl ⟨rfl, h e q⟩⟩
  · exact ⟨_, _, h1, .inr q⟩
theorem ss_mono {s : Sms} {N N' : Ev → Prop} {R R' : Flow' → Ev → Prop} (q : WSs pg cf keep wf s env N R) (h : ∀ e, N e → N' e) (h' : ∀ f e, R f e → R' f e) : WSs pg cf keep wf s env N' R' := by
  obtain ⟨f, e, h1, ⟨rfl, q⟩ | ⟨hf, q⟩⟩ := q
  · exact ⟨_, _, h1, .inl ⟨rfl, h e q⟩⟩
  · exact ⟨_, _, h1, .inr ⟨hf, h' f e q⟩⟩
theorem we_mono {t : Tm} {Q Q' : Rv → Ev → Prop} (q : WE pg cf keep t env Q) (h : ∀ r e, Q r e → Q' r e) : WE pg cf keep t env Q' := by
  obtain ⟨r, e, h1, q⟩ := q
  exact ⟨_, _, h1, h r e q⟩
/-- a def's call, by its body -/
theorem fn {ft : Nat → Option Fd} {k f : Nat} {rs : List Rv} {d : Fd} {P : Rv → List Slot → Prop} (env : Ev) (hd : ft f = some d) (he : (packR d.star d.np rs).map some ++ List.replicate (d.nn - d.np) none = env) (h1 : (packR d.star d.np rs).length = d.np) (h3 : starOk d rs = true)
    (q : WSs pg (callF pg ft wf k) d.keep wf d.body env (fun e => P (fz .non) (e.take d.np)) fun f e => ∃ r, f = .ret r ∧ P r (e.take d.np)) (h2 : rs.length ≤ sizeLine) : ∃ r outs, callF pg ft wf (k + 1) f rs = .ok r outs ∧ P r outs := by
  obtain ⟨f', e, h, hq⟩ := q
  subst he
  simp only [callF, hd, h1, h2, h3, and_self, if_true, h]
  rcases hq with ⟨rfl, p⟩ | ⟨_, r, rfl, p⟩
  · exact ⟨_, _, rfl, p⟩
  · exact ⟨_, _, rfl, p⟩
theorem ati {α : Type} {xs : List α} {i : Nat} {x : α} (h : xs[i]? = some x) : atI xs (i : Int) = some x := by
  have lt := (List.getElem?_eq_some_iff.mp h).1
  unfold atI ixN
  rw [if_pos (by omega), if_pos (by omega)]
  simpa using h
theorem ix0 (x : D) (r : List D) : idxD (.tup (x :: r)) (.int 0) = some x := ati (i := 0) rfl
theorem ix1 (x y : D) (r : List D) : idxD (.tup (x :: y :: r)) (.int 1) = some y := ati (i := 1) rfl
theorem ix2 (x y z : D) (r : List D) : idxD (.tup (x :: y :: z :: r)) (.int 2) = some z := ati (i := 2) rfl
theorem ixl0 (x : D) (r : List D) : idxD (.lst (x :: r)) (.int 0) = some x := ati (i := 0) rfl
theorem ixn {xs : List D} {i : Nat} {x : D} (h : xs[i]? = some x) : idxD (.tup xs) (.int i) = some x := ati h
theorem ixln {xs : List D} {i : Nat} {x : D} (h : xs[i]? = some x) : idxD (.lst xs) (.int i) = some x := ati h
theorem iff_f {A B : Prop} (h : B) : (false = true → A) ∧ (false = false → B) := ⟨fun z => (nomatch z), fun _ => h⟩
theorem iff_t {A B : Prop} (h : A) : (true = true → A) ∧ (true = false → B) := ⟨fun _ => h, fun z => (nomatch z)⟩
theorem iff_f2 {A B : Prop} (h : A) : (false = false → A) ∧ (false = true → B) := ⟨fun _ => h, fun z => (nomatch z)⟩
theorem iff_t2 {A B : Prop} (h : B) : (true = false → A) ∧ (true = true → B) := ⟨fun z => (nomatch z), fun _ => h⟩
theorem len_id {α : Type} {xs : List α} {m : Nat} (h : xs.length ≤ m) : xs.length ≤ m := h
theorem len_le {α : Type} {xs : List α} {n m : Nat} (h : xs.length = n) (h2 : n ≤ m) : xs.length ≤ m := h ▸ h2
end W
end
end Ev
open Ev in
local macro_rules | `(tactic| walk_at "ev1") => `(tactic| first
  | ((with_reducible show WO _ _ _ _ _ _); first | refine W.o_own rfl ?_ | refine W.o_fz rfl ?_ | refine W.o_tm nofun ?_)
  | ((with_reducible show WE _ _ _ _ _ _); first | refine W.var_fz rfl ?_ | refine W.cst ?_ | refine W.idx ?_ | refine W.cmp ?_ | refine W.bi ?_ | refine W.call ?_ | refine W.bin ?_ | refine W.tupd ?_ | refine W.gl rfl ?_ | refine W.var_ow rfl ?_ | refine W.lstd ?_ | refine W.slc ?_ | refine W.andv ?_ | refine W.orv ?_ | refine W.ife ?_ | refine W.isN ?_ | refine W.isNN ?_ | refine W.mu rfl ?_ | refine W.chain ?_ | refine W.neg ?_ | refine W.notv ?_ | refine W.callv rfl ?_ | refine W.gidx ?_ | refine W.gin ?_ | refine W.gdict rfl ?_ | refine W.fnv ?_ | refine W.dctd ?_ | refine W.evn ?_ | refine W.rev ?_ | refine W.join ?_ | refine W.dget ?_ | refine W.zipl ?_ | refine W.ncall ?_)
  | ((with_reducible show WS _ _ _ _ _ _ _ _); first | refine W.asg ?_ | refine W.expr ?_ | refine W.ret_own rfl (by decide) ?_ | refine W.ret_fz rfl ?_ | refine W.ret nofun ?_ | refine W.par ?_ | refine W.unp ?_ | refine W.setk ?_ | refine W.retn ?_ | refine W.aug rfl ?_ | refine W.pass ?_)
  | ((with_reducible show WC _ _ _ _ _ _); first | refine W.c_cmp ?_ | refine W.c_and ?_ | refine W.c_or ?_ | refine W.c_not ?_ | refine W.c_val ?_)
  | ((with_reducible show WA _ _ _ _ _ _); first | refine W.a_cons ?_ | refine W.a_nil ?_)
  | ((with_reducible show WF _ _ _ _ _ _); first | refine W.f_cons ?_ | refine W.f_nil ?_ | refine W.f_star ?_)
  | ((with_reducible show WR _ _ _ _ _ _); first | refine W.r_cons ?_ | refine W.r_nil ?_)
  | ((with_reducible show WP _ _ _ _ _ _); first | refine W.p_cons ?_ | refine W.p_nil ?_)
  | ((with_reducible show WTo _ _ _ _ _ _); first | refine W.to_no ?_ | refine W.to_yes ?_)
  | ((with_reducible show WTc _ _ _ _ _ _); first | refine W.tc_no ?_ | refine W.tc_yes ?_)
  | ((with_reducible show WI _ _ _ _ _ _); first | refine W.i_seq ?_ | refine W.i_rng1 ?_ | refine W.i_rng2 ?_ | refine W.i_enum ?_ | refine W.i_zip ?_))
open Ev in
local macro_rules | `(tactic| walk_at "ev2") => `(tactic| first
  | (refine Exists.intro _ (Exists.intro _ (Exists.intro _ ⟨rfl, rfl, rfl, ?_⟩)); try dsimp only)
  | (refine Exists.intro _ (Exists.intro _ ⟨rfl, rfl, ?_⟩); try dsimp only)
  | (refine Exists.intro _ ⟨rfl, ?_⟩; try dsimp only [List.set])
  | refine And.intro (W.len_id (by simp only [List.length_cons, List.length_nil]; decide)) ?_
  | (refine Exists.intro _ (Exists.intro _ ⟨Or.inl ⟨rfl, rfl⟩, ?_⟩); try dsimp only)
  | (refine Exists.intro _ (Exists.intro _ ⟨Or.inr ⟨rfl, rfl⟩, ?_⟩); try dsimp only)
  | (refine Exists.intro _ (Exists.intro _ (Exists.intro _ ⟨rfl, rfl, ?_⟩)); try dsimp only [List.set])
  | refine Or.inl (And.intro rfl ?_)
  | refine Or.inr (And.intro rfl ?_)
  | refine W.iff_f ?_
  | refine W.iff_t ?_
  | refine W.iff_f2 ?_
  | refine W.iff_t2 ?_
  | refine And.intro (W.RngI.mk (by omega) (by omega)) ?_
  | refine W.add_ii ?_
  | refine W.sub_ii ?_
  | refine W.mod_ii (by omega) ?_
  | refine W.mul_ii (by omega) ?_
  | refine W.fdiv_ii (by omega) ?_
  | refine W.pow_ii (by decide) ?_)
open Ev in
local macro_rules | `(tactic| walk_at "ev") => `(tactic| repeat (first | walk_at "ev1" | refine W.ss_cons ?_ | refine W.ifs ?_ | refine W.ss_nil ?_ | walk_at "ev2"))
open Ev in
local macro_rules | `(tactic| walk_at "evn") => `(tactic| repeat (first | walk_at "ev1" | refine W.ss_cons ?_ | refine W.ss_nil ?_ | walk_at "ev2"))
open Ev in
local macro_rules | `(tactic| walk_at "evx") => `(tactic| repeat (first | walk_at "ev1" | refine W.ss_cons ?_ | walk_at "ev2"))
open Ev in
local macro_rules | `(tactic| walk_at "norm") => `(tactic| try dsimp only [wipeE, restE, List.set, getS, List.getElem?_cons_zero, List.getElem?_cons_succ, Option.getD_some, Option.toList, List.cons_append, List.nil_append])
open Ev in
local macro_rules | `(tactic| walk_at "evu") => `(tactic| repeat (first | walk_at "ev1" | refine W.ss_cons ?_ | refine W.ifs ?_ | refine W.ss_nil ?_ | (refine W.comp ?_; walk_at "norm") | refine W.fors_l ?_ | (refine W.fl_cons rfl ?_; walk_at "norm") | refine W.fl_nil ?_ | ((with_reducible refine W.cl_cons ?_); refine W.cturn_ok rfl ?_; walk_at "norm") | ((with_reducible refine W.cl_nil ?_); walk_at "norm") | walk_at "ev2" | (refine And.intro rfl ?_; walk_at "norm")))
open Ev in
local macro_rules | `(tactic| walk_at "evy") => `(tactic| repeat (first | walk_at "ev1" | walk_at "ev2"))
/-! P98: the pen, a draw, a pick, over k98's data (printed from P1, P2). -/
namespace Ev.K98
open PySem L2
abbrev pg0 (kp : Nat → Nat) : Pg := law.pg
structure Fx (kp : Nat → Nat) (ft : Nat → Option Fd) : Prop where
  law_pen : ft 41 = some d_law_pen
  law_draw : ft 42 = some d_law_draw
  law_pick : ft 43 = some d_law_pick
  kp : ∀ f d, ft f = some d → law.pg.keeps f = d.keep
section
variable {kp : Nat → Nat} {ft : Nat → Option Fd} {cf : Nat → List Rv → COut}
theorem cl (X : Fx kp ft) {f : Nat} {os : List Opd} {e1 : Ev} {Q : Rv → Ev → Prop} {d : Fd} (hf : ft f = some d) {rs : List Rv} {r : Rv} {outs : List Slot} (hc : cf f rs = .ok r outs) (e3 : Ev) {e2 : Ev} (nd : (slotsOf os).Nodup) (hl : lendAll d.keep 0 os e1 = some (rs, e2)) (hg : giveBack os rs outs e2 = e3) (q : Q r e3) : W.Cl (pg0 kp) cf f os e1 Q :=
  ⟨nd, rs, e2, by rw [show (pg0 kp).keeps f = d.keep from X.kp f d hf]; exact hl, r, outs, hc, by rw [hg]; exact q⟩
end
structure Pen where
  c : List Int
  u : Nat
  l : Int
def penK (p : Pen) : List (Key × D) := [(.inr "cells", .lst (p.c.map D.int)), (.inr "used", .int p.u), (.inr "left", .int p.l)]
def Pen.d (p : Pen) : Rv := ow (.dct (penK p))
structure Pen.ok (p : Pen) (n : Nat) : Prop where
  u : p.u ≤ n
  l : 0 ≤ p.l
theorem Pen.ok.mono {p : Pen} {n m : Nat} (h : p.ok n) (l : n ≤ m) : p.ok m := ⟨Nat.le_trans h.u l, h.l⟩
theorem pen_setl (c : List Int) (u : Nat) (l v : Int) : putD (penK ⟨c, u, l⟩) (.inr "left") (.int v) = penK ⟨c, u, v⟩ := rfl
theorem pen_setu (c : List Int) (u : Nat) (l : Int) : putD (penK ⟨c, u, l⟩) (.inr "used") (.int ((u : Int) + 1)) = penK ⟨c, u + 1, l⟩ := rfl
theorem atI_nat {α : Type} {xs : List α} {i : Nat} {x : α} (h : xs[i]? = some x) : atI xs (i : Int) = some x := by
  have lt := (List.getElem?_eq_some_iff.mp h).1
  unfold atI ixN
  rw [if_pos (by omega), if_pos (by omega)]
  simpa using h
theorem atI_mod {c : List Int} {u : Nat} (h : c ≠ []) : ∃ x : Int, atI (c.map D.int) ((u : Int) % ((c.map D.int).length : Int)) = some (.int x) := by
  have hl : 0 < c.length := List.length_pos_iff.mpr h
  rw [List.length_map]
  have e : (u : Int) % (c.length : Int) = ((u % c.length : Nat) : Int) := by omega
  have lt := Nat.mod_lt u hl
  rw [e]
  refine ⟨c[u % c.length], atI_nat ?_⟩
  rw [List.getElem?_map, List.getElem?_eq_getElem lt]
  rfl
section
variable {kp : Nat → Nat} {ft : Nat → Option Fd} {wf k : Nat} (X : Fx kp ft)
include X
theorem draw_ok {p : Pen} {n : Nat} (hp : p.ok n) (hn : n < 1099511627776) {m : Int} (hm : 0 < m) (hm2 : m < 1073741824) :
    ∃ r outs, callF (pg0 kp) ft wf (k + 1) 42 [p.d, fz (.int m)] = .ok r outs ∧ ∃ (p' : Pen) (i : Int), r = fz (.int i) ∧ outs = [some p'.d, some (fz (.int m))] ∧ 0 ≤ i ∧ i < m ∧ p'.ok (n + 1) := by
  obtain ⟨hu, hl⟩ := hp
  obtain ⟨c, u, l⟩ := p
  dsimp only at hu hl
  refine W.fn [some (Pen.d ⟨c, u, l⟩), some (fz (.int m)), none, none, none, none] X.law_draw rfl rfl rfl ?_ (by show 2 ≤ sizeLine; decide)
  unfold d_law_draw Pen.d
  dsimp only
  walk_at "ev"
  refine ⟨fun h => ?_, fun h => ?_⟩
  · walk_at "ev"
    refine ⟨(by decide : 3 < sizeLine), ?_⟩
    walk_at "ev"
    refine ⟨⟨c, u, l / m⟩, l % m, rfl, rfl, Int.emod_nonneg _ (by omega), Int.emod_lt_of_pos _ hm, ⟨by dsimp only; omega, Int.ediv_nonneg hl (by omega)⟩⟩
  · walk_at "ev"
    refine ⟨(by decide : 3 < sizeLine), ?_⟩
    rw [pen_setu]
    have last : ∀ (x : Int) (N : Ev → Prop), WSs (pg0 kp) (callF (pg0 kp) ft wf k) 2 wf (match d_law_draw.body with
        | .cons _ (.cons _ (.cons _ (.cons _ (.cons _ (.cons _ r))))) => r
        | _ => .nil) [some (Pen.d ⟨c, u + 1, l⟩), some (fz (.int m)), none, some (fz (.int u)), some (fz (.int x)), none] N fun f e => ∃ r, f = .ret r ∧ ∃ (p' : Pen) (i : Int), r = fz (.int i) ∧ e.take 2 = [some p'.d, some (fz (.int m))] ∧ 0 ≤ i ∧ i < m ∧ p'.ok (n + 1) := by
      intro x N
      unfold d_law_draw Pen.d
      dsimp only
      walk_at "ev"
      exact ⟨Int.emod_nonneg _ (by omega), Int.emod_lt_of_pos _ hm, ⟨by show u + 1 ≤ n + 1; omega, hl⟩⟩
    have tail : ∀ (x : Int) (N : Ev → Prop), WSs (pg0 kp) (callF (pg0 kp) ft wf k) 2 wf (match d_law_draw.body with
        | .cons _ (.cons _ (.cons _ (.cons _ (.cons _ r)))) => r
        | _ => .nil) [some (Pen.d ⟨c, u + 1, l⟩), some (fz (.int m)), none, some (fz (.int u)), some (fz (.int x)), none] N fun f e => ∃ r, f = .ret r ∧ ∃ (p' : Pen) (i : Int), r = fz (.int i) ∧ e.take 2 = [some p'.d, some (fz (.int m))] ∧ 0 ≤ i ∧ i < m ∧ p'.ok (n + 1) := by
      intro x N
      unfold d_law_draw Pen.d
      dsimp only
      walk_at "ev"
      refine ⟨fun h1 => ?_, fun h1 => ?_⟩
      · walk_at "ev"
        refine ⟨fun h2 => ?_, fun h2 => ?_⟩
        · walk_at "ev"
          refine ⟨(by decide : 3 < sizeLine), ?_⟩
          walk_at "ev"
          have h3 := of_decide_eq_true h2
          refine ⟨⟨c, u + 1, _⟩, _, rfl, rfl, Int.emod_nonneg _ (by omega), Int.emod_lt_of_pos _ hm, ⟨by show u + 1 ≤ n + 1; omega, Int.ediv_nonneg ?_ (by omega)⟩⟩
          generalize (10 : Int) ^ Int.toNat 18 = z at h3 ⊢
          omega
        · refine W.ss_nil ?_
          exact last x N
      · refine ⟨fun h2 => (by cases h2), fun _ => ?_⟩
        refine W.ss_nil ?_
        exact last x N
    cases c with
    | nil =>
      walk_at "evx"
      refine W.ifs ?_
      walk_at "evx"
      refine W.ss_nil ?_
      exact tail _ _
    | cons y c =>
      walk_at "evx"
      refine W.ifs ?_
      walk_at "evx"
      obtain ⟨x, hx⟩ := atI_mod (c := y :: c) (u := u) (by simp)
      refine W.mod_ii (by simp only [List.length_map, List.length_cons]; omega) ?_
      refine ⟨_, _, _, rfl, rfl, hx, ?_⟩
      walk_at "ev2"
      refine W.ss_nil ?_
      exact tail _ _
end
theorem bi_len {d : D} {n : Int} (h : lenD d = some n) : biD .len d = some (fz (.int n)) := by
  show (lenD d).map (fun n => fz (.int n)) = _
  rw [h]
  rfl
section
variable {kp : Nat → Nat} {ft : Nat → Option Fd} {wf k : Nat} (X : Fx kp ft)
include X
theorem pick_ok {p : Pen} {n : Nat} (hp : p.ok n) (hn : n < 1099511627776) {o : Bool} {opts : D} {len : Nat} (hl : lenD opts = some (len : Int)) (h0 : 0 < len) (h1 : len < 1073741824) (hx : ∀ i : Nat, i < len → ∃ d, idxD opts (.int i) = some d) :
    ∃ r outs, callF (pg0 kp) ft wf (k + 2) 43 [p.d, (o, opts)] = .ok r outs ∧ ∃ (p' : Pen) (i : Nat) (d : D), r = fz d ∧ outs = [some p'.d, some (o, opts)] ∧ i < len ∧ idxD opts (.int i) = some d ∧ p'.ok (n + 1) := by
  obtain ⟨r, outs, hc, p', i, rfl, rfl, i0, i1, hp'⟩ := draw_ok (wf := wf) (k := k) X hp hn (m := len) (by omega) (by omega)
  obtain ⟨j, rfl⟩ : ∃ j : Nat, i = j := ⟨i.toNat, by omega⟩
  obtain ⟨d, hd⟩ := hx j (by omega)
  refine W.fn [some p.d, some (o, opts)] X.law_pick rfl rfl rfl ?_ (by show 2 ≤ sizeLine; decide)
  unfold d_law_pick
  dsimp only
  cases o with
  | false =>
    walk_at "ev"
    refine ⟨_, _, rfl, bi_len hl, ?_⟩
    walk_at "ev"
    refine cl X X.law_draw hc [some p'.d, some (_, opts)] (by simp [slotsOf]) rfl rfl ?_
    refine ⟨_, _, _, rfl, rfl, hd, ?_⟩
    exact ⟨_, rfl, p', j, d, rfl, rfl, by omega, hd, hp'⟩
  | true =>
    walk_at "ev"
    refine ⟨_, _, rfl, bi_len hl, ?_⟩
    walk_at "ev"
    refine cl X X.law_draw hc [some p'.d, some (_, opts)] (by simp [slotsOf]) rfl rfl ?_
    refine ⟨_, _, _, rfl, rfl, hd, ?_⟩
    exact ⟨_, rfl, p', j, d, rfl, rfl, by omega, hd, hp'⟩
theorem pen_ok (ns : List Int) : ∃ r outs, callF (pg0 kp) ft wf (k + 1) 41 [fz (.scr ns)] = .ok r outs ∧ ∃ (p : Pen), r = p.d ∧ outs = [some (fz (.scr ns))] ∧ p.ok 0 := by
  refine W.fn [some (fz (.scr ns))] X.law_pen rfl rfl rfl ?_ (by show 1 ≤ sizeLine; decide)
  unfold d_law_pen
  dsimp only
  walk_at "ev"
  exact ⟨⟨cutL ns none (some 63), 0, 0⟩, rfl, rfl, ⟨Nat.le_refl _, Int.le_refl _⟩⟩
end
end Ev.K98
section
/-! Y98: what k98's defs answer, in the kernel. -/
namespace Ev.K98
open PySem L2
abbrev ft : Nat → Option Fd := ftOf law.dfs
theorem fields_ok (k : Nat) (v w : D) : callF law.pg ft 1000 (k + 1) 127 [fz v, fz w] = .ok (ow (.lst (List.replicate 28 v))) [some (fz v), some (fz w)] := by kernel_rfl
/-- an error of each class -/
def errs (v : D) : List D := [.er 0 [("reason", v)], .er 1 [("value", v)], .er 2 [("value", v)], .er 7 [("value", v)], .er 8 [("value", v)], .er 9 [("value", v)], .er 11 [("index", v)], .er 12 [("value", v)], .er 6 [("word", .int 0), ("line", v)], .er 10 [], .er 3 [("value", v)], .er 4 [("value", v)], .er 5 [("place", v)], .er 13 [("index", v)]]
theorem errs_ok (k : Nat) (v : D) : callF law.pg ft 1000 (k + 1) 128 [fz v] = .ok (ow (.lst (errs v))) [some (fz v)] := by kernel_rfl
theorem bounds_ok (k : Nat) : callF law.pg ft 1000 (k + 1) 131 [] = .ok (ow (.lst ([8, 6, 8, 4, 12, 6, 40, 120, 60, 20000, 40].map fun i => D.int i))) [] := by kernel_rfl
def isaR (c : Nat) : List D := [0, 1, 2, 7, 8, 9, 11, 12, 6, 10, 3, 4, 5, 13].map fun i => D.bl (decide (i = c))
theorem classes_ok (k : Nat) (v : D) : ∀ e ∈ errs v, ∃ c fs, e = .er c fs ∧ callF law.pg ft 1000 (k + 1) 129 [fz e] = .ok (ow (.lst (isaR c))) [some (fz e)] := by
  intro e h
  unfold errs at h
  simp only [List.mem_cons, List.not_mem_nil, or_false] at h
  rcases h with rfl | rfl | rfl | rfl | rfl | rfl | rfl | rfl | rfl | rfl | rfl | rfl | rfl | rfl <;> exact ⟨_, _, rfl, by kernel_rfl⟩
def vals : List D := [.non, .bl true, .bl false, .int 0, .int 1, .int (-1), .int 7, .int (10 ^ 40), .str "", .str "a", .str "main", .tup [], .tup [.str "a"], .tup [.str "main", .str "entry", .int 0], .lst [], .lst [.str "x", .int 1], .dct [], .dct [(.inr "a", .int 1)], .tup [.non, .tup [.str "form"]], .lst [.tup [.str "num", .str "r", .int 1]]]
/-- the loop's body behind the two draws -/
def restB : Sms := match d_law.body with
  | .cons _ (.cons _ (.cons _ (.cons (.fors _ _ _ (.cons _ r)) _))) => r
  | _ => .nil
def dueD : D := .lst (List.replicate 10 (.lst [.bl true, .bl false, .bl false, .bl false]) ++ [.lst [.bl false, .bl true, .bl true, .bl false], .lst [.bl false, .bl true, .bl true, .bl false], .lst [.bl false, .bl false, .bl true, .bl false], .lst [.bl false, .bl false, .bl false, .bl true]])
theorem rest_ok (k : Nat) (a p b c : Slot) (j : Int) (w : D) (s8 s9 s10 s11 : Slot) : ∀ v ∈ vals, exSs law.pg (callF law.pg ft 1000 (k + 1)) 1 1000 restB [a, p, b, c, some (ow dueD), some (fz (.int j)), some (fz v), some (fz w), s8, s9, s10, s11]
    = .ok .nx [a, p, b, c, some (ow dueD), some (fz (.int j)), some (fz v), some (fz w), s8, some (fz (.lst (errs v))), some (fz (.int 13)), s11] := by
  intro v h
  unfold vals at h
  simp only [List.mem_cons, List.not_mem_nil, or_false] at h
  rcases h with rfl | rfl | rfl | rfl | rfl | rfl | rfl | rfl | rfl | rfl | rfl | rfl | rfl | rfl | rfl | rfl | rfl | rfl | rfl | rfl <;> kernel_rfl
end Ev.K98
end
/-! PL98: law k98 answers True. -/
namespace Ev.K98
open PySem L2
theorem rngD_get {n k : Nat} {d : D} (h : (rngD 0 n)[k]? = some d) : k < n ∧ d = .int k := by
  unfold rngD at h
  rw [List.getElem?_map] at h
  cases hr : (List.range n)[k]? with
  | none => rw [hr] at h; cases h
  | some i =>
    rw [hr] at h
    have e := List.getElem?_eq_some_iff.mp hr
    obtain ⟨lt, ei⟩ := e
    rw [List.getElem_range] at ei
    rw [List.length_range] at lt
    subst ei
    cases h
    exact ⟨lt, by simp⟩
def tail1 : Sms := match d_law.body with
  | .cons _ r => r
  | _ => .nil
def tail3 : Sms := match d_law.body with
  | .cons _ (.cons _ (.cons _ r)) => r
  | _ => .nil
def tail4 : Sms := match d_law.body with
  | .cons _ (.cons _ (.cons _ (.cons _ r))) => r
  | _ => .nil
def plainD : D := .lst [.bl true, .bl false, .bl false, .bl false]
def namedD : D := .lst [.bl false, .bl true, .bl true, .bl false]
theorem ss_eq {pg : Pg} {cf : Nat → List Rv → COut} {keep wf : Nat} {s s' : Sms} {env env' : Ev} {N : Ev → Prop} {R : Flow' → Ev → Prop} (h : exSs pg cf keep wf s env = exSs pg cf keep wf s' env') (q : WSs pg cf keep wf s' env' N R) : WSs pg cf keep wf s env N R := by
  obtain ⟨f, e, h1, q⟩ := q
  exact ⟨f, e, h.trans h1, q⟩
section
variable {kp : Nat → Nat} {wf k : Nat} (X : Fx kp ft)
include X
theorem any_ok {p : Pen} {n : Nat} (hp : p.ok n) (hn : n < 1000000) : ∃ r outs, callF (pg0 kp) ft wf (k + 3) 126 [p.d] = .ok r outs ∧ ∃ (p' : Pen) (v : D), r = fz v ∧ outs = [some p'.d] ∧ v ∈ vals ∧ p'.ok (n + 1) := by
  obtain ⟨_, _, hc, p', i, d, rfl, rfl, hi, hd, hp'⟩ := pick_ok (wf := wf) (k := k) X hp (by omega) (o := true) (opts := .lst vals) (len := 20) rfl (by decide) (by decide) (fun i hi => by
    refine ⟨vals[i]'(by exact hi), ?_⟩
    exact atI_nat (List.getElem?_eq_getElem _))
  have mem : d ∈ vals := by
    have e : atI vals (i : Int) = some d := hd
    rw [atI_nat (List.getElem?_eq_getElem (show i < vals.length from hi))] at e
    cases e
    exact List.getElem_mem _
  refine W.fn [some p.d, none] (show ft 126 = some d_law_any_value from rfl) rfl rfl rfl ?_ (by show 1 ≤ sizeLine; decide)
  have s1 : ∀ cf : Nat → List Rv → COut, exSs (pg0 kp) cf 1 wf d_law_any_value.body [some p.d, none] = exSs (pg0 kp) cf 1 wf (match d_law_any_value.body with
    | .cons _ r => r
    | _ => .nil) [some p.d, some (ow (.lst (vals.take 16)))] := fun cf => by kernel_rfl
  have s2 : WSs (pg0 kp) (callF (pg0 kp) ft wf (k + 2)) 1 wf (match d_law_any_value.body with
    | .cons _ r => r
    | _ => .nil) [some p.d, some (ow (.lst (vals.take 16)))] (fun e => ∃ (p' : Pen) (v : D), fz D.non = fz v ∧ e.take 1 = [some p'.d] ∧ v ∈ vals ∧ p'.ok (n + 1)) (fun f e => ∃ r, f = .ret r ∧ ∃ (p' : Pen) (v : D), r = fz v ∧ e.take 1 = [some p'.d] ∧ v ∈ vals ∧ p'.ok (n + 1)) := by
    unfold d_law_any_value
    dsimp only
    walk_at "ev"
    refine W.add_ll (by decide) ?_
    walk_at "ev"
    refine cl X X.law_pick hc [some p'.d, some (ow (.lst (vals.take 16)))] (by simp [slotsOf]) rfl rfl ?_
    exact ⟨_, rfl, p', d, rfl, rfl, mem, hp'⟩
  obtain ⟨f, e, h, q⟩ := s2
  exact ⟨f, e, (s1 _).trans h, q⟩
theorem law98 (ns : List Int) : ∃ o outs, callF (pg0 kp) ft 1000 (k + 4) 50 [fz (.scr ns)] = .ok (o, .bl true) outs := by
  suffices hs : ∃ r outs, callF (pg0 kp) ft 1000 (k + 4) 50 [fz (.scr ns)] = .ok r outs ∧ r = fz (.bl true) by
    obtain ⟨_, outs, hc, rfl⟩ := hs
    exact ⟨_, outs, hc⟩
  refine W.fn [some (fz (.scr ns)), none, none, none, none, none, none, none, none, none, none, none] (show ft 50 = some d_law from rfl) rfl rfl rfl ?_ (by show 1 ≤ sizeLine; decide)
  obtain ⟨_, _, hc, p, rfl, rfl, hp⟩ := pen_ok (wf := 1000) (k := k + 2) X ns
  have par : ∀ cf : Nat → List Rv → COut, exSs (pg0 kp) cf 1 1000 tail1 [some (fz (.scr ns)), some p.d, none, none, none, none, none, none, none, none, none, none] = exSs (pg0 kp) cf 1 1000 tail3 [some (fz (.scr ns)), some p.d, some (fz plainD), some (fz namedD), some (ow dueD), none, none, none, none, none, none, none] := fun cf => by kernel_rfl
  have fin : ∀ s0 s1 s2 s3 s4 s5 s6 s7 s8 s9 s10 s11 : Slot, exSs (pg0 kp) (callF (pg0 kp) ft 1000 (k + 3)) 1 1000 tail4 [s0, s1, s2, s3, s4, s5, s6, s7, s8, s9, s10, s11] = .ok (.ret (fz (.bl true))) [s0, s1, s2, s3, s4, s5, s6, s7, s8, s9, s10, s11] := fun _ _ _ _ _ _ _ _ _ _ _ _ => by kernel_rfl
  have e0 : d_law.body = .cons (.asg 1 (.call 41 (.cons (.var 0) .nil))) tail1 := rfl
  have e3 : tail3 = .cons (.fors [5] true (.rng1 (.cst (.int 3))) (.cons (.par [6, 7] (.cons (.call 126 (.cons (.var 1) .nil)) (.cons (.call 126 (.cons (.var 1) .nil)) .nil))) restB)) tail4 := rfl
  rw [e0]
  refine W.ss_cons ?_
  repeat walk_at "ev1"
  refine cl X X.law_pen hc [some (fz (.scr ns)), none, none, none, none, none, none, none, none, none, none, none] (by simp [slotsOf]) rfl rfl ?_
  refine ⟨_, rfl, ?_⟩
  refine ss_eq (par _) ?_
  rw [e3]
  refine W.ss_cons (W.fors ?_)
  walk_at "ev"
  refine ⟨fun j e => ∃ (p : Pen) (t5 t6 t7 t8 t9 t10 t11 : Slot), e = [some (fz (.scr ns)), some p.d, some (fz plainD), some (fz namedD), some (ow dueD), t5, t6, t7, t8, t9, t10, t11] ∧ p.ok (2 * j), ⟨_, _, _, _, _, _, _, _, rfl, hp⟩, ?_, ?_⟩
  · rintro j d e hd ⟨p, t5, t6, t7, t8, t9, t10, t11, rfl, hp⟩
    obtain ⟨hj, rfl⟩ := rngD_get hd
    have hj3 : j < 3 := hj
    refine ⟨_, rfl, ?_⟩
    walk_at "norm"
    obtain ⟨_, _, hc1, p1, v, rfl, rfl, hv, hp1⟩ := any_ok (wf := 1000) (k := k) X hp (by omega)
    obtain ⟨_, _, hc2, p2, w, rfl, rfl, hw, hp2⟩ := any_ok (wf := 1000) (k := k) X hp1 (by omega)
    refine W.ss_cons ?_
    repeat walk_at "ev1"
    refine cl X (show ft 126 = some d_law_any_value from rfl) hc1 [some (fz (.scr ns)), some p1.d, some (fz plainD), some (fz namedD), some (ow dueD), some (fz (.int j)), t6, t7, t8, t9, t10, t11] (by simp [slotsOf]) rfl rfl ?_
    repeat walk_at "ev1"
    refine cl X (show ft 126 = some d_law_any_value from rfl) hc2 [some (fz (.scr ns)), some p2.d, some (fz plainD), some (fz namedD), some (ow dueD), some (fz (.int j)), t6, t7, t8, t9, t10, t11] (by simp [slotsOf]) rfl rfl ?_
    repeat walk_at "ev1"
    refine ⟨_, rfl, ?_⟩
    exact ⟨_, _, rest_ok (k + 2) _ _ _ _ _ w t8 t9 t10 t11 v hv, .inl ⟨rfl, p2, _, _, _, _, _, _, _, rfl, hp2.mono (by omega)⟩⟩
  · rintro e ⟨p, t5, t6, t7, t8, t9, t10, t11, rfl, hp⟩
    exact ⟨_, _, fin _ _ _ _ _ _ _ _ _ _ _ _, .inr ⟨by simp, _, rfl, rfl⟩⟩
end
end Ev.K98
namespace Ev.K98
open PySem L2
theorem fx : Fx law.pg.keeps (Ev.ftOf law.dfs) where
  law_pen := by kernel_rfl
  law_draw := by kernel_rfl
  law_pick := by kernel_rfl
  kp := by
    intro f d h
    unfold Ev.ftOf at h
    show (match law.dfs f with | some x => x.d.keep | none => 0) = _
    cases hx : law.dfs f with
    | none => rw [hx] at h; cases h
    | some x => rw [hx] at h; cases h; rfl
end Ev.K98
theorem PySem.Challenge.cw_clobberwalk_k98_errors_and_limits_holds : PySem.Challenge.rw_clobberwalk_k98_errors_and_limits.Holds := by
  exact Ev.K98.holds_of (wf := 1000) (k := 4) ⟨rfl, by decide, by decide⟩ fun ns _ => Ev.K98.law98 (k := 0) Ev.K98.fx ns
