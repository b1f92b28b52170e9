import PyProof.Rows.All
import Wide.All
import OpenK.AllK
import Wide.FinOn
import PyProof.ReprReads
import KE.KExcInit
import KE.KExcIs
import HandS.ForMost
import HandS.Exc
import HandS.ExcOwn
import HandS.ExcValue
import HandS.ExcInit
import HandS.IsInst
import HandS.Wide
import HandS.Flow
import HandS.Defaults
import PyProof.ReprRoads
import HandS.EndBits
import HandS.HeadHook1
import HandS.HeadHook2
import HandS.HeadHook3
import HandS.HeadHook4
import HandS.Walk
import HandS.ExcBuiltin
import HandS.Style
import PyProof.Rows.FactsExc_KeyError
import PyProof.Rows.FactsExc_IndexError
import PyProof.Rows.FactsExc_OverflowError
import PyProof.Rows.FactsExc_RuntimeError
import PyProof.Rows.FactsExc_LookupError
import PyProof.ReprLen
import PyProof.Rows.RegStrFacts
import KE.KStateDown
import Lean
import HandS.Head0
import HandS.Head1
import HandS.Head2
import HandS.HeadEnd
import PySem.Challenge.RW_everwhen_k00_errors_and_their_classes
set_option Elab.async false
set_option linter.all false
set_option maxRecDepth 100000
section
set_option maxHeartbeats 4000000
/-! Own exception classes over any built-in base, also one whose __new__ is its base's (KeyError): made, stored into, asked -/
namespace EW
open PySem PySem.Spec PyProof.Rows L2 PySem.HandSPX
abbrev keBases : List Value := [.type "KeyError", .type "LookupError", .type "Exception", .type "BaseException", .type "object"]
theorem keStore : StoreFacts "KeyError" keBases "object.__setattr__" "object" where
  mro := by kernel_rfl
  slot := .of (owner := "object") (n := "__setattr__")
    (by rw [typeLookup_type, builtinLookup_eq_fast]; kernel_rfl) (by decide +kernel) (by decide +kernel) (by decide +kernel)
    (by first | exact .inl (by decide +kernel) | exact .inr (by decide +kernel)) (by rw [isSubtype_type]; kernel_rfl)
  entry := F.entry_object_sa
  kind := by decide +kernel
  split := by decide +kernel
  hasOwner := by decide +kernel
  args := fun a b c => by
    unfold argsOk
    kernel_rfl
  passes := fun self => by kernel_rfl
/-- what a class of the mro bm must have, so that newId of Bn makes its instances -/
structure NewOk (C : Addr) (bm : List Value) (Bn : String) : Prop where
  has : (Value.ref C :: bm).contains (.type Bn) = true
  noA : (Value.ref C :: bm).contains (.type "AttributeError") = false
  noN : (Value.ref C :: bm).contains (.type "NameError") = false
section
variable {prog : Program} {w : World} {A : Around} {E : Value → Shared → Prop} {R : Result → Shared → Prop} {hp : Heap} {gs : Array GenState} {dr : Drawn} {tk : Nat} {os : OsState}
variable {nm qn : Str} {C nsp : Addr} {bs bm bmN : List Value} {hdc : Bool} {sn : List Str} {sub : List Value} {ab : Bool} {col : Option Bool} {dd : Option Addr} {k0 k1 k2 k3 k5 : Option Value} {Bn newId inN : String}
theorem chk_new {M : Model} (Fn : ExcBaseFacts Bn newId inN bmN) (O : NewOk C bm Bn) {rest : List Value} {Q : Unit → Shared → Prop}
    (hC : hp.get? C = some (excClassObj nm qn C nsp bs bm hdc sn sub ab col dd k0 k1 k2 k3 k5 newId)) (z : Q () ⟨hp, gs, dr, tk, os⟩) :
    wpAny M A (checkBuiltinCall newId ⟨.ref C :: rest, []⟩) Q E ⟨hp, gs, dr, tk, os⟩ := by
  have h1 := O.has
  have h2 := Fn.noStar
  simp only [checkBuiltinCall, Fn.newKind, Fn.newSplit, Fn.newRow]
  repeat (first
    | refine wpAny_loadPart_at hC ?_
    | (refine wpAny_isSubtype_exc hC ?_; rw [h1])
    | refine wpAny_staticBase_exc hC ?_
    | refine wpAny_madeBy_exc hC ?_
    | simp only [bne_self_eq_false, Bool.false_eq_true, if_false]
    | wp_step)
  exact z
theorem run_new (Fn : ExcBaseFacts Bn newId inN bmN) (O : NewOk C bm Bn) {rest : List Value}
    (hC : hp.get? C = some (excClassObj nm qn C nsp bs bm hdc sn sub ab col dd k0 k1 k2 k3 k5 newId))
    (z : R (.ok (.ret (.ref (hp.objs.size + 1)))) ⟨(hp.push (W.kdv_tup rest)).push (excO C hp.objs.size), gs, dr, tk, os⟩) (hz : rest.length ≤ sizeLine) :
    codeAny (model prog w) A (.builtin newId ⟨.ref C :: rest, []⟩) R ⟨hp, gs, dr, tk, os⟩ := by
  have h0 := Fn.ends
  have h1 := O.has
  have h2 := O.noA
  have h3 := O.noN
  refine codeAny_builtinAt Fn.entry ?_
  unfold Builtin.«BaseException.__new__»
  refine PySem.wpAt_bind ?_
  show PySem.wpAt _ _ _ (stack >>= _) _ _ _
  refine PySem.wpAt_bind (PySem.wpAt_stack fun p below => PySem.wpAt_of_wpAny ?_)
  wp_walk
  refine PySem.wpAt_of_wpAny ?_
  rw [Fn.owner]
  repeat (first
    | with_reducible refine wpAny_madeHere_exc Fn.canon hC ?_
    | with_reducible refine wpAny_loadPart_at hC ?_
    | (with_reducible refine wpAny_isSubtype_exc hC ?_; first | rw [h1] | rw [h2] | rw [h3])
    | wp_step)
  show R _ _
  rw [Heap.size_push]
  exact z
theorem run_typeCall (Fn : ExcBaseFacts Bn newId inN bmN) (O : NewOk C bm Bn) {rest : List Value} {fI : Addr} {Q : Fin → Shared → Prop}
    (hC : hp.get? C = some (excClassObj nm qn C nsp bs bm hdc sn sub ab col dd k0 k1 k2 k3 k5 newId))
    (hi : W.Looks (model prog w) hp (typeLookup (.ref C) "__init__") (some (.ref fI))) (hb : ∀ self, W.Looks (model prog w) hp (bindSpecial (.ref fI) self) (.ref fI, [self])) (hz : rest.length ≤ sizeLine)
    (z : codeAny (model prog w) A (.call (.ref fI) ⟨.ref (hp.objs.size + 1) :: rest, []⟩)
      (fun r s' => match r with | .ok (.ret v) => v = .none ∧ Q (.done (.ret (.ref (hp.objs.size + 1)))) s' | .ok _ => False | .error e => E e s')
      ⟨(hp.push (W.kdv_tup rest)).push (excO C hp.objs.size), gs, dr, tk, os⟩) :
    wpAny (model prog w) A (Builtin.«type.__call__» ⟨.ref C :: rest, []⟩) Q E ⟨hp, gs, dr, tk, os⟩ := by
  repeat (first
    | with_reducible refine wpAny_loadPart_at hC ?_
    | with_reducible refine wpAny_madeBy_exc hC ?_
    | wp_step)
  refine codeAny_call_builtin_code (Code.quiet_builtin _ Fn.quiet) (chk_new Fn O hC ?_)
  refine run_new Fn O hC ?_ hz
  show wpAny _ _ _ _ _ _
  have kk : ∀ b o, hp.get? b = some o → ((hp.push (W.kdv_tup rest)).push (excO C hp.objs.size)).get? b = some o :=
    fun b o e => Heap.get?_push_of_some _ (Heap.get?_push_of_some _ e)
  have c1 := kk _ _ hC
  have c2 : ((hp.push (W.kdv_tup rest)).push (excO C hp.objs.size)).get? (hp.objs.size + 1) = some (excO C hp.objs.size) := by
    heap_get
  have c3 : (Value.ref C :: bm).contains (.ref C) = true := by
    simp
  have c4 := hi.keeps kk
  have c5 := (hb (.ref (hp.objs.size + 1))).keeps kk
  unfold isInstance
  repeat (first
    | with_reducible refine wpAny_loadPart_at c2 ?_
    | (with_reducible refine wpAny_isSubtype_exc c1 ?_; rw [c3])
    | wp_step)
  show wpAny _ _ (typeLookup (.ref C) _) _ _ _
  refine c4.at ?_
  refine wpAny_holding (wpAny_bind (c5.at ?_))
  refine wpAny_bind (wpAny_call (codeAny_mono z fun r s' y => ?_))
  rcases r with e | (v | _ | _ | _) <;> first | exact y | exact y.elim | skip
  obtain ⟨rfl, y⟩ := y
  first
    | exact wpAny_pure (wpAny_pure y)
    | (wp_walk; exact y)
theorem run_make (Fn : ExcBaseFacts Bn newId inN bmN) (O : NewOk C bm Bn) {rest : List Value} {fI : Addr}
    (hC : hp.get? C = some (excClassObj nm qn C nsp bs bm hdc sn sub ab col dd k0 k1 k2 k3 k5 newId))
    (hi : W.Looks (model prog w) hp (typeLookup (.ref C) "__init__") (some (.ref fI))) (hb : ∀ self, W.Looks (model prog w) hp (bindSpecial (.ref fI) self) (.ref fI, [self])) (hz : rest.length ≤ sizeLine)
    (z : codeAny (model prog w) (A.under (.builtin "type.__call__" ⟨.ref C :: rest, []⟩)) (.call (.ref fI) ⟨.ref (hp.objs.size + 1) :: rest, []⟩) (W.InitBack (hp.objs.size + 1) R)
      ⟨(hp.push (W.kdv_tup rest)).push (excO C hp.objs.size), gs, dr, tk, os⟩) :
    codeAny (model prog w) A (.call (.ref C) ⟨rest, []⟩) R ⟨hp, gs, dr, tk, os⟩ := by
  have f1 := tc_lookup
  have f2 := tc_bind (.ref C)
  have f3 : (⟨hp, gs, dr, tk, os⟩ : Shared).TypeIs (.ref C) "type" := ⟨_, hC, rfl⟩
  refine codeAny_of_tree ?_
  show wpAny _ _ (callAny (.ref C) _) _ _ _
  repeat (any_goals (first
    | assumption
    | with_reducible refine wpAny_loadPart_at hC ?_
    | wp_step))
  refine ⟨rfl, ?_⟩
  refine codeAny_call_builtin_at (Code.quiet_builtin _ (by decide +kernel)) entry_typeCall
    (wpAny_check_type_call_sub hC (run_typeCall Fn O hC hi hb hz ?_))
  refine codeAny_mono z fun r s' y => ?_
  rcases r with e | (v | _ | _ | _) <;> exact y
/-- B.__init__(e, ..) of an instance of an own class over B -/
theorem run_init {B nid initId : String} (Fi : ExcClass B nid initId) (hB : (Value.ref C :: bm).contains (.type B) = true) {e t0 : Addr} {rest : List Value}
    (hC : hp.get? C = some (excClassObj nm qn C nsp bs bm hdc sn sub ab col dd k0 k1 k2 k3 k5 newId)) (he : hp.get? e = some (excO C t0)) (hz : rest.length ≤ sizeLine)
    (z : ∀ h' t1, (∀ b o, b ≠ e → hp.get? b = some o → h'.get? b = some o) → h'.get? e = some (excO C t1) → R (.ok (.ret .none)) ⟨h', gs, dr, tk, os⟩) :
    codeAny (model prog w) A (.call (.builtin initId) ⟨.ref e :: rest, []⟩) R ⟨hp, gs, dr, tk, os⟩ := by
  have hs := Fi.notStar
  refine codeAny_call_builtin Fi.init.plain Fi.initEntry ?_
  have chk : ∀ {Q : Unit → Shared → Prop} {A' : Around} {E' : Value → Shared → Prop}, Q () ⟨hp, gs, dr, tk, os⟩ → wpAny (model prog w) A' (checkBuiltinCall initId ⟨.ref e :: rest, []⟩) Q E' ⟨hp, gs, dr, tk, os⟩ := by
    intro Q A' E' y
    simp only [checkBuiltinCall, Fi.initKind, Fi.initSplit, Fi.initSig]
    repeat (first
      | with_reducible refine wpAny_loadPart_at he ?_
      | with_reducible refine wpAny_loadPart_at hC ?_
      | (with_reducible refine wpAny_isSubtype_exc hC ?_; rw [hB])
      | wp_step)
    refine wpAny_onRaise ?_
    rw [show ∀ (a b : String) (n : Nat), Bind.check ⟨.positional, "*", B, .self, [⟨"args", .varPos, false⟩]⟩ a b n (List.map (fun x => x.fst) ({ pos := Value.ref e :: rest } : Args).kw) = pure () from
      fun a b n => check_star_args _ _ _ _ _ _]
    exact wpAny_pure y
  refine chk ?_
  wp_walk
  refine z _ hp.objs.size (fun b o hb ho => ?_) ?_
  · rw [Heap.get?_update_other _ _ (Ne.symm hb)]
    exact Heap.get?_push_of_some _ ho
  · rw [Heap.get?_update_self _ (Heap.get?_push_of_some _ he) rfl]
    rfl
end
end EW
end

section
set_option maxHeartbeats 4000000
namespace EW
open PySem PySem.Spec PyProof.Rows L2 PySem.HandSPX
/-! ### stores into an exception, over the heap -/
section
open Builtin Builtin.ObjectAttr
variable {prog : Program} {w : World} {A : Around} {E : Value → Shared → Prop} {R : Result → Shared → Prop} {hp : Heap} {gs : Array GenState} {dr : Drawn} {tk : Nat} {os : OsState} {K : W.Frag} {B : String} {bmB : List Value}
theorem taker_none {C : Addr} {f : Str} (h : W.findIn K (.ref C) f = some none) : W.takerIn K C f = some none := by
  unfold W.takerIn
  rw [h]
  rfl
/-- the first field: the object gets its dict -/
theorem sto_new {f : Str} {ft : Tok} {v : Value} {x C : Addr} {fv : Array Value} {cd : ClassData} (SF : StoreFacts B bmB "object.__setattr__" "object") (X : K.In hp)
    (hx : hp.get? x = some { cls := .ref C, data := .fields fv }) (hov : W.excOver K C bmB = true) (hcd : W.clsIn K C = some cd) (hh : cd.hasDict = true) (ha : W.findIn K (.ref C) f = some none)
    (z : ∀ h' t' dx, (∀ b o, b ≠ x → hp.get? b = some o → h'.get? b = some o) → hp.objs.size ≤ dx → dx ≠ x → h'.get? x = some { cls := .ref C, dict := some dx, data := .fields fv } →
      h'.Ns1 dx (fun y => if y = f then some v else none) → R (.ok (.ret .none)) ⟨h', gs, dr, t', os⟩) :
    codeAny (model prog w) A (.call (.builtin "object.__setattr__") ⟨[.ref x, .str f ft, v], []⟩) R ⟨hp, gs, dr, tk, os⟩ := by
  have nx : x ≠ hp.objs.size := Nat.ne_of_lt (Heap.lt_size hx)
  have lk : W.Looks (model prog w) hp (classData C) cd := W.looks_clsIn X hcd
  refine W.osa_openX (s := ⟨hp, gs, dr, tk, os⟩) (r := none) (od := none) SF X ⟨hx, rfl, rfl, trivial⟩ hov (taker_none ha) (fun bb => ?_)
  show wpAny _ _ (storeInOwnDict (.ref x) (.ref C) (.str f ft) f v bb) _ _ _
  obtain ⟨c1, c2, c3, c4, c5, c6, c7, c8, c9, c10, c11⟩ := cd
  dsimp only at hh
  subst hh
  unfold storeInOwnDict ownDictForStores
  repeat (first
    | with_reducible refine store_in_new ?_ ?_
    | with_reducible refine wpAny_loadPart_at hx ?_
    | with_reducible refine lk.at ?_
    | wp_step)
  · exact ⟨_, #[], _, (Heap.get?_update_ne _ _ _ _ nx.symm).trans (Heap.get?_push_at rfl rfl), rfl,
      fun e he => absurd he (by simp), fun _ => rfl⟩
  · intro h' t' hn hs
    have hx1 : (hp.push { cls := .type "dict", data := .dict #[] }).get? x = some { cls := .ref C, data := .fields fv } :=
      Heap.get?_push_of_some _ hx
    refine z h' t' hp.objs.size (fun b o hb ho => ?_) (Nat.le_refl _) nx.symm ?_ hn
    · exact (hs.2 b (Nat.ne_of_lt (Heap.lt_size ho))).trans
        ((Heap.get?_update_ne _ _ _ _ hb).trans (Heap.get?_push_of_some _ ho))
    · exact (hs.2 x nx).trans (Heap.get?_update_self _ hx1 rfl)
/-- a further field -/
theorem sto_old {f : Str} {ft : Tok} {v : Value} {x C dx : Addr} {fv : Array Value} {cd : ClassData} {m0 : Str → Option Value} {nl : List Str} (SF : StoreFacts B bmB "object.__setattr__" "object") (X : K.In hp)
    (hx : hp.get? x = some { cls := .ref C, dict := some dx, data := .fields fv }) (hns : hp.Ns1 dx m0) (hw : Within m0 nl) (hz : nl.length ≤ 1000) (hov : W.excOver K C bmB = true) (hcd : W.clsIn K C = some cd) (hh : cd.hasDict = true) (ha : W.findIn K (.ref C) f = some none)
    (z : ∀ h' t', (∀ b o, b ≠ dx → hp.get? b = some o → h'.get? b = some o) → h'.Ns1 dx (fun y => if y = f then some v else m0 y) → R (.ok (.ret .none)) ⟨h', gs, dr, t', os⟩) :
    codeAny (model prog w) A (.call (.builtin "object.__setattr__") ⟨[.ref x, .str f ft, v], []⟩) R ⟨hp, gs, dr, tk, os⟩ := by
  obtain ⟨oD, esD, epD, hoD, hdD, _⟩ := hns.count hw
  have lk : W.Looks (model prog w) hp (classData C) cd := W.looks_clsIn X hcd
  refine W.osa_openX (s := ⟨hp, gs, dr, tk, os⟩) (r := none) (od := some oD) SF X ⟨hx, rfl, rfl, hoD⟩ hov (taker_none ha) (fun bb => ?_)
  show wpAny _ _ (storeInOwnDict (.ref x) (.ref C) (.str f ft) f v bb) _ _ _
  obtain ⟨c1, c2, c3, c4, c5, c6, c7, c8, c9, c10, c11⟩ := cd
  dsimp only at hh
  subst hh
  unfold storeInOwnDict ownDictForStores
  repeat (first
    | with_reducible refine PySem.OEX.store_in_old hns hw hz ?_
    | with_reducible refine wpAny_loadPart_at hx ?_
    | with_reducible refine lk.at ?_
    | wp_step)
  intro h' t' hn hs
  exact z h' t' (fun b o hb ho => (hs.2 b hb).trans ho) hn
end
/-! ### what the written part says of such a class -/
/-- as of any own exception class: isinstance, attributes -/
structure XIs (K : W.Frag) (C : Addr) : Prop where
  cl : (W.clsIn K C).isSome = true
  ga : W.findIn K (.ref C) "__getattribute__" = some (some (.builtin "BaseException.__getattribute__"))
  gg : W.findIn K (.ref C) "__getattr__" = some none
  be : W.subIn K (.ref C) (.type "BaseException") = some true
  ca : W.findIn K (.ref C) "__class__" = some (some (.builtin "object.__class__"))
  hn : W.specialIn K (.builtin "object.__class__") "__get__" = some (some (.builtin "getset_descriptor.__get__"))
  ht : W.takesIn K (.builtin "object.__class__") = some true
  mo : W.mroIn K C (.type "object") = some true
def xisB (K : W.Frag) (C : Addr) : Bool := (W.clsIn K C).isSome
  && decide (W.findIn K (.ref C) "__getattribute__" = some (some (.builtin "BaseException.__getattribute__")))
  && decide (W.findIn K (.ref C) "__getattr__" = some none) && decide (W.subIn K (.ref C) (.type "BaseException") = some true)
  && decide (W.findIn K (.ref C) "__class__" = some (some (.builtin "object.__class__")))
  && decide (W.specialIn K (.builtin "object.__class__") "__get__" = some (some (.builtin "getset_descriptor.__get__")))
  && decide (W.takesIn K (.builtin "object.__class__") = some true) && decide (W.mroIn K C (.type "object") = some true)
theorem xisB_ok {K : W.Frag} {C : Addr} (h : xisB K C = true) : XIs K C := by
  unfold xisB at h
  simp only [Bool.and_eq_true, decide_eq_true_eq] at h
  obtain ⟨⟨⟨⟨⟨⟨⟨h1, h2⟩, h3⟩, h4⟩, h5⟩, h6⟩, h7⟩, h8⟩ := h
  exact ⟨h1, h2, h3, h4, h5, h6, h7, h8⟩
/-- of one whose __init__ is its own: over B, made by newId of Bn -/
structure XMk (K : W.Frag) (C fI : Addr) (bmB : List Value) (newId : String) : Prop where
  mkr : W.excInitIn K C bmB newId = true
  ov : W.excOver K C bmB = true
  hd : W.hasDictIn K C = true
  sa : W.findIn K (.ref C) "__setattr__" = some (some (.builtin "object.__setattr__"))
  kp : W.keepIn K (.ref C) = true
  ini : W.findIn K (.ref C) "__init__" = some (some (.ref fI))
  tyI : W.typeIn K (.ref fI) = some (.type "function")
def xmkB (K : W.Frag) (C fI : Addr) (bmB : List Value) (newId : String) : Bool := W.excInitIn K C bmB newId && W.excOver K C bmB && W.hasDictIn K C
  && decide (W.findIn K (.ref C) "__setattr__" = some (some (.builtin "object.__setattr__"))) && W.keepIn K (.ref C)
  && decide (W.findIn K (.ref C) "__init__" = some (some (.ref fI))) && decide (W.typeIn K (.ref fI) = some (.type "function"))
theorem xmkB_ok {K : W.Frag} {C fI : Addr} {bmB : List Value} {newId : String} (h : xmkB K C fI bmB newId = true) : XMk K C fI bmB newId := by
  unfold xmkB at h
  simp only [Bool.and_eq_true, decide_eq_true_eq] at h
  obtain ⟨⟨⟨⟨⟨⟨h1, h2⟩, h3⟩, h4⟩, h5⟩, h6⟩, h7⟩ := h
  exact ⟨h1, h2, h3, h4, h5, h6, h7⟩
theorem ref_contains {C : Addr} {bm bmB : List Value} (h : ∀ X : String, bm.contains (.type X) = bmB.contains (.type X)) (T : String) : (Value.ref C :: bm).contains (.type T) = bmB.contains (.type T) := by
  rw [List.contains_cons, h]
  rfl
section
variable {X : Cx} {pins : List (Addr × Obj)} {σ : L2.St} {H : Hp} {s : Shared} {a C fI dx : Addr} {f : Str} {y : V} {u : Value} {fs : List (Str × V)} {Q : Unit → Shared → Prop} {E : Value → Shared → Prop} {A : Around} {B newId : String} {bmB : List Value}
/-- self.f = y, the first one -/
theorem fld_new (T : XMk X.K C fI bmB newId) (SF : StoreFacts B bmB "object.__setattr__" "object") (I : Inv X pins σ H s) (e : H a = some (exo a C none)) (hno : W.findIn X.K (.ref C) f = some none) (ry : RelV y u)
    (h : ∀ dx s', H dx = none → dx ≠ a → Inv X pins σ (upd (upd H dx (exd dx [(f, y)])) a (exo a C (some dx))) s' → Q () s') : wpAny (model X.prog X.w) A (setAttr (.ref a) f u) Q E s := by
  obtain ⟨cd, hcd, hh⟩ := W.any_some T.hd
  obtain ⟨t1, ho⟩ := exo_at I.hok e
  obtain ⟨hp, g, d, t, os⟩ := s
  refine W.set_plain I.kIn (ox := { cls := .ref C, dict := none, data := .fields #[.ref t1, .none, .none, .none, .bool false, .none] }) (od := none) ⟨ho, rfl, rfl, trivial⟩ T.sa ?_
  refine sto_new SF I.kIn ho T.ov hcd hh hno (fun h' t' dx k dn dne hx hn => ?_)
  have fd : H dx = none := I.hok.fresh dn
  have nd : ∀ {b : Addr} {o : Obj}, hp.get? b = some o → b ≠ dx := fun {b o} q => Nat.ne_of_lt (Nat.lt_of_lt_of_le (Heap.lt_size q) dn)
  have na : ∀ {b : Addr}, H b = none → b ≠ a := fun {b} n z => by
    rw [z, e] at n
    cases n
  refine h dx _ fd dne (I.un (t' := t') (H' := upd (upd H dx (exd dx [(f, y)])) a (exo a C (some dx))) (h' := h') ?_ fun b o q => ?_)
  · constructor
    · exact fun b o q n _ _ => k b o (na n) q
    · exact fun b o q n _ _ => ⟨o.slots, k b o (na n) q⟩
    · exact fun b o q n _ => by
        rw [upd_ne (na n), upd_ne (nd q)]
        exact n
    · exact fun b o q _ => by
        by_cases hb : b = a
        · exact ⟨_, by rw [hb]; exact hx⟩
        · exact ⟨o, k b o hb q⟩
    · exact fun b xs q => by
        rw [upd_ne (at_ne e q exo_tup), upd_ne (ne_of_none q fd)]
        exact q
    · exact fun b o v q => by
        rw [upd_ne (at_ne e q exo_frz), upd_ne (ne_of_none q fd)]
        exact q
    · exact fun b ps q => ⟨#[], by
        rw [upd_ne (at_ne e q exo_tbl), upd_ne (ne_of_none q fd), q]
        simp⟩
  · by_cases hb : b = a
    · subst hb
      rw [upd_same] at q
      cases q
      exact exo_ok hx
    · rw [upd_ne hb] at q
      by_cases hd : b = dx
      · subst hd
        rw [upd_same] at q
        cases q
        exact exd_ok hn (relO_put (fs := []) ry fun g => True.intro)
      · rw [upd_ne hd] at q
        refine (I.hok b o q).stay (fun c v hc z => k c v ?_ z) (fun c hc => ?_) (fun c xs hc => ?_)
        · rcases hc with hc | hc
          · rw [hc]
            exact hb
          · exact at_ne e hc exo_own
        · rw [upd_ne (at_ne e hc exo_own), upd_ne (ne_of_none hc fd)]
          exact hc
        · rw [upd_ne (at_ne e hc exo_tup), upd_ne (ne_of_none hc fd)]
          exact hc
/-- self.f = y, a further one -/
theorem fld_old (T : XMk X.K C fI bmB newId) (SF : StoreFacts B bmB "object.__setattr__" "object") (I : Inv X pins σ H s) (e : H a = some (exo a C (some dx))) (ed : H dx = some (exd dx fs)) (hl : fs.length ≤ 900) (hno : W.findIn X.K (.ref C) f = some none) (ry : RelV y u)
    (h : ∀ s', Inv X pins σ (upd H dx (exd dx ((f, y) :: fs))) s' → Q () s') : wpAny (model X.prog X.w) A (setAttr (.ref a) f u) Q E s := by
  obtain ⟨cd, hcd, hh⟩ := W.any_some T.hd
  obtain ⟨t1, ho⟩ := exo_at I.hok e
  obtain ⟨mA, hns, rel⟩ := exd_at I.hok ed
  have hw := within_of rel
  obtain ⟨hp, g, d, t, os⟩ := s
  obtain ⟨oD, _, _, hoD, _, _⟩ := hns.count hw
  refine W.set_plain I.kIn (ox := { cls := .ref C, dict := some dx, data := .fields #[.ref t1, .none, .none, .none, .bool false, .none] }) (od := some oD) ⟨ho, rfl, rfl, hoD⟩ T.sa ?_
  refine sto_old SF I.kIn ho hns hw (by rw [List.length_map]; omega) T.ov hcd hh hno (fun h' t' k hn => ?_)
  have there : ∃ o, h'.get? dx = some o := by
    obtain ⟨o, _, _, e', _⟩ := hn
    exact ⟨o, e'⟩
  refine h _ (I.write (t' := t') (x := dx) (e := dx) (o := exd dx ((f, y) :: fs)) ?_ (.inl rfl) k there (exd_ok hn (relO_put ry rel)))
  rw [ed]
  exact True.intro
/-- B.__init__(self, ..): nothing of it is told -/
theorem base_init {us : List Value} {Q : Value → Shared → Prop} {nid initId : String} (T : XMk X.K C fI bmB newId) (Fi : ExcClass B nid initId) (hB : bmB.contains (.type B) = true) (I : Inv X pins σ H s) (e : H a = some (exo a C none)) (hl : us.length ≤ sizeLine) (h : ∀ s', Inv X pins σ H s' → Q .none s') :
    wpAny (model X.prog X.w) A (call (.builtin initId) (.ref a :: us)) Q E s := by
  obtain ⟨nm, N, qn, bs, bm, hdc, sn, sub, ab, col, dd, k0, k1, k2, k3, k5, hC, hbm⟩ := W.excInit_of I.kIn T.mkr
  obtain ⟨t1, ho⟩ := exo_at I.hok e
  obtain ⟨hp, g, d, t, os⟩ := s
  refine wpAny_call (run_init Fi ((ref_contains hbm B).trans hB) hC ho hl fun h' t2 k hx => ?_)
  have J := I.write (t' := t) (x := a) (e := a) (o := exo a C none) (by rw [e]; exact True.intro) (.inl rfl) k ⟨_, hx⟩ (exo_ok hx)
  have eu : upd H a (exo a C none) = H := by
    funext b
    by_cases hb : b = a
    · rw [hb, upd_same, e]
    · rw [upd_ne hb]
  rw [eu] at J
  exact h _ J
end
end EW
end

section
set_option maxHeartbeats 4000000
namespace EW
open PySem PySem.Spec PyProof.Rows L2 PySem.HandSPX
/-! ### rules: an exception made by its own __init__, its fields, isinstance -/
/-- B.__init__(self, ..) -/
def tBInit (C : Addr) (ta : TA) : TE := fun σ H Q => ta σ H fun vs H1 => ∃ (a : Addr) (ws : List V), vs = .ref a :: ws ∧ ws.length ≤ 1000 ∧ H1 a = some (exo a C none) ∧ Q .non H1
/-- self.f = e -/
def tXst (C : Addr) (f : Str) (to te : TE) : TS := fun D σ H => te σ H fun y H1 => to σ H1 fun x H2 => ∃ a : Addr, x = .ref a ∧
  ((H2 a = some (exo a C none) ∧ ∀ dx, H2 dx = none → dx ≠ a → D.nx σ (upd (upd H2 dx (exd dx [(f, y)])) a (exo a C (some dx)))) ∨
    ∃ (dx : Addr) (fs : List (Str × V)), H2 a = some (exo a C (some dx)) ∧ H2 dx = some (exd dx fs) ∧ fs.length ≤ 900 ∧ D.nx σ (upd H2 dx (exd dx ((f, y) :: fs))))
/-- C(e, ..) as a value -/
def tMkX (C : Addr) (sp : Sp) (ta : TA) : TE := fun σ H Q => ta σ H fun vs H1 => vs.length ≤ 1000 ∧ ∀ a, H1 a = none →
  sp (.ref a :: vs) (upd H1 a (exo a C none)) (fun v H2 => v = .non ∧ Q (.ref a) H2) (fun _ _ _ => False)
/-- an exception object of the class at C stands at a -/
def ExcAt (H : Hp) (a C : Addr) : Prop := H a = some (ExO (.ref C) a) ∨ ∃ (d : Addr) (fs : List (Str × V)), H a = some (exo a C (some d)) ∧ H d = some (exd d fs)
/-- isinstance(x, c) of such an object -/
def rIsX (K : W.Frag) : List V → Hp → VK → Prop := fun xs H Q => ∃ (a C : Addr) (c : V) (u : Value) (b : Bool), xs = [.ref a, c] ∧ ClsV c u ∧ XIs K C ∧ ExcAt H a C ∧ W.kitOne K (.ref C) u = some b ∧ Q (.bl b) H
/-- x.f of one with fields -/
def tXfl (K : W.Frag) (f : Str) (te : TE) : TE := fun σ H Q => te σ H fun x H1 => ∃ (a C d : Addr) (fs : List (Str × V)) (v : V), x = .ref a ∧ XIs K C ∧ W.hasDictIn K C = true ∧ W.findIn K (.ref C) f = some none ∧
  H1 a = some (exo a C (some d)) ∧ H1 d = some (exd d fs) ∧ fs.lookup f = some v ∧ Q v H1
section
variable {X : Cx} {o e : Expr} {es : List Expr} {to te : TE} {ta : TA} {f : Str} {p p' p1 p2 pos : Pos} {B newId : String} {bmB : List Value} {C fI : Addr}
theorem pe_binit {pl : Sem Bool} {b : Str} {nid initId : String} (T : XMk X.K C fI bmB newId) (Fi : ExcClass B nid initId) (hB : bmB.contains (.type B) = true) (hg : Gl X b) (hm : X.mg b = none) (hv : bootBuiltins b = some (.type B))
    (ty : typeOf (.type B) = pure (.type "type")) (st : Manifest.isStub B = false) (vV : W.findCls X.K (.type B) (.type "type") "__init__" = some (.val (.builtin initId))) (hh : W.handedIn (Value.builtin initId) = true) (ha : PA X (e :: es) ta)
    (hc : eval (.Call (.Attribute (.Name b p1) "__init__" p2) (e :: es) [] pos) X.env = (do
      let ov ← eval (.Name b p1) X.env
      standAt p2.atName
      let (fn, first) ← holding [ov] (getMethod ov "__init__" pl)
      callWith pos fn first (backTo pos (starEach (e :: es) X.env)) (backToKw pos (keywordEach [] X.env))) := by rfl)
    (he : starEach (e :: es) X.env = (false, eval e X.env) :: starEach es X.env := by rfl) (hpl : (backTo pos (starEach es X.env)).any (·.1) = false := by rfl)
    (hn : b ≠ "__name__" := by decide) (hdb : (b == ("__debug__" : Str)) = false := by decide) :
    PE X (.Call (.Attribute (.Name b p1) "__init__" p2) (e :: es) [] pos) (tBInit C ta) := by
  refine ⟨fun pins s σ H Q I h => ?_⟩
  refine W.methodCall_KW (ld_blt I hg hm hv ?_ hn hdb) hc
  obtain ⟨m, fr⟩ := I.fr
  refine W.method_type fr I.ok.mod.kin ty st vV hh ?_
  show wpAny _ _ (callWith pos (Value.builtin initId) [] (backTo pos (starEach (e :: es) X.env)) []) _ _ _
  refine callWith_method1 (thn (ha.run pos pins _ σ H _ (I.tok _) h) fun us s1 hq => ?_) he hpl
  obtain ⟨vs, H1, I1, r1, a, ws, ev, hl, ea, q⟩ := hq
  subst ev
  cases r1 with
  | @cons _ u0 _ ur ra rr =>
    obtain rfl : u0 = Value.ref a := ra
    have hlen : ur.length ≤ sizeLine := by
      rw [← Paired.length rr, sizeLine_eq]
      omega
    exact base_init T Fi hB I1 ea hlen fun s' J => ⟨.non, H1, J, rfl, q⟩
theorem ps_xst (T : XMk X.K C fI bmB newId) (SF : StoreFacts B bmB "object.__setattr__" "object") (hno : W.findIn X.K (.ref C) f = some none) (ho : PE X o to) (he : PE X e te)
    (hs : swapsWith e (some (.Attribute o f p')) pos.line X.env = pure false := by rfl) : PS X (.Assign [.Attribute o f p'] e pos) (tXst C f to te) := by
  refine ⟨fun pins s σ H D I h => ?_⟩
  refine plainObj_wpAny_Assign_Attribute (thn (he.run pins s σ H _ I h) fun v s1 hq => ?_) hs
  obtain ⟨y, H1, I1, r1, q1⟩ := hq
  refine thn (ho.run pins s1 σ H1 _ I1 q1) fun u s2 hq => ?_
  obtain ⟨x, H2, I2, r2, a, ex, q⟩ := hq
  subst ex
  obtain rfl : u = Value.ref a := r2
  rcases q with ⟨ea, q⟩ | ⟨dx, fs, ea, ed, hl, q⟩
  · exact fld_new T SF I2 ea hno r1 fun dx s' n ne J => ⟨σ, _, J, q dx n ne⟩
  · exact fld_old T SF I2 ea ed hl hno r1 fun s' J => ⟨σ, _, J, q⟩
theorem inst_of {pins : List (Addr × Obj)} {σ : L2.St} {H : Hp} {s : Shared} {a : Addr} (I : Inv X pins σ H s) (h : ExcAt H a C) : ∃ (ox : Obj) (od : Option Obj), W.InstAt s.heap a ox C od := by
  rcases h with h | ⟨d, fs, h1, h2⟩
  · obtain ⟨⟨oe, vs, ho, hz, hd, _⟩, _, _⟩ := I.hok a _ h
    obtain ⟨oc, od, oda, osl⟩ := oe
    obtain ⟨z1, z2⟩ := hz
    dsimp only at z1 z2 hd
    subst z1 z2 hd
    exact ⟨_, none, ho, rfl, rfl, trivial⟩
  · obtain ⟨t1, ho⟩ := exo_at I.hok h1
    obtain ⟨mA, ⟨od, es', ep, h3, _⟩, _⟩ := exd_at I.hok h2
    exact ⟨_, some od, ho, rfl, rfl, h3⟩
theorem call_isX : CallR X (.builtin "isinstance") (rIsX X.K) := by
  intro pins s σ H xs us Q I r h
  obtain ⟨a, D, c, u, b, rfl, k, T, ea, e, q⟩ := h
  obtain ⟨u1, u2, rfl, r1, r2⟩ := vals2 r
  have e2 := k.eq r2
  subst e2
  cases (show u1 = Value.ref a from r1)
  obtain ⟨ox, od, J⟩ := inst_of I ea
  exact W.kia_one (W.kitx_exc T.cl T.ga T.gg T.be T.ca T.hn T.ht T.mo) I.kIn J e (fun z => nomatch z) fun tk => ⟨.bl b, H, I.tok tk, rfl, q⟩
theorem pe_xfl (he : PE X e te) (hb : attributeBase e f X.env (eval e X.env) = eval e X.env := by rfl) : PE X (.Attribute e f pos) (tXfl X.K f te) := by
  refine ⟨fun pins s σ H Q I h => ?_⟩
  refine attr_of hb (thn (he.run pins s σ H _ I h) fun u s1 hq => ?_)
  obtain ⟨x, H1, I1, rx, a, D, d, fs, v, ex, T, hd, hno, h1, h2, hl, q⟩ := hq
  subst ex
  obtain rfl : u = Value.ref a := rx
  obtain ⟨t1, ho⟩ := exo_at I1.hok h1
  obtain ⟨mA, hns, rel⟩ := exd_at I1.hok h2
  obtain ⟨od, hod, hlk⟩ := lookIn_ns hns
  have rf := rel f
  rw [hl] at rf
  obtain ⟨z, hz, rz⟩ := RelO.some_of rf
  have J : W.InstAt s1.heap a { cls := .ref D, dict := some d, data := .fields #[.ref t1, .none, .none, .none, .bool false, .none] } D (some od) := ⟨ho, rfl, rfl, hod⟩
  exact exc_get I1.kIn J T.ga T.gg T.be (W.findObj_own hd hno rfl (by rw [hlk, hz])) (handed_of rz) ⟨v, H1, I1.tok _, rz, q⟩
theorem pe_mkX {CX : CXT} {x : Str} {k : Nat} {fd : FuncData} {ps : List Str} {sp : Sp} {Bn inN : String} {bmN : List Value} (T : XMk X.K C fI bmB newId) (Fn : ExcBaseFacts Bn newId inN bmN) (hB : bmB.contains (.type Bn) = true) (hA : bmB.contains (.type "AttributeError") = false) (hN : bmB.contains (.type "NameError") = false)
    (F1 : FnOk X.prog X.w X.K X.mg X.base CX k fI fd ps sp) (hr : Room (k + 1) X.A) (hb : Binds X.K fd ps []) (hx : Passes CX X (fun _ _ _ => False)) (hg : Gl X x) (hm : X.mg x = some (.ref C)) (ha : PA X (e :: es) ta)
    (hdb : (x == ("__debug__" : Str)) = false := by decide) (he : starEach (e :: es) X.env = (false, eval e X.env) :: starEach es X.env := by rfl) (hpl : (backTo pos (starEach es X.env)).any (·.1) = false := by rfl) :
    PE X (.Call (.Name x p) (e :: es) [] pos) (tMkX C sp ta) := by
  refine ⟨fun pins s σ H Q I h => ?_⟩
  refine wpAny_Call_Name_kw (ld_glob I hg hm ?_ hdb)
  refine W.callWith_K (h₀ := X.base) I.ok.mod.kin T.kp (thn (ha.run pos pins s σ H _ I h) fun us s1 hq => ?_) he hpl
  obtain ⟨vs, H1, I1, r1, hz, q1⟩ := hq
  refine ⟨I1.kIn, ?_⟩
  show wpAny _ _ (call (.ref C) us) _ _ _
  obtain ⟨nm, N, qn, bs, bm, hdc, sn, sub, ab, col, dd, k0, k1, k2, k3, k5, hC, hbm⟩ := W.excInit_of I1.kIn T.mkr
  have O : NewOk C bm Bn := ⟨(ref_contains hbm _).trans hB, (ref_contains hbm _).trans hA, (ref_contains hbm _).trans hN⟩
  obtain ⟨hp, g, dr, tk, os⟩ := s1
  have hn : H1 (hp.objs.size + 1) = none := I1.hok.fresh (Nat.le_succ _)
  have sz := q1 (hp.objs.size + 1) hn
  have kk : ∀ b o, hp.get? b = some o → ((hp.push (W.kdv_tup us)).push (excO C hp.objs.size)).get? b = some o :=
    fun b o z => Heap.get?_push_of_some _ (Heap.get?_push_of_some _ z)
  have hget : ((hp.push (W.kdv_tup us)).push (excO C hp.objs.size)).get? (hp.objs.size + 1) = some (excO C hp.objs.size) := by
    heap_get
  have I2 : Inv X pins σ (upd H1 (hp.objs.size + 1) (exo (hp.objs.size + 1) C none)) ⟨(hp.push (W.kdv_tup us)).push (excO C hp.objs.size), g, dr, tk, os⟩ :=
    I1.laid (t' := tk) kk (Nat.le_succ _) (exo_ok hget)
  have r2 : Vals (V.ref (hp.objs.size + 1) :: vs) (Value.ref (hp.objs.size + 1) :: us) := .cons rfl r1
  have hl : (Value.ref (hp.objs.size + 1) :: us ++ []).length = ps.length := by
    have z := r2.length
    rw [F1.len _ _ _ _ sz] at z
    rw [List.append_nil]
    exact z.symm
  have hus : us.length ≤ sizeLine := by
    rw [← Paired.length r1, sizeLine_eq]
    omega
  have bb := hb _ (Value.ref (hp.objs.size + 1) :: us) I2.kIn hl
  rw [List.append_nil] at bb
  refine wpAny_call (run_make Fn O hC (W.looks_findIn I1.kIn T.ini) (fun self => W.bind_fn I1.kIn self T.tyI) hus
    (codeAny_mono (F1.run _ X.stack _ _ ⟨Value.ref (hp.objs.size + 1) :: us, []⟩ (Value.ref (hp.objs.size + 1) :: us) _ _ (fun _ _ _ => False) (hr.make C us []) (I2.env0.make C us []) bb r2 sz) fun r s' z => ?_))
  cases r with
  | error er => exact hx pins σ _ _ er s' I2 z
  | ok fl =>
    cases fl with
    | ret u =>
      obtain ⟨v, H2, os2, bare2, un2, hok2, rv, ev, q2⟩ := z
      subst ev
      have J := I2.after (Q := fun _ H' => Q (V.ref (hp.objs.size + 1)) H') (u := u) (s' := s') ⟨V.non, H2, os2, bare2, un2, hok2, rv, q2⟩
      obtain ⟨v', H3, I3, _, q3⟩ := J
      exact ⟨rv, V.ref (hp.objs.size + 1), H3, I3, rfl, q3⟩
    | next => exact False.elim z
    | brk => exact False.elim z
    | cont => exact False.elim z
end
end EW
end

section
set_option maxHeartbeats 4000000
namespace EW
open PySem PySem.Spec PyProof.Rows L2
/-! ### defs that call repr of data: nothing is being shown around them -/
structure FnG (P : Program) (w : World) (K : W.Frag) (mg : Str → Option Value) (base : Heap) (CX : CXT) (k : Nat) (f : Addr) (fd : FuncData) (ps : List Str) (sp : Sp) : Prop where
  len : ∀ vs H Q E, sp vs H Q E → vs.length = ps.length
  run : ∀ (A : Around) (outer : List Env) (s : Shared) (H : Hp) (args : Args) (us : List Value) (vs : List V) (Q : VK) (E : XK), Room k A → A.guards = some [] → Env0 P w K mg base A outer s H → BindsTo s fd args (ps.zip us) → Vals vs us → sp vs H Q E →
    codeAny (model P w) A (.call (.ref f) args) (CR CX outer P w H s Q E) s
theorem FnG.of {P : Program} {w : World} {K : W.Frag} {mg : Str → Option Value} {base : Heap} {CX : CXT} {k : Nat} {f : Addr} {fd : FuncData} {ps : List Str} {sp : Sp} (F : FnOk P w K mg base CX k f fd ps sp) : FnG P w K mg base CX k f fd ps sp :=
  ⟨F.len, fun A outer s H args us vs Q E hr _ e0 hb r hs => F.run A outer s H args us vs Q E hr e0 hb r hs⟩
/-- THE RULE for such a def -/
theorem okG {P : Program} {w : World} {K : W.Frag} {mg : Str → Option Value} {base : Heap} {CX : CXT} {x qual : Str} {params : Arguments} {body : List Stmt} {scope : Scope} {dvs : List V} {kws : List (Str × V)} {f : Addr} {fd : FuncData} {N ps : List Str} {k : Nat} {sp : Sp}
    (F : FunD K x qual params body scope dvs kws f fd) (S : FnScope N ps scope) (len : ∀ vs H Q E, sp vs H Q E → vs.length = ps.length)
    (hbody : ∀ (cdv : Value) (A : Around) (outer : List Env) (s : Shared) (H : Hp) (vs : List V) (Q : VK) (E : XK), Room k (A.deeper (envOfC qual scope s.heap.objs.size f cdv)) → A.guards = some [] → sp vs H Q E →
      ∃ t, PSs (cxOf CX P w K mg base N qual scope f cdv A outer s H E) body t ∧ t { nx := fun _ H' => Q .non H', rt := Q } (start N vs) H) : FnG P w K mg base CX (k + 1) f fd ps sp := by
  obtain ⟨oc, od, dV, kV, doc, pm, an, cdv, ct, osl, rfl, lk, hcd, _, _⟩ := F.ex
  refine ⟨len, fun A outer s H args us vs Q E hr hg e0 hb r hsp => ?_⟩
  have hl := len _ _ _ _ hsp
  have ke := fun b o e => (e0.bs b o e).1
  have KX : K.In s.heap := e0.mod.kin.keeps ke
  have lim : s.heap.NoLimit := e0.mod.nolimit.keeps ke
  refine codeAny_call_function hr.depth (KX _ _ lk) rfl S.co S.gen rfl (W.codeRec_of KX hcd) (hb _ _ _ _ ?_)
  refine wpAny_newFunctionEnv_cells S.kind (fun y hy => ?_) fun env he s1 xc => ?_
  · obtain ⟨n, v⟩ := y
    rcases S.par n (List.of_mem_zip hy).1 with q | q
    · exact .inl q
    · exact .inr ⟨q, W.cellsFrom_some _ _ _ (.inl q)⟩
  · subst he
    refine ⟨lim.keeps xc.toInCall.keep, codeAny_func ?_⟩
    obtain ⟨t, ht, hq⟩ := hbody cdv A outer s H vs Q E (hr.deeper _) hg hsp
    have I : Inv (cxOf CX P w K mg base N qual scope f cdv A outer s H E) [] (start N vs) H s1 := inv_start S hr.hd e0 hl r xc
    refine wpAny_mono (ht.run [] s1 (start N vs) H _ I hq) (fun fl s' hs => ?_) fun e s' hs => hs
    cases fl with
    | ret u =>
      obtain ⟨v, σ', H', J, rv, q⟩ := hs
      exact ⟨v, H', J.os, J.bare, J.base, J.hok, rv, q⟩
    | next =>
      obtain ⟨σ', H', J, q⟩ := hs
      exact ⟨V.non, H', J.os, J.bare, J.base, J.hok, rfl, q⟩
    | brk =>
      obtain ⟨_, _, _, q⟩ := hs
      exact False.elim q
    | cont =>
      obtain ⟨_, _, _, q⟩ := hs
      exact False.elim q
section
variable {X : Cx} {CX : CXT} {k : Nat} {f : Addr} {fd : FuncData} {ps : List Str} {sp : Sp} {E : XK} {x : Str} {p pos : Pos} {e : Expr} {es : List Expr} {t : TA}
theorem pe_callG (F : FnG X.prog X.w X.K X.mg X.base CX k f fd ps sp) (hr : Room k X.A) (hG : X.A.guards = some []) (hg : Gl X x) (hm : X.mg x = some (.ref f)) (hk : W.keepIn X.K (.ref f) = true) (hb : Binds X.K fd ps []) (hx : Passes CX X E)
    (ha : PA X (e :: es) t) (hdb : (x == ("__debug__" : Str)) = false := by decide) (he : starEach (e :: es) X.env = (false, eval e X.env) :: starEach es X.env := by rfl) (hpl : (backTo pos (starEach es X.env)).any (·.1) = false := by rfl) :
    PE X (.Call (.Name x p) (e :: es) [] pos) (tCall sp [] E t) := by
  refine ⟨fun pins s σ H Q I h => ?_⟩
  refine wpAny_Call_Name_kw (ld_glob I hg hm ?_ hdb)
  refine W.callWith_K (h₀ := X.base) I.ok.mod.kin hk (thn (ha.run pos pins s σ H _ I h) fun us s1 hq => ?_) he hpl
  obtain ⟨vs, H1, I1, r, q⟩ := hq
  refine ⟨I1.kIn, ?_⟩
  rw [List.append_nil] at q
  have hl : us.length = ps.length := by
    rw [← r.length]
    exact F.len _ _ _ _ q
  have bb := hb s1 us I1.kIn (by rw [List.append_nil]; exact hl)
  rw [List.append_nil] at bb
  show wpAny _ _ (call (.ref f) us) _ _ _
  refine wpAny_call (codeAny_mono (F.run X.A X.stack s1 H1 ⟨us, []⟩ us vs Q E hr hG I1.env0 bb r q) fun r s' z => ?_)
  cases r with
  | error er => exact hx pins σ H1 s1 er s' I1 z
  | ok fl =>
    cases fl with
    | ret u => exact I1.after z
    | next => exact False.elim z
    | brk => exact False.elim z
    | cont => exact False.elim z
/-- repr of lists and tuples of data -/
def rRepr (K : W.Frag) : List V → Hp → VK → Prop := fun xs H Q => ∃ (a : Addr) (d : PyData), xs = [.ref a] ∧ Dp K H (.ref a) d ∧ d.showable = true ∧ d.hasDict = false ∧ d.depth ≤ 60 ∧ d.shown.length ≤ sizeLine ∧ Q (.str d.shown) H
theorem call_repr (hG : X.A.guards = some []) (hr : Room k X.A) : CallR X (.builtin "repr") (rRepr X.K) := by
  intro pins s σ H xs us Q I r h
  obtain ⟨a, d, rfl, hd, hs, hn, hp, hz, q⟩ := h
  cases r with
  | cons rx rn =>
    cases rn
    obtain ⟨as, r1⟩ := Dp.reads I d (.ref a) _ hd rx
    obtain rfl := rx
    have hu := hr.un
    exact repr_of_reads' r1 hs (fun z => by rw [hn] at z; cases z) hG (by omega) (fun _ _ z => z)
      (fun h' u tk hk => ⟨.str d.shown, H, I.kept (t' := tk) hk, ⟨u, rfl⟩, q⟩) hz
end
/-- the law's call, by such a promise; the script's bits are told -/
theorem law_callG {P : Program} {w : World} {K : W.Frag} {mg mb : Str → Option Value} {CX : CXT} {k : Nat} {fa a : Addr} {fd : FuncData} {x : Str} {sp : Sp} {s₁ : Shared} {vs : List Value} {ns : List Int}
    (KX : K.In s₁.heap) (hns : s₁.heap.Ns mainGlobals mg) (hb : s₁.heap.Ns builtinsNs mb) (hbb : ∀ x : Str, x ≠ "__name__" → mb x = bootBuiltins x) (hlim : s₁.heap.NoLimit) (hg : s₁.gens = #[])
    (ha : s₁.heap.get? a = some { cls := .type "list", data := .seq vs.toArray }) (hi : IntsAre vs ns) (hl : ns.length ≤ sizeLine) (hr : Room k callerA)
    (F : ∀ base : Heap, K.In base → base.Ns mainGlobals mg → FnG P w K mg base CX k fa fd [x] sp) (hbind : ∀ (s : Shared) (u : Value), BindsTo s fd ⟨[u], []⟩ [(x, u)])
    (hsp : ∀ H : Hp, SqL K H a (ns.map V.int) → sp [.ref a] H (fun v _ => v = .bl true) fun _ _ _ => False)
    (hCX : ∀ H e s', CX [] H s₁ (fun _ _ _ => False) e s' → False) :
    codeAny (model P w) callerA (.call (.ref fa) ⟨[.ref a], []⟩) (fun r s' => r = .ok (.ret (.bool true)) ∧ OldK s₁.heap s'.heap ∧ s'.os = s₁.os ∧ AllBare s'.gens) s₁ := by
  have rv := vals_ints hi
  have lenV := hi.length
  let O : Obj := { cls := .type "list", data := .seq vs.toArray }
  have core : ∀ H : Hp, (∀ b, H b = none ∨ (b = a ∧ H b = some (.frz O (.lst (ns.map V.int))) ∧ K.lookup a = none)) → SqL K H a (ns.map V.int) →
      codeAny (model P w) callerA (.call (.ref fa) ⟨[.ref a], []⟩) (fun r s' => r = .ok (.ret (.bool true)) ∧ OldK s₁.heap s'.heap ∧ s'.os = s₁.os ∧ AllBare s'.gens) s₁ := by
    intro H hO hS
    have hok : HOk P w H s₁.heap := fun b u e => by
      rcases hO b with z | ⟨rfl, z, _⟩
      · rw [z] at e
        cases e
      · rw [z] at e
        cases e
        exact ⟨ha, by rw [List.length_map]; exact hl, vs, _, rv, ha⟩
    have off : ∀ {b : Addr} {o : Obj} {es : Array DictEntry} {ep : Nat}, s₁.heap.get? b = some o → o.data = .dict es ep → H b = none := fun {b o es ep} e d => by
      rcases hO b with z | ⟨rfl, _, _⟩
      · exact z
      · rw [ha] at e
        cases e
        cases (show Data.seq vs.toArray _ = Data.dict es ep from d)
    have nsK : ∀ {b : Addr} {m : Str → Option Value}, s₁.heap.Ns b m → (hidT s₁.heap H).Ns b m := fun {b m} z => by
      obtain ⟨o, es, ep, e, d, r⟩ := z
      exact ⟨o, es, ep, hidT_get e (off e d), d, r⟩
    have kb : K.In (hidT s₁.heap H) := fun b o e => by
      refine hidT_get (KX b o e) ?_
      rcases hO b with z | ⟨rfl, _, z⟩
      · exact z
      · rw [z] at e
        cases e
    have hM : Mod K mg (hidT s₁.heap H) := ⟨kb, nsK hns, ⟨mb, nsK hb, hbb⟩, by obtain ⟨mc, h1, h2⟩ := hlim; exact ⟨mc, nsK h1, h2⟩⟩
    have e0 : Env0 P w K mg (hidT s₁.heap H) callerA [] s₁ H := by
      refine ⟨rfl, hM, fun b o e => of_hidT e, Nat.le_of_eq (hidT_size _ _), trivial, fun b z => ?_, hok, .of_eq hg⟩
      exact absurd (show b ∈ ([] : List Addr) from z) (by simp)
    have body := (F _ kb (nsK hns)).run callerA [] s₁ H ⟨[.ref a], []⟩ [.ref a] [.ref a] _ _ hr rfl e0 (hbind s₁ (.ref a)) (.cons rfl .nil) (hsp H hS)
    refine codeAny_mono body fun r s' h => ?_
    cases r with
    | error e => exact (hCX H e s' h).elim
    | ok fl =>
      cases fl with
      | next => exact False.elim h
      | brk => exact False.elim h
      | cont => exact False.elim h
      | ret u =>
        obtain ⟨v, H', os, bare, un, hok', r', q⟩ := h
        have q' : v = .bl true := q
        subst q'
        obtain rfl : u = Value.bool true := r'
        refine ⟨rfl, OldK.of_keep fun b o e => ?_, os, bare⟩
        rcases hO b with z | ⟨rfl, z, _⟩
        · refine un.keep b o e z (fun y => ?_) (by simp)
          exact absurd (show b ∈ ([] : List Addr) from y) (by simp)
        · obtain ⟨e2, _⟩ := hok' b _ (un.frzs b O _ z)
          rw [ha] at e
          cases e
          exact e2
  cases hk : K.lookup a with
  | some o =>
    have e := KX a o hk
    rw [ha] at e
    cases e
    refine core (fun _ => none) (fun _ => .inl rfl) (.inr ⟨_, vs.toArray, _, hk, rfl, rfl, rfl, ?_, by simpa using rv⟩)
    rw [List.size_toArray, lenV]
    exact hl
  | none =>
    refine core (fun b => if b = a then some (.frz O (.lst (ns.map V.int))) else none) (fun b => ?_) (.inl (.inr ⟨O, if_pos rfl⟩))
    by_cases hb : b = a
    · exact .inr ⟨hb, if_pos hb, hk⟩
    · exact .inl (if_neg hb)
/-- the end of a law row, by such a promise -/
theorem walkG {l : W.OpenLaw} {n k : Nat} {q : Program} {loose : List Str} {XP : (Str → Option Value) → Heap → Prop} {YP : World → Heap → Prop} {d : DefRec} {CX : CXT} {x : Str}
    (hn : l.most = some n) (hn2 : n ≤ sizeLine) (hdf : d.params.defaults = []) (hr : Room k callerA)
    (F : ∀ (w : World) (mg : Str → Option Value) (fa : Addr) (h : Heap), YP w h → h.Ns mainGlobals mg → mg d.name = some (.ref fa) →
      ∃ (K : W.Frag) (fd : FuncData) (sp : Sp), K.In h ∧ (∀ (s : Shared) (u : Value), BindsTo s fd ⟨[u], []⟩ [(x, u)]) ∧
        (∀ (H : Hp) (a : Addr) (ns : List Int), ns.length ≤ n → (∀ k ∈ ns, Builtin.Int.intBits k ≤ 1048576) → SqL K H a (ns.map V.int) → sp [.ref a] H (fun v _ => v = .bl true) fun _ _ _ => False) ∧
        ∀ base : Heap, K.In base → base.Ns mainGlobals mg → FnG l.prog w K mg base CX k fa fd [x] sp)
    (hCX : ∀ (H : Hp) (s : Shared) (e : Value) (s' : Shared), CX [] H s (fun _ _ _ => False) e s' → False) :
    W.WalkO q loose XP YP l.row.toRowW d [] (fun f vs => PySem.call f vs) := by
  refine Att.attach_callB hn hdf fun w s₀ s₁ mg mb fa o pm cd doc a vs ns G Y ho hd hcd hmg hobj hints hlen hbits hg => ?_
  obtain ⟨K, fd, sp, KX, hb, hsp, hF⟩ := F w mg fa _ Y G.T.g hmg
  exact law_callG KX G.T.g G.T.b G.T.builtins G.T.nolimit hg hobj hints (Nat.le_trans hlen hn2) hr hF hb (fun H hS => hsp H a ns hlen hbits hS) fun H e s' => hCX H s₁ e s'
end EW
end

section
set_option maxHeartbeats 4000000
namespace EW
open PySem PySem.Spec PyProof.Rows L2
/-! ### a def of the module that lets nothing out, by its name -/
structure Df (P : Program) (w : World) (K : W.Frag) (mg : Str → Option Value) (base : Heap) (k : Nat) (x : Str) (ps : List Str) (sp : Sp) : Prop where
  ex : ∃ fd, FnOk P w K mg base CX0 k (He.ga K x) fd ps sp ∧ Binds K fd ps []
  kp : W.keepIn K (.ref (He.ga K x)) = true
  gl : mg x = some (.ref (He.ga K x))
section
variable {X : Cx} {k : Nat} {ps : List Str} {sp : Sp} {x : Str} {p pos : Pos} {e : Expr} {es : List Expr} {t : TA}
theorem pe_df (D : Df X.prog X.w X.K X.mg X.base k x ps sp) (hr : Room k X.A) (hg : Gl X x) (ha : PA X (e :: es) t) (hdb : (x == ("__debug__" : Str)) = false := by decide)
    (he : starEach (e :: es) X.env = (false, eval e X.env) :: starEach es X.env := by rfl) (hpl : (backTo pos (starEach es X.env)).any (·.1) = false := by rfl) :
    PE X (.Call (.Name x p) (e :: es) [] pos) (tCall sp [] E0 t) := by
  obtain ⟨fd, F, b⟩ := D.ex
  exact pe_call F hr hg D.gl D.kp b .nil pass0 ha hdb he hpl
theorem pe_df0 (D : Df X.prog X.w X.K X.mg X.base k x ps sp) (hr : Room k X.A) (hg : Gl X x) (hdb : (x == ("__debug__" : Str)) = false := by decide) :
    PE X (.Call (.Name x p) [] [] pos) (tCall sp [] E0 tNil) := by
  obtain ⟨fd, F, b⟩ := D.ex
  exact pe_call0 F hr hg D.gl D.kp b .nil pass0 hdb
/-- powers of greater numbers -/
def CPowW (i j : Int) : Prop := 0 ≤ j ∧ (Builtin.Int.intBits i : Int) * j ≤ 2 ^ 27
theorem op_powW : OpR X (binaryOp .Pow) (rI CPowW fun i j => .int (i ^ j.toNat)) := opI fun _ _ _ _ _ _ _ hc q => pow_int hc.1 hc.2 q
end
/-! ### a list of three numbers that draws are made of -/
/-- all but d stands as it stood -/
def Kept (d : Addr) (H H' : Hp) : Prop := ∀ a o, a ≠ d → H a = some o → H' a = some o
theorem Kept.refl (d : Addr) (H : Hp) : Kept d H H := fun _ _ _ e => e
theorem Kept.trans {d : Addr} {H H1 H2 : Hp} (a : Kept d H H1) (b : Kept d H1 H2) : Kept d H H2 := fun c o n e => b c o n (a c o n e)
theorem Kept.upd {d : Addr} {H : Hp} {o : HO} : Kept d H (upd H d o) := fun a u n e => by
  rw [upd_ne n]
  exact e
theorem Kept.new {d p : Addr} {H : Hp} {o : HO} (h : H p = none) : Kept d H (L2.upd H p o) := fun a u n e => by
  rw [upd_ne (ne_of_none e h)]
  exact e
theorem Kept.same {d : Addr} {H H1 H' : Hp} (k : Kept d H1 H') (s : Same H H1) (h : H d = none) : Same H H' := fun a o e => k a o (ne_of_none e h) (s a o e)
theorem Kept.free {d p : Addr} {H H' : Hp} (k : Kept d H H') (h : H' p = none) (n : p ≠ d) : H p = none := by
  cases e : H p with
  | none => rfl
  | some o =>
    rw [k p o n e] at h
    cases h
/-- the draws at d: at most n of them were mixed -/
def Dc (H : Hp) (d : Addr) (n : Int) : Prop := ∃ g b c : Int, H d = some (.lst [.int g, .int b, .int c]) ∧ 0 ≤ g ∧ g < 2 ^ 2200 ∧ 0 ≤ b ∧ b < 2 ^ 62 ∧ 0 ≤ c ∧ c ≤ n
theorem Dc.mono {H : Hp} {d : Addr} {n m : Int} (h : Dc H d n) (l : n ≤ m) : Dc H d m := by
  obtain ⟨g, b, c, h1, h2, h3, h4, h5, h6, h7⟩ := h
  exact ⟨g, b, c, h1, h2, h3, h4, h5, h6, by omega⟩
theorem Dc.new {H : Hp} {d p : Addr} {n : Int} {o : HO} (h : Dc H d n) (hp : H p = none) : Dc (upd H p o) d n := by
  obtain ⟨g, b, c, h1, r⟩ := h
  exact ⟨g, b, c, by rw [upd_ne (ne_of_none h1 hp)]; exact h1, r⟩
theorem Dc.ne {H : Hp} {d a : Addr} {n : Int} {o : HO} (h : Dc H d n) (e : H a = some o) (hn : ∀ xs, o ≠ .lst xs) : a ≠ d := fun z => by
  obtain ⟨g, b, c, h1, _⟩ := h
  rw [z, h1] at e
  exact hn _ (Option.some.inj e).symm
/-- a new place is another one -/
theorem Dc.nn {H : Hp} {d p : Addr} {n : Int} (h : Dc H d n) (hp : H p = none) : p ≠ d := fun z => by
  obtain ⟨g, b, c, h1, _⟩ := h
  rw [z, h1] at hp
  cases hp
/-- other objects change, d stands -/
theorem Dc.keep {H H' : Hp} {d : Addr} {n : Int} (h : Dc H d n) (k : H' d = H d) : Dc H' d n := by
  obtain ⟨g, b, c, h1, r⟩ := h
  exact ⟨g, b, c, k.trans h1, r⟩
/-! ### small data: what values are shown as -/
inductive Lf : V → PyData → Prop where
  | non : Lf .non .none
  | bl (b : Bool) : Lf (.bl b) (.bool b)
  | int (i : Int) (h : i.natAbs < 2 ^ 200) : Lf (.int i) (.int i)
  | str (z : Str) (h : z.length ≤ 40) (a : ∀ c ∈ z.cps.toList, c < 128) : Lf (.str z) (.str z)
inductive Lfs : List V → List PyData → Prop where
  | nil : Lfs [] []
  | cons {v : V} {vs : List V} {d : PyData} {ds : List PyData} : Lf v d → Lfs vs ds → Lfs (v :: vs) (d :: ds)
/-- a value: a leaf, or a tuple of at most four leaves -/
inductive Nv (K : W.Frag) (H : Hp) : V → PyData → Prop where
  | lf {v : V} {d : PyData} (h : Lf v d) : Nv K H v d
  | tup {a : Addr} {xs : List V} {ds : List PyData} (h : H a = some (.tup xs)) (l : Lfs xs ds) (z : xs.length ≤ 4) : Nv K H (.ref a) (.tuple ds)
  | emp {a : Addr} (h : SqT K H a []) : Nv K H (.ref a) (.tuple [])
theorem Lf.dp {K : W.Frag} {H : Hp} {v : V} {d : PyData} (h : Lf v d) : Dp K H v d := by
  cases h with
  | non => exact .non
  | bl b => exact .bl b
  | int i _ => exact .int i
  | str z _ _ => exact .str z
theorem Lfs.dp {K : W.Frag} {H : Hp} : ∀ {vs : List V} {ds : List PyData}, Lfs vs ds → DpAll K H vs ds
  | _, _, .nil => .nil
  | _, _, .cons h t => .cons h.dp t.dp
theorem Nv.dp {K : W.Frag} {H : Hp} {v : V} {d : PyData} (h : Nv K H v d) : Dp K H v d := by
  cases h with
  | lf h => exact h.dp
  | tup h l _ => exact .tup (SqT.of h) l.dp
  | emp h => exact .tup h .nil
/-- values stand while nothing but lists changes -/
def KeptT (H H' : Hp) : Prop := ∀ a xs, H a = some (.tup xs) → H' a = some (.tup xs)
theorem Nv.keep {K : W.Frag} {H H' : Hp} {v : V} {d : PyData} (h : Nv K H v d) (k : KeptT H H') (kf : ∀ a o u, H a = some (.frz o u) → H' a = some (.frz o u)) : Nv K H' v d := by
  cases h with
  | lf h => exact .lf h
  | tup h l z => exact .tup (k _ _ h) l z
  | emp h =>
    refine .emp ?_
    rcases h with (h | ⟨o, h⟩) | h
    · exact .inl (.inl (k _ _ h))
    · exact .inl (.inr ⟨o, kf _ _ _ h⟩)
    · exact .inr h
end EW
end

section
set_option maxHeartbeats 4000000
namespace EW
open PySem PySem.Spec PyProof.Rows L2
/-! rules with the written part told by its own letter: so that a comprehension's block may use them -/
section
variable {X : Cx}
theorem boot_isinstance : bootBuiltins "isinstance" = some (.builtin "isinstance") := by decide +kernel
theorem boot_repr : bootBuiltins "repr" = some (.builtin "repr") := by decide +kernel
theorem boot_abs : bootBuiltins "abs" = some (.builtin "abs") := by decide +kernel
theorem boot_max : bootBuiltins "max" = some (.builtin "max") := by decide +kernel
theorem boot_min : bootBuiltins "min" = some (.builtin "min") := by decide +kernel
theorem boot_int : bootBuiltins "int" = some (.type "int") := by decide +kernel
theorem call_lenK (K : W.Frag) (h : X.K = K) : CallR X (.builtin "len") (fun xs H Q => ∃ x n, xs = [x] ∧ LenV K x H n ∧ Q (.int n) H) := by
  subst h
  exact call_len
theorem ix_listK (K : W.Frag) (h : X.K = K) : IxR X (rIxL K) := by
  subst h
  exact ix_list
theorem call_isXK (K : W.Frag) (h : X.K = K) : CallR X (.builtin "isinstance") (rIsX K) := by
  subst h
  exact call_isX
theorem call_reprK {k : Nat} (K : W.Frag) (h : X.K = K) (hG : X.A.guards = some []) (hr : Room k X.A) : CallR X (.builtin "repr") (rRepr K) := by
  subst h
  exact call_repr hG hr
theorem pe_xflK {e : Expr} {te : TE} {f : Str} {pos : Pos} (K : W.Frag) (h : X.K = K) (he : PE X e te) (hb : attributeBase e f X.env (eval e X.env) = eval e X.env := by rfl) : PE X (.Attribute e f pos) (tXfl K f te) := by
  subst h
  exact pe_xfl he hb
theorem op_eqDK (K : W.Frag) (h : X.K = K) (hu : X.A.units + 64 < cLine) : OpR X (compareOp .Eq) (rEqD K) := by
  subst h
  exact op_eqD hu
theorem op_neDK (K : W.Frag) (h : X.K = K) (hu : X.A.units + 64 < cLine) : OpR X (compareOp .NotEq) (rNeD K) := by
  subst h
  exact op_neD hu
end
end EW
end

section
set_option maxHeartbeats 4000000
namespace EW
open PySem PySem.Spec PyProof.Rows L2
/-! ### new objects, the heap behind them told by what it holds alone -/
section
variable {X : Cx} {e : Expr} {es : List Expr} {t : TA} {te te' : TE} {pos p : Pos}
theorem PE.imp (h : PE X e te) (i : ∀ σ H Q, te' σ H Q → te σ H Q) : PE X e te' := ⟨fun pins s σ H Q I q => h.run pins s σ H Q I (i _ _ _ q)⟩
theorem PE.cl (h : PE X e te) : PE X e (fun σ H Q => ∃ R : VK, te σ H R ∧ ∀ v H1, R v H1 → Q v H1) := by
  refine ⟨fun pins s σ H Q I q => ?_⟩
  obtain ⟨R, h1, h2⟩ := q
  refine wpAny_mono (h.run pins s σ H R I h1) (fun u s' z => ?_) fun _ _ z => z
  obtain ⟨v, H1, I1, rv, r⟩ := z
  exact ⟨v, H1, I1, rv, h2 v H1 r⟩
theorem PA.cl (h : PA X es t) : PA X es (fun σ H Q => ∃ R : List V → Hp → Prop, t σ H R ∧ ∀ v H1, R v H1 → Q v H1) := by
  refine ⟨fun ps pins s σ H Q I q => ?_⟩
  obtain ⟨R, h1, h2⟩ := q
  refine wpAny_mono (h.run ps pins s σ H R I h1) (fun u s' z => ?_) fun _ _ z => z
  obtain ⟨v, H1, I1, rv, r⟩ := z
  exact ⟨v, H1, I1, rv, h2 v H1 r⟩
theorem sameN {H : Hp} {p : Addr} {o : HO} (h : H p = none) : Same H (upd H p o) := fun a u z => by
  rw [upd_ne (ne_of_none z h)]
  exact z
/-- something new at p -/
def New (H : Hp) (o : Addr → HO) (Q : VK) : Prop := ∀ (p : Addr) (H' : Hp), H p = none → Same H H' → H' p = some (o p) → Q (.ref p) H'
theorem New.at {H : Hp} {o : Addr → HO} {Q : VK} (h : New H o Q) {p : Addr} (hp : H p = none) : Q (.ref p) (upd H p (o p)) := h p _ hp (sameN hp) upd_same
def tLstS (t : TA) : TE := fun σ H Q => t σ H fun xs H1 => xs.length ≤ sizeLine ∧ New H1 (fun _ => .lst xs) Q
def tTupS (t : TA) : TE := fun σ H Q => t σ H fun xs H1 => xs.length ≤ sizeLine ∧ New H1 (fun _ => .tup xs) Q
theorem pe_lstS (h : PA X es t) : PE X (.List es pos) (tLstS t) :=
  PE.imp (pe_lst (PA.cl h)) fun σ H Q q => ⟨_, q, fun _ _ z => ⟨z.1, fun _ hp => z.2.at hp⟩⟩
theorem pe_tupS {n : Nat} (h : PA X es t) : PE X (.Tuple es n pos) (tTupS t) :=
  PE.imp (pe_tup (PA.cl h)) fun σ H Q q => ⟨_, q, fun _ _ z => ⟨z.1, fun _ hp => z.2.at hp⟩⟩
def rCatS : R2 := fun x y H Q => ∃ (a b : Addr) (xs ys : List V), x = .ref a ∧ y = .ref b ∧ H a = some (.lst xs) ∧ H b = some (.lst ys) ∧ xs.length + ys.length ≤ sizeLine ∧ New H (fun _ => .lst (xs ++ ys)) Q
theorem op_catS : OpR X (binaryOp .Add) rCatS := by
  intro pins s σ H x y v u Q I rx ry h
  obtain ⟨a, b, xs, ys, h1, h2, h3, h4, h5, h6⟩ := h
  exact op_cat pins s σ H x y v u Q I rx ry ⟨a, b, xs, ys, h1, h2, h3, h4, h5, fun _ hp => h6.at hp⟩
end
end EW
end

section
set_option maxHeartbeats 4000000
namespace EW
open PySem PySem.Spec PyProof.Rows L2
/-- a cut behind a statement: what follows is shown of every state of which P holds -/
def tCut (a : TS) : TS := fun D σ H => ∃ P : L2.St → Hp → Prop, a { D with nx := P } σ H ∧ ∀ σ' H', P σ' H' → D.nx σ' H'
theorem ps_cut {X : Cx} {st : Stmt} {a : TS} (h : PS X st a) : PS X st (tCut a) := by
  refine ⟨fun pins s σ H D I q => ?_⟩
  obtain ⟨P, h1, h2⟩ := q
  refine wpAny_mono (h.run pins s σ H _ I h1) (fun fl s' z => ?_) fun _ _ z => z
  cases fl with
  | next =>
    obtain ⟨σ', H', I', p⟩ := z
    exact ⟨σ', H', I', h2 σ' H' p⟩
  | ret u => exact z
  | brk => exact z
  | cont => exact z
end EW
end

section
set_option maxHeartbeats 4000000
namespace K00
open PySem PySem.Spec PyProof.Rows L2 EW
def top (i : Nat) : Stmt := PySem.Challenge.pw_everwhen_k00_errors_and_their_classes.main.body.getD i (.Pass ⟨0, 0, 0, 0⟩)
abbrev sDice : Stmt := top 19
abbrev sRoll : Stmt := top 20
abbrev sPick : Stmt := top 21
abbrev sWord : Stmt := top 22
abbrev sNumber : Stmt := top 23
abbrev sCount : Stmt := top 24
abbrev sName : Stmt := top 25
abbrev sValu : Stmt := top 26
abbrev sMsg : Stmt := top 27
abbrev sOwn : Stmt := top 28
abbrev sAbove : Stmt := top 29
abbrev sDue : Stmt := top 30
abbrev sLot : Stmt := top 31
abbrev sRight : Stmt := top 32
abbrev sLaw : Stmt := top 33
abbrev FnP (K : W.Frag) (x : Str) (st : Stmt) (fd : FuncData) : Prop := FunD K x x (defArgs st) (defBody st) (defScope st) [] [] (He.ga K x) fd
/-- names of the built-ins that the module doesn't bind -/
structure Fre (mg : Str → Option Value) : Prop where
  len : mg "len" = none
  int : mg "int" = none
  abs : mg "abs" = none
  max : mg "max" = none
  min : mg "min" = none
  range : mg "range" = none
  enumerate : mg "enumerate" = none
  isinstance : mg "isinstance" = none
  repr : mg "repr" = none
/-! ### the draws -/
theorem bits58 : (Builtin.Int.intBits ((10 : Int) ^ (58 : Int).toNat) : Int) * 11 ≤ 2 ^ 27 := by decide +kernel
abbrev MOD : Int := ((10 : Int) ^ (58 : Int).toNat) ^ (11 : Int).toNat
theorem mod_pos : 0 < MOD := by decide +kernel
theorem mod_lt : MOD < 2 ^ 2200 := by decide +kernel
theorem great_ok (n : Int) : 0 ≤ n % MOD ∧ n % MOD < 2 ^ 2200 := ⟨Int.emod_nonneg _ (Int.ne_of_gt mod_pos), Int.lt_trans (Int.emod_lt_of_pos _ mod_pos) mod_lt⟩
theorem two_ok {q one c : Int} (p0 : 0 ≤ q) (p1 : q < 36028797018963913) (o0 : 0 ≤ one) (o1 : one < 72057594037927931) (h0 : 0 ≤ c) (h1 : c ≤ 2000000) : (q * one + 15485863 * c).natAbs < 2 ^ 130 := by
  have t1 : q * one ≤ 36028797018963913 * 72057594037927931 := Int.mul_le_mul (by omega) (by omega) o0 (by decide)
  have t0 : 0 ≤ q * one := Int.mul_nonneg p0 o0
  omega
def spDice (K : W.Frag) : Sp := fun vs H Q _ => ∃ (a : Addr) (ns : List Int) (s : Int), vs = [.ref a, .int s] ∧ SqL K H a (ns.map V.int) ∧ 0 ≤ s ∧
  ∀ (d : Addr) (H' : Hp), H d = none → Same H H' → Dc H' d 0 → Q (.ref d) H'
def spRoll : Sp := fun vs H Q _ => ∃ (d : Addr) (m n : Int), vs = [.ref d, .int m] ∧ Dc H d n ∧ n ≤ 1000000 ∧ 0 < m ∧ m < 2 ^ 200 ∧
  ∀ (r : Int) (H' : Hp), 0 ≤ r → r < m → Kept d H H' → Dc H' d (n + 1) → Q (.int r) H'
abbrev NDice : List Str := ["_law_script", "_law_spot", "_law_cell", "_law_great", "_law_blend"]
theorem Dice : FnScope NDice ["_law_script", "_law_spot"] (defScope sDice) := ⟨rfl, rfl, rfl, by decide +kernel, rfl, by decide +kernel, by decide +kernel⟩
abbrev NRoll : List Str := ["_law_dice_here", "_law_many", "_law_found", "_law_one", "_law_two"]
theorem Roll : FnScope NRoll ["_law_dice_here", "_law_many"] (defScope sRoll) := ⟨rfl, rfl, rfl, by decide +kernel, rfl, by decide +kernel, by decide +kernel⟩
section
variable {P : Program} {w : World} {K : W.Frag} {mg : Str → Option Value} {base : Heap}
/-- what stands behind the drawn cell -/
theorem dice_end {H : Hp} {Q : VK} {great bl : Int} (k : ∀ (d : Addr) (H' : Hp), H d = none → Same H H' → Dc H' d 0 → Q (.ref d) H') (hg : 0 ≤ great ∧ great < 2 ^ 2200) (d : Addr) (hd : H d = none) (m : Int) (hm : m = if great - 10 ^ (18 : Int).toNat > 0 then great - 10 ^ (18 : Int).toNat else 0) :
    Q (.ref d) (upd H d (.lst [.int m, .int (bl % 2305843009213693907), .int 0])) := by
  refine k d _ hd (fun b o e => by rw [upd_ne (ne_of_none e hd)]; exact e) ⟨m, bl % 2305843009213693907, 0, upd_same, ?_, ?_, Int.emod_nonneg _ (by decide), ?_, Int.le_refl _, Int.le_refl _⟩
  · rw [hm]
    split <;> omega
  · have z : (0 : Int) ≤ 10 ^ (18 : Int).toNat := by decide +kernel
    have z2 : (0 : Int) < 2 ^ 2200 := by decide +kernel
    rw [hm]
    split <;> omega
  · have z := Int.emod_lt_of_pos bl (show (0 : Int) < 2305843009213693907 by decide)
    omega
theorem ok_dice {fd : FuncData} (F : FnP K "_law_dice" sDice fd) (T : Fre mg) : FnOk P w K mg base CX0 1 (He.ga K "_law_dice") fd ["_law_script", "_law_spot"] (spDice K) := by
  refine F.ok Dice (fun vs H Q E h => ?_) (fun cdv A outer s H vs Q E hr h => ?_)
  · obtain ⟨a, ns, s, rfl, _⟩ := h
    rfl
  · obtain ⟨a, ns, sp, rfl, hS, h0, k⟩ := h
    refine ⟨_, PSs.nox (pss_cons (ps_set (i := 2) Dice.nd rfl (Or.inl rfl) (pe_op op_add (pe_op op_mul pe_int (pv 1)) pe_int))
      (pss_cons (ps_if (pt_cmpR op_lt (pv 1) (pe_callB (call_lenK K rfl) (by rfl) T.len PySem.boot_len (pa_cons (pv 0) pa_nil)) (nomark _)) (pss_one (ps_set (i := 2) Dice.nd rfl (Or.inl rfl) (pe_ix (ix_listK K rfl) (pv 0) (pv 1) (fun _ _ => rfl)))) pss_nil)
      (pss_cons (ps_set (i := 3) Dice.nd rfl (Or.inl rfl) (pe_op op_mod (pe_callTy call_int1 (by rfl) T.int EW.boot_int (pa_cons (pe_callB call_abs (by rfl) T.abs EW.boot_abs (pa_cons (pv 2) pa_nil)) pa_nil)) (pe_op op_powW (pe_op op_pow pe_int pe_int) pe_int)))
      (pss_cons (ps_set (i := 4) Dice.nd rfl (Or.inl rfl) (pe_op op_mul (pe_op op_mod (pe_callTy call_int1 (by rfl) T.int EW.boot_int (pa_cons (pv 3) pa_nil)) pe_int) pe_int))
      (pss_cons (ps_set (i := 4) Dice.nd rfl (Or.inl rfl) (pe_op op_add (pe_op op_add (pe_op op_add (pv 4) (pe_op op_mul pe_int (pv 1))) (pe_op op_mul pe_int (pe_callTy call_int1 (by rfl) T.int EW.boot_int (pa_cons (pe_cmpR op_lt (pv 2) pe_int (nomark _)) pa_nil)))) pe_int))
      (pss_one (ps_ret (pe_lst (pa_cons (pe_callB (call_max2 rfl) (by rfl) T.max EW.boot_max (pa_cons pe_int (pa_cons (pe_op op_sub (pv 3) (pe_op op_pow pe_int pe_int)) pa_nil))) (pa_cons (pe_op op_mod (pe_callTy call_int1 (by rfl) T.int EW.boot_int (pa_cons (pv 4) pa_nil)) pe_int) (pa_cons pe_int pa_nil))))))))))), ?_⟩
    refine ⟨_, rfl, _, _, rfl, rfl, .inl ⟨by decide, by decide⟩, _, _, rfl, rfl, ?_⟩
    refine ⟨_, rfl, _, rfl, _, (ns.map V.int).length, rfl, Or.inl ⟨_, hS, rfl⟩, _, _, rfl, rfl, _, rfl, ?_⟩
    refine ite2 (fun c => ?_) (fun c => ?_)
    · have c' : sp < ((ns.map V.int).length : Int) := of_decide_eq_true c
      rw [List.length_map] at c'
      obtain ⟨j, rfl⟩ : ∃ j : Nat, sp = (j : Int) := ⟨sp.toNat, by omega⟩
      have hj : j < ns.length := by omega
      have ej : (ns.map V.int)[j]? = some (V.int ns[j]) := by
        rw [List.getElem?_map, List.getElem?_eq_getElem hj]
        rfl
      refine ⟨_, rfl, _, rfl, a, _, _, _, rfl, rfl, hS, atI_nat ej, ?_⟩
      refine ⟨_, rfl, _, rfl, Or.inl ⟨_, rfl, _, _, rfl, rfl, ⟨by decide, by decide, by decide⟩, _, _, rfl, rfl, ⟨by decide, bits58⟩, _, _, rfl, rfl, mod_pos, ?_⟩⟩
      refine ⟨_, rfl, Or.inl ⟨_, rfl, _, _, rfl, rfl, (by show (0 : Int) < 2305843009213693921; decide), _, _, rfl, rfl, .inr ⟨by decide, by decide⟩, ?_⟩⟩
      refine ⟨_, rfl, _, rfl, _, _, rfl, rfl, .inl ⟨by decide, by decide⟩, _, _, rfl, rfl, _, rfl, _, _, rfl, rfl, Or.inr ⟨_, rfl, _, _, rfl, rfl, .inl ⟨by decide, by decide⟩, _, _, rfl, rfl, _, _, rfl, rfl, ?_⟩⟩
      refine ⟨_, rfl, _, _, rfl, rfl, ⟨by decide, by decide, by decide⟩, _, _, rfl, rfl, _, _, rfl, ?_⟩
      refine ⟨_, rfl, Or.inl ⟨_, rfl, _, _, rfl, rfl, (by show (0 : Int) < 2305843009213693907; decide), (by show 3 ≤ sizeLine; decide), fun d hd => ?_⟩⟩
      exact dice_end k (great_ok _) d hd _ rfl
    · refine ⟨_, rfl, _, rfl, Or.inl ⟨_, rfl, _, _, rfl, rfl, ⟨by decide, by decide, by decide⟩, _, _, rfl, rfl, ⟨by decide, bits58⟩, _, _, rfl, rfl, mod_pos, ?_⟩⟩
      refine ⟨_, rfl, Or.inl ⟨_, rfl, _, _, rfl, rfl, (by show (0 : Int) < 2305843009213693921; decide), _, _, rfl, rfl, .inr ⟨by decide, by decide⟩, ?_⟩⟩
      refine ⟨_, rfl, _, rfl, _, _, rfl, rfl, .inl ⟨by decide, by decide⟩, _, _, rfl, rfl, _, rfl, _, _, rfl, rfl, Or.inr ⟨_, rfl, _, _, rfl, rfl, .inl ⟨by decide, by decide⟩, _, _, rfl, rfl, _, _, rfl, rfl, ?_⟩⟩
      refine ⟨_, rfl, _, _, rfl, rfl, ⟨by decide, by decide, by decide⟩, _, _, rfl, rfl, _, _, rfl, ?_⟩
      refine ⟨_, rfl, Or.inl ⟨_, rfl, _, _, rfl, rfl, (by show (0 : Int) < 2305843009213693907; decide), (by show 3 ≤ sizeLine; decide), fun d hd => ?_⟩⟩
      exact dice_end k (great_ok _) d hd _ rfl
theorem ok_roll {fd : FuncData} (F : FnP K "_law_roll" sRoll fd) (T : Fre mg) : FnOk P w K mg base CX0 1 (He.ga K "_law_roll") fd ["_law_dice_here", "_law_many"] spRoll := by
  refine F.ok Roll (fun vs H Q E h => ?_) (fun cdv A outer s H vs Q E hr h => ?_)
  · obtain ⟨d, m, n, rfl, _⟩ := h
    rfl
  · obtain ⟨d, m, n, rfl, D, hn, h0, h1, k⟩ := h
    refine ⟨_, PSs.nox (pss_cons (ps_if (pt_cmpR op_gt (pe_ix (ix_listK K rfl) (pv 0) pe_int (fun _ _ => rfl)) pe_int (nomark _)) (pss_cons (ps_set (i := 2) Roll.nd rfl (Or.inl rfl) (pe_op op_mod (pe_callTy call_int1 (by rfl) T.int EW.boot_int (pa_cons (pe_ix (ix_listK K rfl) (pv 0) pe_int (fun _ _ => rfl)) pa_nil)) (pv 1)))
      (pss_cons (ps_asg (pe_op op_fdivW (pe_ix (ix_listK K rfl) (pv 0) pe_int (fun _ _ => rfl)) (pv 1)) (pg_sub (pv 0) pe_int set_list))
      (pss_one (ps_ret (pv 2))))) pss_nil)
      (pss_cons (ps_asg (pe_op op_add (pe_ix (ix_listK K rfl) (pv 0) pe_int (fun _ _ => rfl)) pe_int) (pg_sub (pv 0) pe_int set_list))
      (pss_cons (ps_set (i := 3) Roll.nd rfl (Or.inl rfl) (pe_op op_mod (pe_callTy call_int1 (by rfl) T.int EW.boot_int (pa_cons (pe_op op_add (pe_ix (ix_listK K rfl) (pv 0) pe_int (fun _ _ => rfl)) (pe_op op_mul pe_int (pe_ix (ix_listK K rfl) (pv 0) pe_int (fun _ _ => rfl)))) pa_nil)) pe_int))
      (pss_cons (ps_set (i := 4) Roll.nd rfl (Or.inl rfl) (pe_op op_add (pe_op op_mul (pe_op op_mod (pe_callTy call_int1 (by rfl) T.int EW.boot_int (pa_cons (pe_op op_mul (pv 3) (pv 3)) pa_nil)) pe_int) (pv 3)) (pe_op op_mul pe_int (pe_ix (ix_listK K rfl) (pv 0) pe_int (fun _ _ => rfl)))))
      (pss_one (ps_ret (pe_op op_mod (pe_callTy call_int1 (by rfl) T.int EW.boot_int (pa_cons (pe_op op_fdivW (pe_op op_mod (pe_callTy call_int1 (by rfl) T.int EW.boot_int (pa_cons (pe_op op_add (pe_op op_mulW (pv 4) (pv 4)) (pe_ix (ix_listK K rfl) (pv 0) pe_int (fun _ _ => rfl))) pa_nil)) pe_int) pe_int) pa_nil)) (pv 1)))))))), ?_⟩
    obtain ⟨g, b, c, hd, hg0, hg1, hb0, hb1, hc0, hc1⟩ := D
    have sq : ∀ {g b c : Int} {H : Hp}, H d = some (.lst [.int g, .int b, .int c]) → SqL K H d [.int g, .int b, .int c] := fun h => SqL.of h
    refine ⟨_, rfl, d, _, _, _, rfl, rfl, sq hd, rfl, _, _, rfl, rfl, _, rfl, ?_⟩
    refine ite2 (fun q => ?_) (fun q => ?_)
    · refine ⟨_, rfl, d, _, _, _, rfl, rfl, sq hd, rfl, Or.inl ⟨_, rfl, ?_⟩⟩
      refine ⟨_, rfl, _, _, rfl, rfl, h0, ?_⟩
      refine ⟨_, rfl, d, _, _, _, rfl, rfl, sq hd, rfl, _, rfl, _, _, rfl, rfl, wide_div h0 (b := 200) (by omega) (by decide) (by decide), ?_⟩
      refine ⟨_, rfl, d, _, _, 0, rfl, rfl, hd, rfl, ?_⟩
      refine ⟨_, rfl, ?_⟩
      refine k _ _ (Int.emod_nonneg _ (by omega)) (Int.emod_lt_of_pos _ h0) Kept.upd ⟨g / m, b, c, upd_same, Int.ediv_nonneg hg0 (by omega), ?_, hb0, hb1, hc0, by omega⟩
      exact Int.lt_of_le_of_lt (Int.ediv_le_self _ hg0) hg1
    · have hc2 : H d = some (.lst [.int g, .int b, .int c]) := hd
      refine ⟨_, rfl, d, _, _, _, rfl, rfl, sq hd, rfl, _, _, rfl, rfl, _, rfl, d, _, _, 2, rfl, rfl, hd, rfl, ?_⟩
      have e1 : (upd H d (.lst ([V.int g, V.int b, V.int c].set 2 (.int (c + 1))))) d = some (.lst [.int g, .int b, .int (c + 1)]) := upd_same
      refine ⟨_, rfl, d, _, _, _, rfl, rfl, sq e1, rfl, _, rfl, d, _, _, _, rfl, rfl, sq e1, rfl, _, _, rfl, rfl, .inl ⟨by decide, by decide⟩, _, _, rfl, rfl, Or.inl ⟨_, rfl, _, _, rfl, rfl, (by show (0 : Int) < 72057594037927931; decide), ?_⟩⟩
      have o0 := Int.emod_nonneg (b + 1000000403 * (c + 1)) (show (72057594037927931 : Int) ≠ 0 by decide)
      have o1 := Int.emod_lt_of_pos (b + 1000000403 * (c + 1)) (show (0 : Int) < 72057594037927931 by decide)
      refine ⟨_, rfl, _, rfl, _, _, rfl, rfl, .inl ⟨by omega, by omega⟩, Or.inl ⟨_, rfl, _, _, rfl, rfl, (by show (0 : Int) < 36028797018963913; decide), ?_⟩⟩
      have p0 := Int.emod_nonneg ((b + 1000000403 * (c + 1)) % 72057594037927931 * ((b + 1000000403 * (c + 1)) % 72057594037927931)) (show (36028797018963913 : Int) ≠ 0 by decide)
      have p1 := Int.emod_lt_of_pos ((b + 1000000403 * (c + 1)) % 72057594037927931 * ((b + 1000000403 * (c + 1)) % 72057594037927931)) (show (0 : Int) < 36028797018963913 by decide)
      refine ⟨_, rfl, _, _, rfl, rfl, .inl ⟨by omega, by omega⟩, _, rfl, d, _, _, _, rfl, rfl, sq e1, rfl, _, _, rfl, rfl, .inl ⟨by decide, by decide⟩, _, _, rfl, rfl, ?_⟩
      have two_lt := two_ok p0 p1 o0 o1 (c := c + 1) (by omega) (by omega)
      refine ⟨_, rfl, _, rfl, _, _, rfl, rfl, wide_mul (a := 130) (b := 130) two_lt two_lt (by decide) (by decide) (by decide), ?_⟩
      refine ⟨_, rfl, d, _, _, _, rfl, rfl, sq e1, rfl, _, _, rfl, rfl, Or.inl ⟨_, rfl, _, _, rfl, rfl, (by show (0 : Int) < 1152921504606846883; decide), _, _, rfl, rfl, ⟨by decide, by decide⟩, Or.inl ⟨_, rfl, ?_⟩⟩⟩
      refine ⟨_, rfl, _, _, rfl, rfl, h0, ?_⟩
      exact k _ _ (Int.emod_nonneg _ (by omega)) (Int.emod_lt_of_pos _ h0) Kept.upd ⟨g, b, c + 1, e1, hg0, hg1, hb0, hb1, by omega, by omega⟩
end
end K00
end

section
set_option maxHeartbeats 4000000
namespace K00
open PySem PySem.Spec PyProof.Rows L2 EW
theorem sqL_kept {K : W.Frag} {H H' : Hp} {l d : Addr} {xs : List V} (h : SqL K H l xs) (n : l ≠ d) (k : EW.Kept d H H') : SqL K H' l xs := by
  rcases h with (h | ⟨o, h⟩) | h
  · exact .inl (.inl (k _ _ n h))
  · exact .inl (.inr ⟨o, k _ _ n h⟩)
  · exact .inr h
theorem sign_at (z : Str) {r : Int} (h0 : 0 ≤ r) (h1 : r < (z.length : Int)) (ha : ∀ c ∈ z.cps.toList, c < 128) : ∃ c, atI z.cps.toList r = some c ∧ c < 128 := by
  obtain ⟨j, rfl⟩ : ∃ j : Nat, r = (j : Int) := ⟨r.toNat, by omega⟩
  have hj : j < z.cps.toList.length := by
    have e : z.cps.toList.length = z.length := by
      rw [Array.length_toList]
      rfl
    omega
  exact ⟨z.cps.toList[j], atI_nat (List.getElem?_eq_getElem hj), ha _ (List.getElem_mem hj)⟩
abbrev SIGNS : Str := "abcdefghijklmnopqrstuvwxyz ABZ019-_.:"
abbrev LETS : Str := "abcdefghijklmnopqrstuvwxyz"
theorem signs_len : SIGNS.length = 37 := by decide +kernel
theorem lets_len : LETS.length = 26 := by decide +kernel
theorem signs_ascii : ∀ c ∈ SIGNS.cps.toList, c < 128 := by decide +kernel
theorem lets_ascii : ∀ c ∈ LETS.cps.toList, c < 128 := by decide +kernel
/-- a text of at most nine ASCII signs -/
def Wd (z : Str) : Prop := z.length ≤ 9 ∧ ∀ c ∈ z.cps.toList, c < 128
/-- texts of one sign, put together -/
theorem join_wd : ∀ (ys : List Str), ys.length ≤ 9 → (∀ y ∈ ys, ∃ c, y = ⟨#[c]⟩ ∧ c < 128) → Wd (Txt.join "" ys) ∧ (ys.map (·.length)).sum + ys.length * ("" : Str).length ≤ 16777216 := by
  intro ys hl hy
  have key : ∀ (ys : List Str), (∀ y ∈ ys, ∃ c, y = ⟨#[c]⟩ ∧ c < 128) → (TL.joinL [] (ys.map TL.tl)).length = ys.length ∧ (∀ c ∈ TL.joinL [] (ys.map TL.tl), c < 128) ∧ (ys.map (·.length)).sum = ys.length := by
    intro ys
    induction ys with
    | nil =>
      intro _
      refine ⟨rfl, ?_, rfl⟩
      intro c h
      have h' : c ∈ ([] : List Nat) := h
      cases h'
    | cons y r ih =>
      intro h
      obtain ⟨c, rfl, hc⟩ := h y List.mem_cons_self
      obtain ⟨i1, i2, i3⟩ := ih fun y hy => h y (List.mem_cons_of_mem _ hy)
      cases r with
      | nil =>
        refine ⟨rfl, fun x hx => ?_, rfl⟩
        have hx' : x ∈ [c] := hx
        rw [List.mem_singleton] at hx'
        rw [hx']
        exact hc
      | cons z r =>
        have e : TL.joinL [] ((⟨#[c]⟩ :: z :: r : List Str).map TL.tl) = c :: TL.joinL [] ((z :: r).map TL.tl) := rfl
        rw [e]
        refine ⟨by rw [List.length_cons, i1]; rfl, fun x hx => ?_, ?_⟩
        · rcases List.mem_cons.mp hx with rfl | hx
          · exact hc
          · exact i2 x hx
        · have e2 : ((⟨#[c]⟩ :: z :: r : List Str).map (·.length)).sum = 1 + ((z :: r).map (·.length)).sum := rfl
          rw [e2, i3, List.length_cons (a := (⟨#[c]⟩ : Str))]
          omega
  obtain ⟨k1, k2, k3⟩ := key ys hy
  have e : TL.tl (Txt.join "" ys) = TL.joinL [] (ys.map TL.tl) := by
    have z : TL.tl ("" : Str) = [] := by decide +kernel
    have y := TL.tl_join "" ys
    rw [z, ← TL.join_eq] at y
    exact y
  refine ⟨⟨?_, fun c hc => ?_⟩, ?_⟩
  · have z : (TL.tl (Txt.join "" ys)).length = ys.length := by rw [e, k1]
    have z2 : (TL.tl (Txt.join "" ys)).length = (Txt.join "" ys).length := by
      show (Txt.join "" ys).cps.toList.length = _
      rw [Array.length_toList]
      rfl
    omega
  · exact k2 c (by rw [← e]; exact hc)
  · rw [k3]
    show ys.length + ys.length * 0 ≤ 16777216
    omega
def spPick (K : W.Frag) : Sp := fun vs H Q _ => ∃ (d l : Addr) (xs : List V) (n : Int), vs = [.ref d, .ref l] ∧ Dc H d n ∧ n ≤ 1000000 ∧ SqL K H l xs ∧ l ≠ d ∧ 0 < xs.length ∧ xs.length < 1000 ∧
  ∀ (v : V) (H' : Hp), v ∈ xs → EW.Kept d H H' → Dc H' d (n + 1) → Q v H'
def spWord : Sp := fun vs H Q _ => ∃ (d : Addr) (n : Int), vs = [.ref d] ∧ Dc H d n ∧ n + 10 ≤ 1000000 ∧
  ∀ (z : Str) (H' : Hp), Wd z → EW.Kept d H H' → Dc H' d (n + 10) → Q (.str z) H'
def spNumber : Sp := fun vs H Q _ => ∃ (d : Addr) (n : Int), vs = [.ref d] ∧ Dc H d n ∧ n + 3 ≤ 1000000 ∧
  ∀ (i : Int) (H' : Hp), i.natAbs < 2 ^ 200 → EW.Kept d H H' → Dc H' d (n + 3) → Q (.int i) H'
def spCount : Sp := fun vs H Q _ => ∃ (d : Addr) (n : Int), vs = [.ref d] ∧ Dc H d n ∧ n + 2 ≤ 1000000 ∧
  ∀ (i : Int) (H' : Hp), i.natAbs < 2 ^ 200 → EW.Kept d H H' → Dc H' d (n + 2) → Q (.int i) H'
abbrev NPick : List Str := ["_law_dice_here", "_law_items"]
theorem Pick : FnScope NPick ["_law_dice_here", "_law_items"] (defScope sPick) := ⟨rfl, rfl, rfl, by decide +kernel, rfl, by decide +kernel, by decide +kernel⟩
abbrev NWord : List Str := ["_law_dice_here", "_law_signs", "_law_turn"]
theorem Word : FnScope NWord ["_law_dice_here"] (defScope sWord) := ⟨rfl, rfl, rfl, by decide +kernel, rfl, by decide +kernel, by decide +kernel⟩
abbrev NNumber : List Str := ["_law_dice_here"]
theorem Number : FnScope NNumber ["_law_dice_here"] (defScope sNumber) := ⟨rfl, rfl, rfl, by decide +kernel, rfl, by decide +kernel, by decide +kernel⟩
abbrev NCount : List Str := ["_law_dice_here"]
theorem Count : FnScope NCount ["_law_dice_here"] (defScope sCount) := ⟨rfl, rfl, rfl, by decide +kernel, rfl, by decide +kernel, by decide +kernel⟩
abbrev NName : List Str := ["_law_dice_here", "_law_signs", "_law_turn"]
theorem Name : FnScope NName ["_law_dice_here"] (defScope sName) := ⟨rfl, rfl, rfl, by decide +kernel, rfl, by decide +kernel, by decide +kernel⟩
section
variable {P : Program} {w : World} {K : W.Frag} {mg : Str → Option Value} {base : Heap}
theorem ok_pick {fd : FuncData} (F : FnP K "_law_pick" sPick fd) (T : Fre mg) (D_law_roll : Df P w K mg base 1 "_law_roll" ["_law_dice_here", "_law_many"] spRoll) : FnOk P w K mg base CX0 2 (He.ga K "_law_pick") fd ["_law_dice_here", "_law_items"] (spPick K) := by
  refine F.ok Pick (fun vs H Q E h => ?_) (fun cdv A outer s H vs Q E hr h => ?_)
  · obtain ⟨d, l, xs, n, rfl, _⟩ := h
    rfl
  · obtain ⟨d, l, xs, n, rfl, D, hn, hS, ne, h0, h1, k⟩ := h
    refine ⟨_, PSs.nox (pss_one (ps_ret (pe_ix (ix_listK K rfl) (pv 1) (pe_df D_law_roll (hr.mono (by decide)) rfl (pa_cons (pv 0) (pa_cons (pe_callB (call_lenK K rfl) (by rfl) T.len PySem.boot_len (pa_cons (pv 1) pa_nil)) pa_nil))) (fun _ _ => rfl)))), ?_⟩
    refine ⟨_, rfl, _, rfl, _, rfl, _, xs.length, rfl, Or.inl ⟨_, hS, rfl⟩, ?_⟩
    refine ⟨d, _, n, rfl, D, hn, by omega, by omega, fun r H' r0 r1 kp D' => ?_⟩
    obtain ⟨j, rfl⟩ : ∃ j : Nat, r = (j : Int) := ⟨r.toNat, by omega⟩
    have hj : j < xs.length := by omega
    exact ⟨l, xs, _, _, rfl, rfl, sqL_kept hS ne kp, atI_nat (List.getElem?_eq_getElem hj), k _ _ (List.getElem_mem hj) kp D'⟩
theorem ok_word {fd : FuncData} (F : FnP K "_law_word" sWord fd) (T : Fre mg) (D_law_roll : Df P w K mg base 1 "_law_roll" ["_law_dice_here", "_law_many"] spRoll) : FnOk P w K mg base CX0 2 (He.ga K "_law_word") fd ["_law_dice_here"] spWord := by
  refine F.ok Word (fun vs H Q E h => ?_) (fun cdv A outer s H vs Q E hr h => ?_)
  · obtain ⟨d, n, rfl, _⟩ := h
    rfl
  · obtain ⟨d, n, rfl, D, hn, k⟩ := h
    refine ⟨_, PSs.nox (pss_cons (ps_set (i := 1) Word.nd rfl (Or.inr rfl) pe_str)
      (pss_one (ps_ret (pe_join pe_str (pe_lc (own := [("_law_turn", 2)]) (g := gName 2) (tt := tYes) (by rfl) Word.nd (pi_range1 rfl T.range (pa_cons (pe_df D_law_roll (hr.mono (by decide)) rfl (pa_cons (pv 0) (pa_cons pe_int pa_nil))) pa_nil)) (blkOk_by (own := [("_law_turn", 2)]) (N := NWord) (sc := defScope sWord) (by decide +kernel)) (fun _ _ _ _ _ => (pg_name (i := 2) Word.nd rfl (Or.inl rfl))) (fun _ _ _ _ _ => pts_nil) (fun _ _ _ _ _ => (pe_ix ix_str (pv 1) (pe_df D_law_roll (hr.mono (by decide)) rfl (pa_cons (pv 0) (pa_cons (pe_callB (call_lenK K rfl) (by rfl) T.len PySem.boot_len (pa_cons (pv 1) pa_nil)) pa_nil))) (fun _ _ => rfl)))))))), ?_⟩
    refine ⟨⟨_, rfl⟩, _, rfl, d, 10, n, rfl, D, by omega, by decide, by decide, fun r H1 r0 r1 k1 D1 => ?_⟩
    refine ⟨r, rfl, by omega, by omega, fun L hL => ?_⟩
    refine lc_range (lo := 0) (n := r.toNat) (fun i H2 => ∃ ys : List Str, H2 L = some (.lst (ys.map V.str)) ∧ ys.length = i ∧ (∀ y ∈ ys, ∃ c, y = ⟨#[c]⟩ ∧ c < 128) ∧ EW.Kept d H1 H2 ∧ Dc H2 d (n + 1 + i)) ?_ ?_ ?_
    · exact ⟨[], upd_same, rfl, (by intro y hy; cases hy), Kept.new hL, (D1.new hL).mono (by omega)⟩
    · rintro i H2 hi ⟨ys, h1, h2, h3, h4, h5⟩
      refine ⟨rfl, ?_⟩
      refine ⟨_, rfl, _, rfl, _, rfl, _, 37, rfl, ⟨by decide, signs_len.symm⟩, d, 37, _, rfl, h5, by omega, by decide, by decide, fun q H3 q0 q1 k3 D3 => ?_⟩
      obtain ⟨c, hc, lt⟩ := sign_at SIGNS q0 (by rw [signs_len]; exact q1) signs_ascii
      refine ⟨_, _, c, rfl, rfl, by decide, hc, ?_⟩
      have hLd : L ≠ d := D1.nn hL
      have h6 := k3 L _ hLd h1
      refine ⟨_, h6, by rw [List.length_map]; exact small1000 (by omega), ys ++ [⟨#[c]⟩], ?_, by rw [List.length_append, h2]; rfl, ?_, ?_, ?_⟩
      · rw [upd_same, List.map_append]
        rfl
      · intro y hy
        rcases List.mem_append.mp hy with hy | hy
        · exact h3 y hy
        · exact ⟨c, List.mem_singleton.mp hy, lt⟩
      · intro b o hb e
        rw [upd_ne (fun z => by rw [z, hL] at e; cases e)]
        exact k3 b o hb (h4 b o hb e)
      · refine Dc.mono (D3.keep ?_) (by omega)
        rw [upd_ne hLd.symm]
    · rintro H2 ⟨ys, h1, h2, h3, h4, h5⟩
      obtain ⟨j1, j2⟩ := join_wd ys (by omega) h3
      exact ⟨_, L, ys, rfl, rfl, .inl (SqL.of h1), j2, k _ _ j1 (k1.trans h4) (h5.mono (by omega))⟩
theorem ok_name {fd : FuncData} (F : FnP K "_law_name" sName fd) (T : Fre mg) (D_law_roll : Df P w K mg base 1 "_law_roll" ["_law_dice_here", "_law_many"] spRoll) : FnOk P w K mg base CX0 2 (He.ga K "_law_name") fd ["_law_dice_here"] spWord := by
  refine F.ok Name (fun vs H Q E h => ?_) (fun cdv A outer s H vs Q E hr h => ?_)
  · obtain ⟨d, n, rfl, _⟩ := h
    rfl
  · obtain ⟨d, n, rfl, D, hn, k⟩ := h
    refine ⟨_, PSs.nox (pss_cons (ps_set (i := 1) Name.nd rfl (Or.inr rfl) pe_str)
      (pss_one (ps_ret (pe_join pe_str (pe_lc (own := [("_law_turn", 2)]) (g := gName 2) (tt := tYes) (by rfl) Name.nd (pi_range1 rfl T.range (pa_cons (pe_op op_add pe_int (pe_df D_law_roll (hr.mono (by decide)) rfl (pa_cons (pv 0) (pa_cons pe_int pa_nil)))) pa_nil)) (blkOk_by (own := [("_law_turn", 2)]) (N := NName) (sc := defScope sName) (by decide +kernel)) (fun _ _ _ _ _ => (pg_name (i := 2) Name.nd rfl (Or.inl rfl))) (fun _ _ _ _ _ => pts_nil) (fun _ _ _ _ _ => (pe_ix ix_str (pv 1) (pe_df D_law_roll (hr.mono (by decide)) rfl (pa_cons (pv 0) (pa_cons pe_int pa_nil))) (fun _ _ => rfl)))))))), ?_⟩
    refine ⟨⟨_, rfl⟩, _, rfl, d, 8, n, rfl, D, by omega, by decide, by decide, fun r H1 r0 r1 k1 D1 => ?_⟩
    refine ⟨_, _, rfl, rfl, 1 + r, rfl, by omega, by omega, fun L hL => ?_⟩
    refine lc_range (lo := 0) (n := (1 + r).toNat) (fun i H2 => ∃ ys : List Str, H2 L = some (.lst (ys.map V.str)) ∧ ys.length = i ∧ (∀ y ∈ ys, ∃ c, y = ⟨#[c]⟩ ∧ c < 128) ∧ EW.Kept d H1 H2 ∧ Dc H2 d (n + 1 + i)) ?_ ?_ ?_
    · exact ⟨[], upd_same, rfl, (by intro y hy; cases hy), Kept.new hL, (D1.new hL).mono (by omega)⟩
    · rintro i H2 hi ⟨ys, h1, h2, h3, h4, h5⟩
      refine ⟨rfl, ?_⟩
      refine ⟨_, rfl, _, rfl, d, 26, _, rfl, h5, by omega, by decide, by decide, fun q H3 q0 q1 k3 D3 => ?_⟩
      obtain ⟨c, hc, lt⟩ := sign_at LETS q0 (by rw [lets_len]; exact q1) lets_ascii
      refine ⟨_, _, c, rfl, rfl, by decide, hc, ?_⟩
      have hLd : L ≠ d := D1.nn hL
      have h6 := k3 L _ hLd h1
      refine ⟨_, h6, by rw [List.length_map]; exact small1000 (by omega), ys ++ [⟨#[c]⟩], ?_, by rw [List.length_append, h2]; rfl, ?_, ?_, ?_⟩
      · rw [upd_same, List.map_append]
        rfl
      · intro y hy
        rcases List.mem_append.mp hy with hy | hy
        · exact h3 y hy
        · exact ⟨c, List.mem_singleton.mp hy, lt⟩
      · intro b o hb e
        rw [upd_ne (fun z => by rw [z, hL] at e; cases e)]
        exact k3 b o hb (h4 b o hb e)
      · refine Dc.mono (D3.keep ?_) (by omega)
        rw [upd_ne hLd.symm]
    · rintro H2 ⟨ys, h1, h2, h3, h4, h5⟩
      obtain ⟨j1, j2⟩ := join_wd ys (by omega) h3
      exact ⟨_, L, ys, rfl, rfl, .inl (SqL.of h1), j2, k _ _ j1 (k1.trans h4) (h5.mono (by omega))⟩
theorem ok_number {fd : FuncData} (F : FnP K "_law_number" sNumber fd) (D_law_roll : Df P w K mg base 1 "_law_roll" ["_law_dice_here", "_law_many"] spRoll) (D_law_pick : Df P w K mg base 2 "_law_pick" ["_law_dice_here", "_law_items"] (spPick K)) : FnOk P w K mg base CX0 3 (He.ga K "_law_number") fd ["_law_dice_here"] spNumber := by
  refine F.ok Number (fun vs H Q E h => ?_) (fun cdv A outer s H vs Q E hr h => ?_)
  · obtain ⟨d, n, rfl, _⟩ := h
    rfl
  · obtain ⟨d, n, rfl, D, hn, k⟩ := h
    refine ⟨_, PSs.nox (pss_one (ps_ret (pe_op op_mul (pe_df D_law_pick (hr.mono (by decide)) rfl (pa_cons (pv 0) (pa_cons (pe_lst (pa_cons pe_int (pa_cons (pe_un un_neg pe_int) pa_nil))) pa_nil))) (pe_df D_law_roll (hr.mono (by decide)) rfl (pa_cons (pv 0) (pa_cons (pe_df D_law_pick (hr.mono (by decide)) rfl (pa_cons (pv 0) (pa_cons (pe_lst (pa_cons pe_int (pa_cons pe_int (pa_cons (pe_op op_pow pe_int pe_int) (pa_cons (pe_op op_pow pe_int pe_int) pa_nil))))) pa_nil))) pa_nil)))))), ?_⟩
    refine ⟨_, rfl, _, rfl, (by show 2 ≤ sizeLine; decide), fun p hp => ?_⟩
    refine ⟨d, p, _, n, rfl, D.new hp, by omega, SqL.of upd_same, D.nn hp, by decide, by decide, fun v H1 hv k1 D1 => ?_⟩
    obtain ⟨sg, rfl, hsg⟩ : ∃ i : Int, v = .int i ∧ (i = 1 ∨ i = -1) := by
      rcases List.mem_cons.mp hv with rfl | hv
      · exact ⟨1, rfl, .inl rfl⟩
      · exact ⟨-1, List.mem_singleton.mp hv, .inr rfl⟩
    refine ⟨_, rfl, _, rfl, _, _, rfl, rfl, ⟨by decide, by decide, by decide⟩, _, _, rfl, rfl, ⟨by decide, by decide, by decide⟩, (by show 4 ≤ sizeLine; decide), fun q hq => ?_⟩
    refine ⟨d, q, _, _, rfl, D1.new hq, by omega, SqL.of upd_same, D1.nn hq, by decide, by decide, fun v H2 hv k2 D2 => ?_⟩
    obtain ⟨m, rfl, m0, m1⟩ : ∃ m : Int, v = .int m ∧ 0 < m ∧ m ≤ 10 ^ 39 := by
      simp only [List.mem_cons, List.not_mem_nil, or_false] at hv
      rcases hv with rfl | rfl | rfl | rfl
      · exact ⟨_, rfl, by decide, by decide⟩
      · exact ⟨_, rfl, by decide, by decide⟩
      · exact ⟨_, rfl, by decide, by decide⟩
      · exact ⟨_, rfl, by decide, by decide⟩
    refine ⟨d, m, _, rfl, D2, by omega, m0, by omega, fun r H3 r0 r1 k3 D3 => ?_⟩
    refine ⟨_, _, rfl, rfl, .inl (by rcases hsg with rfl | rfl <;> exact ⟨by decide, by decide⟩), ?_⟩
    refine k _ _ ?_ ?_ (D3.mono (by omega))
    · rcases hsg with rfl | rfl <;> omega
    · exact ((Kept.new hp).trans k1).trans (((Kept.new hq).trans k2).trans k3)
theorem ok_count {fd : FuncData} (F : FnP K "_law_count" sCount fd) (D_law_roll : Df P w K mg base 1 "_law_roll" ["_law_dice_here", "_law_many"] spRoll) (D_law_pick : Df P w K mg base 2 "_law_pick" ["_law_dice_here", "_law_items"] (spPick K)) : FnOk P w K mg base CX0 3 (He.ga K "_law_count") fd ["_law_dice_here"] spCount := by
  refine F.ok Count (fun vs H Q E h => ?_) (fun cdv A outer s H vs Q E hr h => ?_)
  · obtain ⟨d, n, rfl, _⟩ := h
    rfl
  · obtain ⟨d, n, rfl, D, hn, k⟩ := h
    refine ⟨_, PSs.nox (pss_one (ps_ret (pe_op op_add pe_int (pe_df D_law_roll (hr.mono (by decide)) rfl (pa_cons (pv 0) (pa_cons (pe_df D_law_pick (hr.mono (by decide)) rfl (pa_cons (pv 0) (pa_cons (pe_lst (pa_cons pe_int (pa_cons pe_int (pa_cons (pe_op op_pow pe_int pe_int) pa_nil)))) pa_nil))) pa_nil)))))), ?_⟩
    refine ⟨_, rfl, _, rfl, _, _, rfl, rfl, ⟨by decide, by decide, by decide⟩, (by show 3 ≤ sizeLine; decide), fun q hq => ?_⟩
    refine ⟨d, q, _, _, rfl, D.new hq, by omega, SqL.of upd_same, D.nn hq, by decide, by decide, fun v H2 hv k2 D2 => ?_⟩
    obtain ⟨m, rfl, m0, m1⟩ : ∃ m : Int, v = .int m ∧ 0 < m ∧ m ≤ 10 ^ 39 := by
      simp only [List.mem_cons, List.not_mem_nil, or_false] at hv
      rcases hv with rfl | rfl | rfl
      · exact ⟨_, rfl, by decide, by decide⟩
      · exact ⟨_, rfl, by decide, by decide⟩
      · exact ⟨_, rfl, by decide, by decide⟩
    refine ⟨d, m, _, rfl, D2, by omega, m0, by omega, fun r H3 r0 r1 k3 D3 => ?_⟩
    refine ⟨_, _, rfl, rfl, ?_⟩
    exact k _ _ (by omega) (((Kept.new hq).trans k2).trans k3) (D3.mono (by omega))
end
end K00
end

section
set_option maxHeartbeats 4000000
namespace K00
open PySem PySem.Spec PyProof.Rows L2 EW
abbrev veBases : List Value := [.type "ValueError", .type "Exception", .type "BaseException", .type "object"]
/-- a class whose errors take a message -/
structure MsgC (K : W.Frag) (mg : Str → Option Value) (x : Str) : Prop where
  q : W.excIn K (He.ga K x) veBases "ValueError.__new__" = true
  g : mg x = some (.ref (He.ga K x))
  k : W.keepIn K (.ref (He.ga K x)) = true
def tMsg (C : Addr) (ta : TE) : TE := fun σ H Q => ta σ H fun _ H1 => New H1 (fun a => ExO (.ref C) a) Q
theorem pe_msg {X : Cx} {mg : Str → Option Value} {K : W.Frag} {x : Str} {e : Expr} {ta : TE} {p pos : Pos} (M : MsgC K mg x) (hK : X.K = K) (hM : X.mg = mg) (hg : Gl X x) (he : PE X e ta) (hs : starEach [e] X.env = (false, eval e X.env) :: starEach [] X.env := by rfl) (hdb : (x == ("__debug__" : Str)) = false := by decide) :
    PE X (.Call (.Name x p) [e] [] pos) (tMsg (He.ga K x) ta) := by
  subst hK hM
  exact PE.imp (pe_exc1 F.excBase_ValueError M.q M.g M.k hg (PE.cl he) hs hdb) fun σ H Q q => ⟨_, q, fun _ _ z _ ha => z.at ha⟩
structure Msgs (K : W.Frag) (mg : Str → Option Value) : Prop where
  EverError : MsgC K mg "EverError"
  InvalidName : MsgC K mg "InvalidName"
  InvalidShape : MsgC K mg "InvalidShape"
  InvalidZone : MsgC K mg "InvalidZone"
  InvalidTimes : MsgC K mg "InvalidTimes"
  InvalidTable : MsgC K mg "InvalidTable"
  InvalidFormula : MsgC K mg "InvalidFormula"
  InvalidBook : MsgC K mg "InvalidBook"
  InvalidOperation : MsgC K mg "InvalidOperation"
  InvalidEdit : MsgC K mg "InvalidEdit"
  ParseError : MsgC K mg "ParseError"
  InvalidCommand : MsgC K mg "InvalidCommand"
/-- a class with an __init__ of its own -/
structure OwnC (K : W.Frag) (mg : Str → Option Value) (x : Str) : Prop where
  g : mg x = some (.ref (He.ga K x))
structure Owns (K : W.Frag) (mg : Str → Option Value) : Prop where
  InvalidNumber : OwnC K mg "InvalidNumber"
  UnknownName : OwnC K mg "UnknownName"
  TooMany : OwnC K mg "TooMany"
  Broken : OwnC K mg "Broken"
  NothingToUndo : OwnC K mg "NothingToUndo"
abbrev OWNS : List Str := ["InvalidName", "InvalidShape", "InvalidZone", "InvalidTimes", "InvalidTable", "InvalidFormula", "InvalidBook", "InvalidOperation", "InvalidEdit", "ParseError", "InvalidCommand", "InvalidNumber", "UnknownName", "TooMany", "Broken", "NothingToUndo"]
theorem sn' {H : Hp} {p : Addr} {o : HO} (h : H p = none) : Same H (upd H p o) := fun a u e => by
  rw [upd_ne (ne_of_none e h)]
  exact e
theorem kept_of {d : Addr} {H H' : Hp} (s : Same H H') : EW.Kept d H H' := fun a o _ e => s a o e
theorem _root_.EW.Dc.same {H H' : Hp} {d : Addr} {n : Int} (h : Dc H d n) (s : Same H H') : Dc H' d n := by
  obtain ⟨g, b, c, h1, r⟩ := h
  exact ⟨g, b, c, s _ _ h1, r⟩
theorem ExcAt.same {H H' : Hp} {a C : Addr} (h : ExcAt H a C) (s : Same H H') : ExcAt H' a C := by
  rcases h with h | ⟨d, fs, h1, h2⟩
  · exact .inl (s _ _ h)
  · exact .inr ⟨d, fs, s _ _ h1, s _ _ h2⟩
/-- exceptions of these classes, one by one -/
inductive Excs (H : Hp) : List V → List Addr → Prop where
  | nil : Excs H [] []
  | cons {a C : Addr} {vs : List V} {Cs : List Addr} : ExcAt H a C → Excs H vs Cs → Excs H (.ref a :: vs) (C :: Cs)
theorem Excs.same {H H' : Hp} (s : Same H H') : ∀ {vs : List V} {Cs : List Addr}, Excs H vs Cs → Excs H' vs Cs
  | _, _, .nil => .nil
  | _, _, .cons h t => .cons (ExcAt.same h s) (t.same s)
theorem Excs.append {H : Hp} : ∀ {vs ws : List V} {Cs Ds : List Addr}, Excs H vs Cs → Excs H ws Ds → Excs H (vs ++ ws) (Cs ++ Ds)
  | _, _, _, _, .nil, r => r
  | _, _, _, _, .cons h t, r => .cons h (t.append r)
theorem Excs.at_ {H : Hp} : ∀ {vs : List V} {Cs : List Addr} {i : Nat} {v : V}, Excs H vs Cs → vs[i]? = some v → ∃ a C, v = .ref a ∧ Cs[i]? = some C ∧ ExcAt H a C
  | _, _, _, _, .nil, e => by simp at e
  | _, _, 0, _, .cons h t, e => by
    simp at e
    subst e
    exact ⟨_, _, rfl, rfl, h⟩
  | _, _, i + 1, v, .cons h t, e => by
    obtain ⟨a, C, h1, h2, h3⟩ := Excs.at_ (i := i) (v := v) t (by simpa using e)
    exact ⟨a, C, h1, by simpa using h2, h3⟩
theorem Excs.len {H : Hp} : ∀ {vs : List V} {Cs : List Addr}, Excs H vs Cs → vs.length = Cs.length
  | _, _, .nil => rfl
  | _, _, .cons _ t => by rw [List.length_cons, List.length_cons, t.len]
abbrev mCls (K : W.Frag) : List Addr := [He.ga K "InvalidName", He.ga K "InvalidShape", He.ga K "InvalidZone", He.ga K "InvalidTimes", He.ga K "InvalidTable", He.ga K "InvalidFormula", He.ga K "InvalidBook", He.ga K "InvalidOperation", He.ga K "InvalidEdit", He.ga K "ParseError", He.ga K "InvalidCommand"]
def spMsg (K : W.Frag) : Sp := fun vs H Q _ => ∃ z : Str, vs = [.str z] ∧ ∀ (p : Addr) (es : List V) (H' : Hp), Same H H' → H p = none → H' p = some (.lst es) → Excs H' es (mCls K) → Q (.ref p) H'
def spValue (K : W.Frag) : Sp := fun vs H Q _ => ∃ (d : Addr) (n : Int), vs = [.ref d] ∧ Dc H d n ∧ n + 17 ≤ 1000000 ∧
  ∀ (v : V) (dt : PyData) (H' : Hp), Nv K H' v dt → EW.Kept d H H' → Dc H' d (n + 17) → Q v H'
/-- what isinstance says of the class at C and the classes of these names -/
def Row (K : W.Frag) (C : Addr) (us : List Value) (bs : List Bool) : Prop := us.map (W.kitOne K (.ref C)) = bs.map some
abbrev ownU (K : W.Frag) : List Value := [.ref (He.ga K "InvalidName"), .ref (He.ga K "InvalidShape"), .ref (He.ga K "InvalidZone"), .ref (He.ga K "InvalidTimes"), .ref (He.ga K "InvalidTable"), .ref (He.ga K "InvalidFormula"), .ref (He.ga K "InvalidBook"), .ref (He.ga K "InvalidOperation"), .ref (He.ga K "InvalidEdit"), .ref (He.ga K "ParseError"), .ref (He.ga K "InvalidCommand"), .ref (He.ga K "InvalidNumber"), .ref (He.ga K "UnknownName"), .ref (He.ga K "TooMany"), .ref (He.ga K "Broken"), .ref (He.ga K "NothingToUndo")]
abbrev abvU (K : W.Frag) : List Value := [.ref (He.ga K "EverError"), .type "ValueError", .type "LookupError", .type "IndexError", .type "KeyError", .type "OverflowError", .type "RuntimeError"]
def spOwn (K : W.Frag) : Sp := fun vs H Q _ => ∃ (a C : Addr) (bs : List Bool), vs = [.ref a] ∧ ExcAt H a C ∧ XIs K C ∧ Row K C (ownU K) bs ∧ ∀ (p : Addr) (H' : Hp), Same H H' → H p = none → H' p = some (.lst (bs.map V.bl)) → Q (.ref p) H'
def spAbove (K : W.Frag) : Sp := fun vs H Q _ => ∃ (a C : Addr) (bs : List Bool), vs = [.ref a] ∧ ExcAt H a C ∧ XIs K C ∧ Row K C (abvU K) bs ∧ ∀ (p : Addr) (H' : Hp), Same H H' → H p = none → H' p = some (.lst (bs.map V.bl)) → Q (.ref p) H'
/-- the free names of the base classes -/
structure FreE (mg : Str → Option Value) : Prop extends Fre mg where
  ValueError : mg "ValueError" = none
  LookupError : mg "LookupError" = none
  IndexError : mg "IndexError" = none
  KeyError : mg "KeyError" = none
  OverflowError : mg "OverflowError" = none
  RuntimeError : mg "RuntimeError" = none
abbrev NValu : List Str := ["_law_dice_here", "_law_some"]
theorem Valu : FnScope NValu ["_law_dice_here"] (defScope sValu) := ⟨rfl, rfl, rfl, by decide +kernel, rfl, by decide +kernel, by decide +kernel⟩
abbrev NMsg : List Str := ["_law_word_here", "_law_found"]
theorem Msg : FnScope NMsg ["_law_word_here"] (defScope sMsg) := ⟨rfl, rfl, rfl, by decide +kernel, rfl, by decide +kernel, by decide +kernel⟩
abbrev NOwn : List Str := ["_law_thing", "_law_found"]
theorem Own : FnScope NOwn ["_law_thing"] (defScope sOwn) := ⟨rfl, rfl, rfl, by decide +kernel, rfl, by decide +kernel, by decide +kernel⟩
abbrev NAbove : List Str := ["_law_thing", "_law_found"]
theorem Above : FnScope NAbove ["_law_thing"] (defScope sAbove) := ⟨rfl, rfl, rfl, by decide +kernel, rfl, by decide +kernel, by decide +kernel⟩
section
variable {P : Program} {w : World} {K : W.Frag} {mg : Str → Option Value} {base : Heap}
theorem ok_value {fd : FuncData} (F : FnP K "_law_value" sValu fd) (D_law_word : Df P w K mg base 2 "_law_word" ["_law_dice_here"] spWord) (D_law_number : Df P w K mg base 3 "_law_number" ["_law_dice_here"] spNumber) (D_law_pick : Df P w K mg base 2 "_law_pick" ["_law_dice_here", "_law_items"] (spPick K)) :
    FnOk P w K mg base CX0 4 (He.ga K "_law_value") fd ["_law_dice_here"] (spValue K) := by
  refine F.ok Valu (fun vs H Q E h => ?_) (fun cdv A outer s H vs Q E hr h => ?_)
  · obtain ⟨d, n, rfl, _⟩ := h
    rfl
  · obtain ⟨d, n, rfl, D, hn, k⟩ := h
    refine ⟨_, PSs.nox (pss_cons (ps_set (i := 1) Valu.nd rfl (Or.inl rfl) (pe_lstS (pa_cons pe_non (pa_cons pe_bl (pa_cons pe_bl (pa_cons (pe_tupS pa_nil) (pa_cons (pe_tupS (pa_cons pe_int pa_nil)) (pa_cons pe_str (pa_cons (pe_df D_law_word (hr.mono (by decide)) rfl (pa_cons (pv 0) pa_nil)) (pa_cons (pe_df D_law_number (hr.mono (by decide)) rfl (pa_cons (pv 0) pa_nil)) (pa_cons (pe_df D_law_number (hr.mono (by decide)) rfl (pa_cons (pv 0) pa_nil)) pa_nil)))))))))))
      (pss_one (ps_ret (pe_df D_law_pick (hr.mono (by decide)) rfl (pa_cons (pv 0) (pa_cons (pv 1) pa_nil)))))), ?_⟩
    refine ⟨(by show 0 ≤ sizeLine; decide), fun p Hp hp sp ep => ⟨(by show 1 ≤ sizeLine; decide), fun q Hq hq sq eq => ?_⟩⟩
    have D1 : Dc Hq d n := D.same (Same.trans sp sq)
    refine ⟨_, rfl, d, n, rfl, D1, by omega, fun z H1 hz k1 D2 => ?_⟩
    refine ⟨_, rfl, d, _, rfl, D2, by omega, fun i H2 hi k2 D3 => ?_⟩
    refine ⟨_, rfl, d, _, rfl, D3, by omega, fun j H3 hj k3 D4 => ?_⟩
    refine ⟨(by show 9 ≤ sizeLine; decide), fun l Hl hl sl el => ?_⟩
    refine ⟨_, rfl, _, rfl, d, l, _, _, rfl, D4.same sl, by omega, SqL.of el, D4.nn hl, Nat.succ_pos _, (by show 9 < 1000; decide), fun v H4 hv k4 D5 => ?_⟩
    have hpd : p ≠ d := D.nn hp
    have hqd : q ≠ d := (D.same sp).nn hq
    have kk : EW.Kept d Hq H4 := k1.trans (k2.trans (k3.trans ((kept_of sl).trans k4)))
    have hp4 : H4 p = some (.tup []) := kk p _ hpd (sq _ _ ep)
    have hq4 : H4 q = some (.tup [.int 0]) := kk q _ hqd eq
    have fin : ∀ dt : PyData, Nv K H4 v dt → Q v H4 := fun dt hd => k v dt H4 hd ((kept_of (Same.trans sp sq)).trans kk) (D5.mono (by omega))
    have lz : z.length ≤ 40 := Nat.le_trans hz.1 (by decide)
    simp only [List.mem_cons, List.not_mem_nil, or_false] at hv
    rcases hv with rfl | rfl | rfl | rfl | rfl | rfl | rfl | rfl | rfl
    · exact fin _ (.lf .non)
    · exact fin _ (.lf (.bl _))
    · exact fin _ (.lf (.bl _))
    · exact fin _ (.tup hp4 .nil (by decide))
    · exact fin _ (.tup hq4 (.cons (.int 0 (by decide)) .nil) (by decide))
    · exact fin _ (.lf (.str _ (by decide) (by decide)))
    · exact fin _ (.lf (.str _ lz hz.2))
    · exact fin _ (.lf (.int _ hi))
    · exact fin _ (.lf (.int _ hj))
theorem ok_msg {fd : FuncData} (F : FnP K "_law_with_message" sMsg fd) (M : Msgs K mg) : FnOk P w K mg base CX0 1 (He.ga K "_law_with_message") fd ["_law_word_here"] (spMsg K) := by
  refine F.ok Msg (fun vs H Q E h => ?_) (fun cdv A outer s H vs Q E hr h => ?_)
  · obtain ⟨z, rfl, _⟩ := h
    rfl
  · obtain ⟨z, rfl, k⟩ := h
    refine ⟨_, PSs.nox (pss_cons (ps_set (i := 1) Msg.nd rfl (Or.inl rfl) (pe_lstS (pa_cons (pe_msg M.InvalidName rfl rfl rfl (pv 0)) (pa_cons (pe_msg M.InvalidShape rfl rfl rfl (pv 0)) (pa_cons (pe_msg M.InvalidZone rfl rfl rfl (pv 0)) (pa_cons (pe_msg M.InvalidTimes rfl rfl rfl (pv 0)) (pa_cons (pe_msg M.InvalidTable rfl rfl rfl (pv 0)) pa_nil)))))))
      (pss_cons (ps_set (i := 1) Msg.nd rfl (Or.inl rfl) (pe_op op_catS (pv 1) (pe_lstS (pa_cons (pe_msg M.InvalidFormula rfl rfl rfl (pv 0)) (pa_cons (pe_msg M.InvalidBook rfl rfl rfl (pv 0)) (pa_cons (pe_msg M.InvalidOperation rfl rfl rfl (pv 0)) (pa_cons (pe_msg M.InvalidEdit rfl rfl rfl (pv 0)) pa_nil)))))))
      (pss_one (ps_ret (pe_op op_catS (pv 1) (pe_lstS (pa_cons (pe_msg M.ParseError rfl rfl rfl (pv 0)) (pa_cons (pe_msg M.InvalidCommand rfl rfl rfl (pv 0)) pa_nil)))))))), ?_⟩
    refine ⟨_, rfl, fun a1 H1 n1 s1 e1 => ⟨_, rfl, fun a2 H2 n2 s2 e2 => ⟨_, rfl, fun a3 H3 n3 s3 e3 => ⟨_, rfl, fun a4 H4 n4 s4 e4 => ⟨_, rfl, fun a5 H5 n5 s5 e5 => ⟨(by show 5 ≤ sizeLine; decide), fun l1 H6 m1 t1 f1 => ?_⟩⟩⟩⟩⟩⟩
    have x1 : Excs H6 [.ref a1, .ref a2, .ref a3, .ref a4, .ref a5] [He.ga K "InvalidName", He.ga K "InvalidShape", He.ga K "InvalidZone", He.ga K "InvalidTimes", He.ga K "InvalidTable"] := by
      have z5 := t1
      have z4 := Same.trans s5 z5
      have z3 := Same.trans s4 z4
      have z2 := Same.trans s3 z3
      have z1 := Same.trans s2 z2
      exact .cons (.inl (z1 _ _ e1)) (.cons (.inl (z2 _ _ e2)) (.cons (.inl (z3 _ _ e3)) (.cons (.inl (z4 _ _ e4)) (.cons (.inl (z5 _ _ e5)) .nil))))
    have S1 : Same H H6 := Same.trans s1 (Same.trans s2 (Same.trans s3 (Same.trans s4 (Same.trans s5 t1))))
    refine ⟨_, rfl, _, rfl, fun a1 H1 n1 s1 e1 => ⟨_, rfl, fun a2 H2 n2 s2 e2 => ⟨_, rfl, fun a3 H3 n3 s3 e3 => ⟨_, rfl, fun a4 H4 n4 s4 e4 => ⟨(by show 4 ≤ sizeLine; decide), fun l2 H7 m2 t2 f2 => ?_⟩⟩⟩⟩⟩
    have x2 : Excs H7 [.ref a1, .ref a2, .ref a3, .ref a4] [He.ga K "InvalidFormula", He.ga K "InvalidBook", He.ga K "InvalidOperation", He.ga K "InvalidEdit"] := by
      have z4 := t2
      have z3 := Same.trans s4 z4
      have z2 := Same.trans s3 z3
      have z1 := Same.trans s2 z2
      exact .cons (.inl (z1 _ _ e1)) (.cons (.inl (z2 _ _ e2)) (.cons (.inl (z3 _ _ e3)) (.cons (.inl (z4 _ _ e4)) .nil)))
    have S2 : Same H6 H7 := Same.trans s1 (Same.trans s2 (Same.trans s3 (Same.trans s4 t2)))
    refine ⟨l1, l2, _, _, rfl, rfl, S2 _ _ f1, f2, (by show 9 ≤ sizeLine; decide), fun l3 H8 m3 t3 f3 => ?_⟩
    have x3 := ((x1.same S2).append x2).same t3
    refine ⟨_, rfl, _, rfl, fun a1 H1 n1 s1 e1 => ⟨_, rfl, fun a2 H2 n2 s2 e2 => ⟨(by show 2 ≤ sizeLine; decide), fun l4 H9 m4 t4 f4 => ?_⟩⟩⟩
    have x4 : Excs H9 [.ref a1, .ref a2] [He.ga K "ParseError", He.ga K "InvalidCommand"] :=
      .cons (.inl (Same.trans s2 t4 _ _ e1)) (.cons (.inl (t4 _ _ e2)) .nil)
    have S3 : Same H8 H9 := Same.trans s1 (Same.trans s2 t4)
    refine ⟨l3, l4, _, _, rfl, rfl, S3 _ _ f3, f4, (by show 11 ≤ sizeLine; decide), fun l5 H10 m5 t5 f5 => ?_⟩
    have S4 : Same H H9 := Same.trans S1 (Same.trans S2 (Same.trans t3 S3))
    exact k l5 _ H10 (Same.trans S4 t5) (S4.free m5) f5 (((x3.same S3).append x4).same t5)
end
end K00
end

section
set_option maxHeartbeats 4000000
namespace K00
open PySem PySem.Spec PyProof.Rows L2 EW
theorem Row.inv {K : W.Frag} {C : Addr} {u : Value} {us : List Value} {bs : List Bool} (h : Row K C (u :: us) bs) : ∃ b cs, bs = b :: cs ∧ W.kitOne K (.ref C) u = some b ∧ Row K C us cs := by
  cases bs with
  | nil => cases h
  | cons b cs =>
    obtain ⟨h1, h2⟩ := List.cons.inj h
    exact ⟨b, cs, rfl, h1, h2⟩
theorem Row.inv0 {K : W.Frag} {C : Addr} {bs : List Bool} (h : Row K C [] bs) : bs = [] := by
  cases bs with
  | nil => rfl
  | cons b cs => cases h
/-- lists of bools at these places, none of them at L -/
inductive Rws (L : Addr) (H : Hp) : List V → List (List Bool) → Prop where
  | nil : Rws L H [] []
  | cons {a : Addr} {bs : List Bool} {vs : List V} {r : List (List Bool)} : a ≠ L → H a = some (.lst (bs.map V.bl)) → Rws L H vs r → Rws L H (.ref a :: vs) (bs :: r)
theorem Rws.kept {L : Addr} {H H' : Hp} (k : EW.Kept L H H') : ∀ {vs : List V} {r : List (List Bool)}, Rws L H vs r → Rws L H' vs r
  | _, _, .nil => .nil
  | _, _, .cons n h t => .cons n (k _ _ n h) (t.kept k)
theorem Rws.snoc {L : Addr} {H : Hp} {a : Addr} {bs : List Bool} (n : a ≠ L) (h : H a = some (.lst (bs.map V.bl))) : ∀ {vs : List V} {r : List (List Bool)}, Rws L H vs r → Rws L H (vs ++ [.ref a]) (r ++ [bs])
  | _, _, .nil => .cons n h .nil
  | _, _, .cons n' h' t => .cons n' h' (t.snoc n h)
theorem Rws.len {L : Addr} {H : Hp} : ∀ {vs : List V} {r : List (List Bool)}, Rws L H vs r → vs.length = r.length
  | _, _, .nil => rfl
  | _, _, .cons _ _ t => by rw [List.length_cons, List.length_cons, t.len]
abbrev bD (bs : List Bool) : PyData := .list (bs.map PyData.bool)
theorem dp_bools {K : W.Frag} {H : Hp} : ∀ (bs : List Bool), DpAll K H (bs.map V.bl) (bs.map PyData.bool)
  | [] => .nil
  | b :: r => .cons (.bl b) (dp_bools r)
theorem Rws.dp {K : W.Frag} {L : Addr} {H : Hp} : ∀ {vs : List V} {r : List (List Bool)}, Rws L H vs r → DpAll K H vs (r.map bD)
  | _, _, .nil => .nil
  | _, _, .cons _ h t => .cons (.lst (SqL.of h) (dp_bools _)) t.dp
theorem boot_LookupError : bootBuiltins "LookupError" = some (.type "LookupError") := by decide +kernel
theorem boot_RuntimeError : bootBuiltins "RuntimeError" = some (.type "RuntimeError") := by decide +kernel
abbrev dMsg : List Bool := [true, true, false, false, false, false, false]
abbrev dueR : List (List Bool) := List.replicate 11 dMsg ++ [[false, false, true, true, false, false, false], [false, false, true, false, true, false, false], [false, false, false, false, false, true, false], [false, false, false, false, false, false, true], [false, false, true, false, false, false, false]]
theorem app_step {L p : Addr} {H H2 G : Hp} {es : List V} {rows : List (List Bool)} (bs : List Bool) (hL : H L = none) (h3 : Same H H2) (h1 : H2 L = some (.lst es)) (h2 : Rws L H2 es rows) (np : H2 p = none) (sg : Same H2 G) (e : G p = some (.lst (bs.map V.bl))) :
    Same H (upd G L (.lst (es ++ [.ref p]))) ∧ Rws L (upd G L (.lst (es ++ [.ref p]))) (es ++ [.ref p]) (rows ++ [bs]) ∧ (upd G L (.lst (es ++ [.ref p]))) L = some (.lst (es ++ [.ref p])) := by
  have n : p ≠ L := fun z => by
    rw [z, h1] at np
    cases np
  refine ⟨fun a o z => ?_, ((Rws.kept (kept_of sg) h2).snoc n e).kept Kept.upd, upd_same⟩
  rw [upd_ne (ne_of_none z hL)]
  exact sg _ _ (h3 _ _ z)
theorem bools_lay : ∀ bs : List Bool, PyData.canLayAll0 (bs.map PyData.bool) = true ∧ PyData.depthAll (bs.map PyData.bool) = 0
  | [] => ⟨rfl, rfl⟩
  | b :: r => by
    obtain ⟨h1, h2⟩ := bools_lay r
    simp [PyData.canLayAll0, PyData.canLay0, PyData.depthAll, PyData.depth, h1, h2]
theorem bools_shaped (bs : List Bool) : SeqAt.shaped (bD bs) = true := by
  simp [SeqAt.shaped, PyData.canLay0, PyData.depth, bools_lay]
theorem rows_lay : ∀ r : List (List Bool), PyData.canLayAll0 (r.map bD) = true ∧ PyData.depthAll (r.map bD) ≤ 1
  | [] => ⟨rfl, by decide⟩
  | b :: r => by
    obtain ⟨h1, h2⟩ := rows_lay r
    have h3 := bools_lay b
    refine ⟨?_, ?_⟩
    · simp [PyData.canLayAll0, PyData.canLay0, h1, h3]
    · simp only [List.map_cons, PyData.depthAll, PyData.depth, h3.2]
      omega
theorem rows_shaped (r : List (List Bool)) : SeqAt.shaped (.list (r.map bD)) = true := by
  have h := rows_lay r
  unfold SeqAt.shaped
  rw [Bool.and_eq_true]
  refine ⟨?_, decide_eq_true ?_⟩
  · simp only [PyData.canLay0]
    exact h.1
  · have h2 := h.2
    simp only [PyData.depth]
    exact Nat.le_trans (Nat.succ_le_succ h2) (by decide)
abbrev ownR (i n : Nat) : List Bool := (List.range n).map fun (j : Nat) => decide (V.int (i : Int) = V.int (0 + (j : Int)))
def spDue : Sp := fun vs H Q _ => vs = [] ∧ ∀ (p : Addr) (es : List V) (H' : Hp), Same H H' → H p = none → H' p = some (.lst es) → Rws p H' es dueR → Q (.ref p) H'
abbrev NDue : List Str := ["_law_found", "_law_turn"]
theorem Due : FnScope NDue [] (defScope sDue) := ⟨rfl, rfl, rfl, by decide +kernel, rfl, by decide +kernel, by decide +kernel⟩
abbrev NLot : List Str := ["_law_lot", "_law_at", "_law_thing", "_law_spot"]
theorem Lot : FnScope NLot ["_law_lot"] (defScope sLot) := ⟨rfl, rfl, rfl, by decide +kernel, rfl, by decide +kernel, by decide +kernel⟩
section
variable {P : Program} {w : World} {K : W.Frag} {mg : Str → Option Value} {base : Heap}
theorem ok_own {fd : FuncData} (F : FnP K "_law_own" sOwn fd) (T : Fre mg) (M : Msgs K mg) (O : Owns K mg) : FnOk P w K mg base CX0 1 (He.ga K "_law_own") fd ["_law_thing"] (spOwn K) := by
  refine F.ok Own (fun vs H Q E h => ?_) (fun cdv A outer s H vs Q E hr h => ?_)
  · obtain ⟨a, C, bs, rfl, _⟩ := h
    rfl
  · obtain ⟨a, C, bs, rfl, ea, XT, row, k⟩ := h
    refine ⟨_, PSs.nox (pss_cons (ps_set (i := 1) Own.nd rfl (Or.inl rfl) (pe_lstS (pa_cons (pe_callB (call_isXK K rfl) (by rfl) T.isinstance EW.boot_isinstance (pa_cons (pv 0) (pa_cons (pe_glob (v := .ref _) rfl M.InvalidName.g rfl) pa_nil))) (pa_cons (pe_callB (call_isXK K rfl) (by rfl) T.isinstance EW.boot_isinstance (pa_cons (pv 0) (pa_cons (pe_glob (v := .ref _) rfl M.InvalidShape.g rfl) pa_nil))) (pa_cons (pe_callB (call_isXK K rfl) (by rfl) T.isinstance EW.boot_isinstance (pa_cons (pv 0) (pa_cons (pe_glob (v := .ref _) rfl M.InvalidZone.g rfl) pa_nil))) pa_nil)))))
      (pss_cons (ps_set (i := 1) Own.nd rfl (Or.inl rfl) (pe_op op_catS (pv 1) (pe_lstS (pa_cons (pe_callB (call_isXK K rfl) (by rfl) T.isinstance EW.boot_isinstance (pa_cons (pv 0) (pa_cons (pe_glob (v := .ref _) rfl M.InvalidTimes.g rfl) pa_nil))) (pa_cons (pe_callB (call_isXK K rfl) (by rfl) T.isinstance EW.boot_isinstance (pa_cons (pv 0) (pa_cons (pe_glob (v := .ref _) rfl M.InvalidTable.g rfl) pa_nil))) pa_nil)))))
      (pss_cons (ps_set (i := 1) Own.nd rfl (Or.inl rfl) (pe_op op_catS (pv 1) (pe_lstS (pa_cons (pe_callB (call_isXK K rfl) (by rfl) T.isinstance EW.boot_isinstance (pa_cons (pv 0) (pa_cons (pe_glob (v := .ref _) rfl M.InvalidFormula.g rfl) pa_nil))) (pa_cons (pe_callB (call_isXK K rfl) (by rfl) T.isinstance EW.boot_isinstance (pa_cons (pv 0) (pa_cons (pe_glob (v := .ref _) rfl M.InvalidBook.g rfl) pa_nil))) pa_nil)))))
      (pss_cons (ps_set (i := 1) Own.nd rfl (Or.inl rfl) (pe_op op_catS (pv 1) (pe_lstS (pa_cons (pe_callB (call_isXK K rfl) (by rfl) T.isinstance EW.boot_isinstance (pa_cons (pv 0) (pa_cons (pe_glob (v := .ref _) rfl M.InvalidOperation.g rfl) pa_nil))) (pa_cons (pe_callB (call_isXK K rfl) (by rfl) T.isinstance EW.boot_isinstance (pa_cons (pv 0) (pa_cons (pe_glob (v := .ref _) rfl M.InvalidEdit.g rfl) pa_nil))) pa_nil)))))
      (pss_cons (ps_set (i := 1) Own.nd rfl (Or.inl rfl) (pe_op op_catS (pv 1) (pe_lstS (pa_cons (pe_callB (call_isXK K rfl) (by rfl) T.isinstance EW.boot_isinstance (pa_cons (pv 0) (pa_cons (pe_glob (v := .ref _) rfl M.ParseError.g rfl) pa_nil))) (pa_cons (pe_callB (call_isXK K rfl) (by rfl) T.isinstance EW.boot_isinstance (pa_cons (pv 0) (pa_cons (pe_glob (v := .ref _) rfl M.InvalidCommand.g rfl) pa_nil))) pa_nil)))))
      (pss_cons (ps_set (i := 1) Own.nd rfl (Or.inl rfl) (pe_op op_catS (pv 1) (pe_lstS (pa_cons (pe_callB (call_isXK K rfl) (by rfl) T.isinstance EW.boot_isinstance (pa_cons (pv 0) (pa_cons (pe_glob (v := .ref _) rfl O.InvalidNumber.g rfl) pa_nil))) (pa_cons (pe_callB (call_isXK K rfl) (by rfl) T.isinstance EW.boot_isinstance (pa_cons (pv 0) (pa_cons (pe_glob (v := .ref _) rfl O.UnknownName.g rfl) pa_nil))) (pa_cons (pe_callB (call_isXK K rfl) (by rfl) T.isinstance EW.boot_isinstance (pa_cons (pv 0) (pa_cons (pe_glob (v := .ref _) rfl O.TooMany.g rfl) pa_nil))) pa_nil))))))
      (pss_one (ps_ret (pe_op op_catS (pv 1) (pe_lstS (pa_cons (pe_callB (call_isXK K rfl) (by rfl) T.isinstance EW.boot_isinstance (pa_cons (pv 0) (pa_cons (pe_glob (v := .ref _) rfl O.Broken.g rfl) pa_nil))) (pa_cons (pe_callB (call_isXK K rfl) (by rfl) T.isinstance EW.boot_isinstance (pa_cons (pv 0) (pa_cons (pe_glob (v := .ref _) rfl O.NothingToUndo.g rfl) pa_nil))) pa_nil)))))))))))), ?_⟩
    have r0 := row
    obtain ⟨b1, cs1, rfl, q1, r1⟩ := r0.inv
    obtain ⟨b2, cs2, rfl, q2, r2⟩ := r1.inv
    obtain ⟨b3, cs3, rfl, q3, r3⟩ := r2.inv
    obtain ⟨b4, cs4, rfl, q4, r4⟩ := r3.inv
    obtain ⟨b5, cs5, rfl, q5, r5⟩ := r4.inv
    obtain ⟨b6, cs6, rfl, q6, r6⟩ := r5.inv
    obtain ⟨b7, cs7, rfl, q7, r7⟩ := r6.inv
    obtain ⟨b8, cs8, rfl, q8, r8⟩ := r7.inv
    obtain ⟨b9, cs9, rfl, q9, r9⟩ := r8.inv
    obtain ⟨b10, cs10, rfl, q10, r10⟩ := r9.inv
    obtain ⟨b11, cs11, rfl, q11, r11⟩ := r10.inv
    obtain ⟨b12, cs12, rfl, q12, r12⟩ := r11.inv
    obtain ⟨b13, cs13, rfl, q13, r13⟩ := r12.inv
    obtain ⟨b14, cs14, rfl, q14, r14⟩ := r13.inv
    obtain ⟨b15, cs15, rfl, q15, r15⟩ := r14.inv
    obtain ⟨b16, cs16, rfl, q16, r16⟩ := r15.inv
    obtain rfl := r16.inv0
    have x0 := ea
    refine ⟨_, rfl, a, C, _, _, b1, rfl, .own _, XT, x0, q1, _, rfl, a, C, _, _, b2, rfl, .own _, XT, x0, q2, _, rfl, a, C, _, _, b3, rfl, .own _, XT, x0, q3, (by show 3 ≤ sizeLine; decide), fun l1 H1 m1 t1 f1 => ?_⟩
    have x1 := ExcAt.same x0 t1
    have S1 := t1
    refine ⟨_, rfl, _, rfl, a, C, _, _, b4, rfl, .own _, XT, x1, q4, _, rfl, a, C, _, _, b5, rfl, .own _, XT, x1, q5, (by show 2 ≤ sizeLine; decide), fun l2 H2 m2 t2 f2 => ?_⟩
    have x2 := ExcAt.same x1 t2
    have S2 := Same.trans S1 t2
    refine ⟨l1, l2, _, _, rfl, rfl, t2 _ _ f1, f2, (by show 5 ≤ sizeLine; decide), fun l3 H3 m3 t3 f3 => ?_⟩
    have x3 := ExcAt.same x2 t3
    have S3 := Same.trans S2 t3
    refine ⟨_, rfl, _, rfl, a, C, _, _, b6, rfl, .own _, XT, x3, q6, _, rfl, a, C, _, _, b7, rfl, .own _, XT, x3, q7, (by show 2 ≤ sizeLine; decide), fun l4 H4 m4 t4 f4 => ?_⟩
    have x4 := ExcAt.same x3 t4
    have S4 := Same.trans S3 t4
    refine ⟨l3, l4, _, _, rfl, rfl, t4 _ _ f3, f4, (by show 7 ≤ sizeLine; decide), fun l5 H5 m5 t5 f5 => ?_⟩
    have x5 := ExcAt.same x4 t5
    have S5 := Same.trans S4 t5
    refine ⟨_, rfl, _, rfl, a, C, _, _, b8, rfl, .own _, XT, x5, q8, _, rfl, a, C, _, _, b9, rfl, .own _, XT, x5, q9, (by show 2 ≤ sizeLine; decide), fun l6 H6 m6 t6 f6 => ?_⟩
    have x6 := ExcAt.same x5 t6
    have S6 := Same.trans S5 t6
    refine ⟨l5, l6, _, _, rfl, rfl, t6 _ _ f5, f6, (by show 9 ≤ sizeLine; decide), fun l7 H7 m7 t7 f7 => ?_⟩
    have x7 := ExcAt.same x6 t7
    have S7 := Same.trans S6 t7
    refine ⟨_, rfl, _, rfl, a, C, _, _, b10, rfl, .own _, XT, x7, q10, _, rfl, a, C, _, _, b11, rfl, .own _, XT, x7, q11, (by show 2 ≤ sizeLine; decide), fun l8 H8 m8 t8 f8 => ?_⟩
    have x8 := ExcAt.same x7 t8
    have S8 := Same.trans S7 t8
    refine ⟨l7, l8, _, _, rfl, rfl, t8 _ _ f7, f8, (by show 11 ≤ sizeLine; decide), fun l9 H9 m9 t9 f9 => ?_⟩
    have x9 := ExcAt.same x8 t9
    have S9 := Same.trans S8 t9
    refine ⟨_, rfl, _, rfl, a, C, _, _, b12, rfl, .own _, XT, x9, q12, _, rfl, a, C, _, _, b13, rfl, .own _, XT, x9, q13, _, rfl, a, C, _, _, b14, rfl, .own _, XT, x9, q14, (by show 3 ≤ sizeLine; decide), fun l10 H10 m10 t10 f10 => ?_⟩
    have x10 := ExcAt.same x9 t10
    have S10 := Same.trans S9 t10
    refine ⟨l9, l10, _, _, rfl, rfl, t10 _ _ f9, f10, (by show 14 ≤ sizeLine; decide), fun l11 H11 m11 t11 f11 => ?_⟩
    have x11 := ExcAt.same x10 t11
    have S11 := Same.trans S10 t11
    refine ⟨_, rfl, _, rfl, a, C, _, _, b15, rfl, .own _, XT, x11, q15, _, rfl, a, C, _, _, b16, rfl, .own _, XT, x11, q16, (by show 2 ≤ sizeLine; decide), fun l12 H12 m12 t12 f12 => ?_⟩
    have x12 := ExcAt.same x11 t12
    have S12 := Same.trans S11 t12
    refine ⟨l11, l12, _, _, rfl, rfl, t12 _ _ f11, f12, (by show 16 ≤ sizeLine; decide), fun l13 H13 m13 t13 f13 => ?_⟩
    have x13 := ExcAt.same x12 t13
    have S13 := Same.trans S12 t13
    exact k l13 H13 S13 (S12.free m13) f13
theorem ok_above {fd : FuncData} (F : FnP K "_law_above" sAbove fd) (T : FreE mg) (M : Msgs K mg) (O : Owns K mg) : FnOk P w K mg base CX0 1 (He.ga K "_law_above") fd ["_law_thing"] (spAbove K) := by
  refine F.ok Above (fun vs H Q E h => ?_) (fun cdv A outer s H vs Q E hr h => ?_)
  · obtain ⟨a, C, bs, rfl, _⟩ := h
    rfl
  · obtain ⟨a, C, bs, rfl, ea, XT, row, k⟩ := h
    refine ⟨_, PSs.nox (pss_cons (ps_set (i := 1) Above.nd rfl (Or.inl rfl) (pe_lstS (pa_cons (pe_callB (call_isXK K rfl) (by rfl) T.isinstance EW.boot_isinstance (pa_cons (pv 0) (pa_cons (pe_glob (v := .ref _) rfl M.EverError.g rfl) pa_nil))) (pa_cons (pe_callB (call_isXK K rfl) (by rfl) T.isinstance EW.boot_isinstance (pa_cons (pv 0) (pa_cons (pe_bltn (v := .ty "ValueError") rfl T.ValueError boot_ValueError rfl) pa_nil))) (pa_cons (pe_callB (call_isXK K rfl) (by rfl) T.isinstance EW.boot_isinstance (pa_cons (pv 0) (pa_cons (pe_bltn (v := .ty "LookupError") rfl T.LookupError boot_LookupError rfl) pa_nil))) pa_nil)))))
      (pss_cons (ps_set (i := 1) Above.nd rfl (Or.inl rfl) (pe_op op_catS (pv 1) (pe_lstS (pa_cons (pe_callB (call_isXK K rfl) (by rfl) T.isinstance EW.boot_isinstance (pa_cons (pv 0) (pa_cons (pe_bltn (v := .ty "IndexError") rfl T.IndexError boot_IndexError rfl) pa_nil))) (pa_cons (pe_callB (call_isXK K rfl) (by rfl) T.isinstance EW.boot_isinstance (pa_cons (pv 0) (pa_cons (pe_bltn (v := .ty "KeyError") rfl T.KeyError boot_KeyError rfl) pa_nil))) (pa_cons (pe_callB (call_isXK K rfl) (by rfl) T.isinstance EW.boot_isinstance (pa_cons (pv 0) (pa_cons (pe_bltn (v := .ty "OverflowError") rfl T.OverflowError boot_OverflowError rfl) pa_nil))) pa_nil))))))
      (pss_one (ps_ret (pe_op op_catS (pv 1) (pe_lstS (pa_cons (pe_callB (call_isXK K rfl) (by rfl) T.isinstance EW.boot_isinstance (pa_cons (pv 0) (pa_cons (pe_bltn (v := .ty "RuntimeError") rfl T.RuntimeError boot_RuntimeError rfl) pa_nil))) pa_nil))))))), ?_⟩
    have r0 := row
    obtain ⟨b1, cs1, rfl, q1, r1⟩ := r0.inv
    obtain ⟨b2, cs2, rfl, q2, r2⟩ := r1.inv
    obtain ⟨b3, cs3, rfl, q3, r3⟩ := r2.inv
    obtain ⟨b4, cs4, rfl, q4, r4⟩ := r3.inv
    obtain ⟨b5, cs5, rfl, q5, r5⟩ := r4.inv
    obtain ⟨b6, cs6, rfl, q6, r6⟩ := r5.inv
    obtain ⟨b7, cs7, rfl, q7, r7⟩ := r6.inv
    obtain rfl := r7.inv0
    have x0 := ea
    refine ⟨_, rfl, a, C, _, _, b1, rfl, .own _, XT, x0, q1, _, rfl, a, C, _, _, b2, rfl, .ty _, XT, x0, q2, _, rfl, a, C, _, _, b3, rfl, .ty _, XT, x0, q3, (by show 3 ≤ sizeLine; decide), fun l1 H1 m1 t1 f1 => ?_⟩
    have x1 := ExcAt.same x0 t1
    have S1 := t1
    refine ⟨_, rfl, _, rfl, a, C, _, _, b4, rfl, .ty _, XT, x1, q4, _, rfl, a, C, _, _, b5, rfl, .ty _, XT, x1, q5, _, rfl, a, C, _, _, b6, rfl, .ty _, XT, x1, q6, (by show 3 ≤ sizeLine; decide), fun l2 H2 m2 t2 f2 => ?_⟩
    have x2 := ExcAt.same x1 t2
    have S2 := Same.trans S1 t2
    refine ⟨l1, l2, _, _, rfl, rfl, t2 _ _ f1, f2, (by show 6 ≤ sizeLine; decide), fun l3 H3 m3 t3 f3 => ?_⟩
    have x3 := ExcAt.same x2 t3
    have S3 := Same.trans S2 t3
    refine ⟨_, rfl, _, rfl, a, C, _, _, b7, rfl, .ty _, XT, x3, q7, (by show 1 ≤ sizeLine; decide), fun l4 H4 m4 t4 f4 => ?_⟩
    have x4 := ExcAt.same x3 t4
    have S4 := Same.trans S3 t4
    refine ⟨l3, l4, _, _, rfl, rfl, t4 _ _ f3, f4, (by show 7 ≤ sizeLine; decide), fun l5 H5 m5 t5 f5 => ?_⟩
    have x5 := ExcAt.same x4 t5
    have S5 := Same.trans S4 t5
    exact k l5 H5 S5 (S4.free m5) f5
theorem ok_due {fd : FuncData} (F : FnP K "_law_above_due" sDue fd) (T : Fre mg) : FnOk P w K mg base CX0 1 (He.ga K "_law_above_due") fd [] spDue := by
  refine F.ok Due (fun vs H Q E h => ?_) (fun cdv A outer s H vs Q E hr h => ?_)
  · obtain ⟨rfl, _⟩ := h
    rfl
  · obtain ⟨rfl, k⟩ := h
    refine ⟨_, PSs.nox (pss_cons (ps_setLc (i := 0) (own := [("_law_turn", 1)]) (g := gName 1) (tt := tYes) (by rfl) Due.nd rfl rfl (sw_true rfl rfl rfl (by decide +kernel)) (pi_range1 rfl T.range (pa_cons pe_int pa_nil)) (blkOk_by (own := [("_law_turn", 1)]) (N := NDue) (sc := defScope sDue) (by decide +kernel)) (fun _ _ _ _ _ => (pg_name (i := 1) Due.nd rfl (Or.inl rfl))) (fun _ _ _ _ _ => pts_nil) (fun _ _ _ _ _ => (pe_lstS (pa_cons pe_bl (pa_cons pe_bl (pa_cons pe_bl (pa_cons pe_bl (pa_cons pe_bl (pa_cons pe_bl (pa_cons pe_bl pa_nil))))))))))
      (pss_cons (ps_expr (pe_bm PySem.F.plainAttrs_list PySem.F.slot_list_append PySem.F.type_list_append mt_append (pv 0) (pa_cons (pe_lstS (pa_cons pe_bl (pa_cons pe_bl (pa_cons pe_bl (pa_cons pe_bl (pa_cons pe_bl (pa_cons pe_bl (pa_cons pe_bl pa_nil)))))))) pa_nil)))
      (pss_cons (ps_expr (pe_bm PySem.F.plainAttrs_list PySem.F.slot_list_append PySem.F.type_list_append mt_append (pv 0) (pa_cons (pe_lstS (pa_cons pe_bl (pa_cons pe_bl (pa_cons pe_bl (pa_cons pe_bl (pa_cons pe_bl (pa_cons pe_bl (pa_cons pe_bl pa_nil)))))))) pa_nil)))
      (pss_cons (ps_expr (pe_bm PySem.F.plainAttrs_list PySem.F.slot_list_append PySem.F.type_list_append mt_append (pv 0) (pa_cons (pe_lstS (pa_cons pe_bl (pa_cons pe_bl (pa_cons pe_bl (pa_cons pe_bl (pa_cons pe_bl (pa_cons pe_bl (pa_cons pe_bl pa_nil)))))))) pa_nil)))
      (pss_cons (ps_expr (pe_bm PySem.F.plainAttrs_list PySem.F.slot_list_append PySem.F.type_list_append mt_append (pv 0) (pa_cons (pe_lstS (pa_cons pe_bl (pa_cons pe_bl (pa_cons pe_bl (pa_cons pe_bl (pa_cons pe_bl (pa_cons pe_bl (pa_cons pe_bl pa_nil)))))))) pa_nil)))
      (pss_cons (ps_expr (pe_bm PySem.F.plainAttrs_list PySem.F.slot_list_append PySem.F.type_list_append mt_append (pv 0) (pa_cons (pe_lstS (pa_cons pe_bl (pa_cons pe_bl (pa_cons pe_bl (pa_cons pe_bl (pa_cons pe_bl (pa_cons pe_bl (pa_cons pe_bl pa_nil)))))))) pa_nil)))
      (pss_one (ps_ret (pv 0))))))))), ?_⟩
    refine ⟨11, rfl, by decide, by decide, fun L hL => ?_⟩
    refine lc_range (lo := 0) (n := 11) (fun i H2 => ∃ es : List V, H2 L = some (.lst es) ∧ Rws L H2 es (List.replicate i dMsg) ∧ Same H H2) ?_ ?_ ?_
    · exact ⟨[], upd_same, .nil, sameN hL⟩
    · rintro i H2 hi ⟨es, h1, h2, h3⟩
      refine ⟨rfl, (by show 7 ≤ sizeLine; decide), fun p H3 np s3 e3 => ?_⟩
      have pl : p ≠ L := fun e => by rw [e, h1] at np; cases np
      have hl : es.length = i := by rw [h2.len, List.length_replicate]
      refine ⟨es, s3 _ _ h1, by rw [hl]; exact small1000 (by omega), es ++ [.ref p], upd_same, ?_, ?_⟩
      · rw [List.replicate_succ']
        exact (Rws.kept (kept_of s3) h2 |>.snoc pl e3).kept Kept.upd
      · exact fun a o e => by
          rw [upd_ne (ne_of_none e hL)]
          exact s3 _ _ (h3 _ _ e)
    · rintro H2 ⟨es, h1, h2, h3⟩
      have l0 : es.length = 11 := by rw [h2.len, List.length_replicate]
      refine ⟨_, rfl, .inl ⟨rfl, _, SqL.of h1⟩, (by show 7 ≤ sizeLine; decide), fun p G n s e => ?_⟩
      refine ⟨L, _, _, rfl, rfl, s _ _ h1, (by rw [l0]; exact small1000 (by show 11 ≤ 1000; decide)), ?_⟩
      obtain ⟨S1, R1, E1⟩ := app_step [false, false, true, true, false, false, false] hL h3 h1 h2 n s e
      clear n s e
      refine ⟨_, rfl, .inl ⟨rfl, _, SqL.of E1⟩, (by show 7 ≤ sizeLine; decide), fun p G n s e => ?_⟩
      refine ⟨L, _, _, rfl, rfl, s _ _ E1, (by rw [List.length_append, l0]; exact small1000 (by show 12 ≤ 1000; decide)), ?_⟩
      obtain ⟨S2, R2, E2⟩ := app_step [false, false, true, false, true, false, false] hL S1 E1 R1 n s e
      clear n s e
      refine ⟨_, rfl, .inl ⟨rfl, _, SqL.of E2⟩, (by show 7 ≤ sizeLine; decide), fun p G n s e => ?_⟩
      refine ⟨L, _, _, rfl, rfl, s _ _ E2, (by rw [List.length_append, List.length_append, l0]; exact small1000 (by show 13 ≤ 1000; decide)), ?_⟩
      obtain ⟨S3, R3, E3⟩ := app_step [false, false, false, false, false, true, false] hL S2 E2 R2 n s e
      clear n s e
      refine ⟨_, rfl, .inl ⟨rfl, _, SqL.of E3⟩, (by show 7 ≤ sizeLine; decide), fun p G n s e => ?_⟩
      refine ⟨L, _, _, rfl, rfl, s _ _ E3, (by rw [List.length_append, List.length_append, List.length_append, l0]; exact small1000 (by show 14 ≤ 1000; decide)), ?_⟩
      obtain ⟨S4, R4, E4⟩ := app_step [false, false, false, false, false, false, true] hL S3 E3 R3 n s e
      clear n s e
      refine ⟨_, rfl, .inl ⟨rfl, _, SqL.of E4⟩, (by show 7 ≤ sizeLine; decide), fun p G n s e => ?_⟩
      refine ⟨L, _, _, rfl, rfl, s _ _ E4, (by rw [List.length_append, List.length_append, List.length_append, List.length_append, l0]; exact small1000 (by show 15 ≤ 1000; decide)), ?_⟩
      obtain ⟨S5, R5, E5⟩ := app_step [false, false, true, false, false, false, false] hL S4 E4 R4 n s e
      clear n s e
      exact ⟨_, rfl, k L _ _ S5 hL E5 R5⟩
/-- what isinstance says of the i-th class -/
structure Tab (K : W.Frag) (C : Addr) (i : Nat) : Prop where
  x : XIs K C
  own : Row K C (ownU K) (ownR i 16)
  abv : ∃ bs, dueR[i]? = some bs ∧ Row K C (abvU K) bs
def spLot (K : W.Frag) (Cs : List Addr) : Sp := fun vs H Q _ => ∃ (a : Addr) (es : List V), vs = [.ref a] ∧ H a = some (.lst es) ∧ Excs H es Cs ∧ Cs.length = 16 ∧ (∀ i C, Cs[i]? = some C → Tab K C i) ∧ ∀ H', Same H H' → Q (.bl true) H'
theorem ok_lot {fd : FuncData} {Cs : List Addr} (F : FnP K "_law_lot_right" sLot fd) (T : Fre mg) (D_law_own : Df P w K mg base 1 "_law_own" ["_law_thing"] (spOwn K)) (D_law_above : Df P w K mg base 1 "_law_above" ["_law_thing"] (spAbove K)) (D_law_above_due : Df P w K mg base 1 "_law_above_due" [] spDue) :
    FnOk P w K mg base CX0 2 (He.ga K "_law_lot_right") fd ["_law_lot"] (spLot K Cs) := by
  refine F.ok Lot (fun vs H Q E h => ?_) (fun cdv A outer s H vs Q E hr h => ?_)
  · obtain ⟨a, es, rfl, _⟩ := h
    rfl
  · obtain ⟨a, es, rfl, hS, X, hC, tab, k⟩ := h
    refine ⟨_, PSs.nox (pss_cons (ps_for PassesOwn.never rfl (pi_enum (by rfl) T.enumerate (pa_cons (pv 0) pa_nil)) (pg_tup rfl (pgs_cons (pg_name (i := 1) Lot.nd rfl (Or.inr rfl)) (pgs_cons (pg_name (i := 2) Lot.nd rfl (Or.inl rfl)) pgs_nil))) (pss_one (ps_if (pt_cmpR (op_neDK K rfl hr.units) (pe_df D_law_own (hr.mono (by decide)) rfl (pa_cons (pv 2) pa_nil)) (pe_lc (own := [("_law_spot", 3)]) (g := gName 3) (tt := tYes) (by rfl) Lot.nd (pi_range1 rfl T.range (pa_cons pe_int pa_nil)) (blkOk_by (own := [("_law_spot", 3)]) (N := NLot) (sc := defScope sLot) (by decide +kernel)) (fun _ _ _ _ _ => (pg_name (i := 3) Lot.nd rfl (Or.inl rfl))) (fun _ _ _ _ _ => pts_nil) (fun _ _ _ _ _ => (pe_cmpR op_eq (pv 1) (pv 3) (nomark _)))) (nomark _)) (pss_one (ps_ret pe_bl)) pss_nil)))
      (pss_one (ps_ret (pe_cmpR (op_eqDK K rfl hr.units) (pe_lc (own := [("_law_thing", 2)]) (g := gName 2) (tt := tYes) (by rfl) Lot.nd (pi_list (pv 0)) (blkOk_by (own := [("_law_thing", 2)]) (N := NLot) (sc := defScope sLot) (by decide +kernel)) (fun _ _ _ _ _ => (pg_name (i := 2) Lot.nd rfl (Or.inl rfl))) (fun _ _ _ _ _ => pts_nil) (fun _ _ _ _ _ => (pe_df D_law_above (hr.mono (by decide)) rfl (pa_cons (pv 2) pa_nil)))) (pe_df0 D_law_above_due (hr.mono (by decide)) rfl) (nomark _))))), ?_⟩
    have len : es.length = 16 := X.len.trans hC
    refine ⟨_, rfl, a, es, rfl, SqL.of hS, for_it (walk_enum (xs := es)) (fun i σ H2 => ∃ u v w : Option V, σ = [some (.ref a), u, v, w] ∧ Same H H2) ⟨_, _, _, rfl, Same.refl H⟩ (fun i σ H2 _ ⟨_, _, _, _, s2⟩ => SqL.of (s2 _ _ hS)) ?_ ?_⟩
    · rintro i x σ H2 H3 hi ⟨u, v, w, rfl, s2⟩ ⟨Tp, x1, x2, rfl, nT, rfl, e1, e2⟩
      cases e1
      obtain ⟨b, C, rfl, hc, xa⟩ := X.at_ e2
      have tb := tab i C hc
      have s3 : Same H (upd H2 Tp (.tup [.int i, .ref b])) := Same.trans s2 (sameN nT)
      refine ⟨Tp, _, rfl, SqT.of upd_same, rfl, ?_⟩
      refine ⟨_, _, rfl, _, _, rfl, rfl, ?_⟩
      refine ⟨_, rfl, b, C, _, rfl, ExcAt.same xa s3, tb.x, tb.own, fun p H4 s4 np ep => ?_⟩
      refine ⟨16, rfl, by decide, by decide, fun L hL => ?_⟩
      refine lc_range (lo := 0) (n := 16) (fun j H5 => H5 L = some (.lst ((ownR i j).map V.bl)) ∧ Same H4 H5) ?_ ?_ ?_
      · exact ⟨upd_same, sameN hL⟩
      · rintro j H5 hj ⟨h1, h2⟩
        refine ⟨rfl, _, rfl, _, rfl, rfl, _, h1, ?_, ?_, ?_⟩
        · rw [List.length_map, List.length_map, List.length_range]
          exact small1000 (by omega)
        · rw [upd_same]
          simp only [ownR, List.range_succ, List.map_append, List.map_cons, List.map_nil]
        · exact fun c o e => by
            rw [upd_ne (ne_of_none e hL)]
            exact h2 _ _ e
      · rintro H5 ⟨h1, h2⟩
        refine ⟨bD (ownR i 16), bD (ownR i 16), .lst (SqL.of (h2 _ _ ep)) (dp_bools _), .lst (SqL.of h1) (dp_bools _), bools_shaped _, bools_shaped _, _, rfl, ?_⟩
        have ev : PyData.eqv (bD (ownR i 16)) (bD (ownR i 16)) = true := SeqAt.eqv_refl _ (SeqAt.canLay_of_shaped (bools_shaped _))
        rw [ev]
        refine iteF ?_
        exact ⟨_, _, _, rfl, Same.trans s3 (Same.trans s4 h2)⟩
    · rintro σ H2 ⟨u, v, w, rfl, s2⟩
      refine ⟨_, rfl, a, rfl, ⟨_, SqL.of (s2 _ _ hS)⟩, fun L hL => ?_⟩
      refine lc_list (K := K) (a := a) (xs := es) (fun i H3 => ∃ rs : List V, H3 L = some (.lst rs) ∧ Rws L H3 rs (dueR.take i) ∧ Same H2 H3) ?_ ?_ ?_ ?_
      · exact ⟨[], upd_same, .nil, sameN hL⟩
      · rintro i H3 _ ⟨rs, _, _, h3⟩
        exact SqL.of (h3 _ _ (s2 _ _ hS))
      · rintro i x H3 hx ⟨rs, h1, h2, h3⟩
        obtain ⟨b, C, rfl, hc, xa⟩ := X.at_ hx
        have tb := tab i C hc
        obtain ⟨bs, hb, row⟩ := tb.abv
        have hi : i < dueR.length := (List.getElem?_eq_some_iff.mp hb).1
        refine ⟨rfl, _, rfl, b, C, bs, rfl, ExcAt.same xa (Same.trans s2 h3), tb.x, row, fun p H4 s4 np ep => ?_⟩
        have hl : rs.length = i := by
          rw [h2.len, List.length_take]
          omega
        have np' : p ≠ L := fun e => by
          rw [e, h1] at np
          cases np
        refine ⟨rs, s4 _ _ h1, (by rw [hl]; exact small1000 (Nat.le_of_lt (Nat.lt_trans hi (by decide)))), rs ++ [.ref p], upd_same, ?_, ?_⟩
        · have et : dueR.take (i + 1) = dueR.take i ++ [bs] := by
            rw [List.take_succ, hb]
            rfl
          rw [et]
          exact ((Rws.kept (kept_of s4) h2).snoc np' ep).kept Kept.upd
        · exact fun c o e => by
            rw [upd_ne (ne_of_none e hL)]
            exact s4 _ _ (h3 _ _ e)
      · rintro H3 ⟨rs, h1, h2, h3⟩
        rw [len] at h2
        have et : dueR.take 16 = dueR := rfl
        rw [et] at h2
        refine ⟨rfl, fun p ds H4 s4 np ep r4 => ?_⟩
        refine ⟨.list (dueR.map bD), .list (dueR.map bD), .lst (SqL.of (s4 _ _ h1)) (Rws.dp (Rws.kept (kept_of s4) h2)), .lst (SqL.of ep) (Rws.dp r4), rows_shaped _, rows_shaped _, ?_⟩
        have ev : PyData.eqv (.list (dueR.map bD)) (.list (dueR.map bD)) = true := SeqAt.eqv_refl _ (SeqAt.canLay_of_shaped (rows_shaped _))
        rw [ev]
        exact k _ (Same.trans s2 (Same.trans h3 s4))
end
end K00
end

section
set_option maxHeartbeats 4000000
namespace EW
open PySem PySem.Spec PyProof.Rows L2
/-- an exception of the class at C with these fields stands at a -/
def OwnAt (H : Hp) (a C : Addr) (fs : List (Str × V)) : Prop := ∃ d, H a = some (exo a C (some d)) ∧ H d = some (exd d fs)
theorem OwnAt.exc {H : Hp} {a C : Addr} {fs : List (Str × V)} (h : OwnAt H a C fs) : ExcAt H a C := by
  obtain ⟨d, h1, h2⟩ := h
  exact .inr ⟨d, fs, h1, h2⟩
theorem OwnAt.same {H H' : Hp} {a C : Addr} {fs : List (Str × V)} (h : OwnAt H a C fs) (s : Same H H') : OwnAt H' a C fs := by
  obtain ⟨d, h1, h2⟩ := h
  exact ⟨d, s _ _ h1, s _ _ h2⟩
theorem OwnAt.kept {H H' : Hp} {a C dd : Addr} {fs : List (Str × V)} {n : Int} (h : OwnAt H a C fs) (D : Dc H dd n) (k : EW.Kept dd H H') : OwnAt H' a C fs := by
  obtain ⟨d, h1, h2⟩ := h
  have n1 : a ≠ dd := D.ne h1 fun xs z => by
    have z' : HO.ext _ = HO.lst xs := z
    cases z'
  have n2 : d ≠ dd := D.ne h2 fun xs z => by
    have z' : HO.ext _ = HO.lst xs := z
    cases z'
  exact ⟨d, k _ _ n1 h1, k _ _ n2 h2⟩
theorem Nv.same {K : W.Frag} {H H' : Hp} {v : V} {d : PyData} (h : Nv K H v d) (s : Same H H') : Nv K H' v d := h.keep (fun _ _ z => s _ _ z) fun _ _ _ z => s _ _ z
theorem Nv.kept {K : W.Frag} {H H' : Hp} {v : V} {d : PyData} {dd : Addr} {n : Int} (h : Nv K H v d) (D : Dc H dd n) (k : EW.Kept dd H H') : Nv K H' v d :=
  h.keep (fun a xs z => k _ _ (D.ne z fun _ q => by cases q) z) fun a o u z => k _ _ (D.ne z fun _ q => by cases q) z
/-- made by newId, which is some base's -/
def Mkr (bmB : List Value) (newId : String) : Prop := ∃ (Bn inN : String) (bmN : List Value), ExcBaseFacts Bn newId inN bmN ∧ bmB.contains (.type Bn) = true ∧ bmB.contains (.type "AttributeError") = false ∧ bmB.contains (.type "NameError") = false
/-- the promise of an __init__ that keeps n values in these fields -/
def spInit (C : Addr) (n : Nat) (mk : List V → List (Str × V)) : Sp := fun vs H Q _ => ∃ (a : Addr) (ws : List V), vs = .ref a :: ws ∧ ws.length = n ∧ H a = some (exo a C none) ∧
  ∀ (d : Addr) (H' : Hp), H d = none → d ≠ a → (∀ b o, b ≠ a → H b = some o → H' b = some o) → H' a = some (exo a C (some d)) → H' d = some (exd d (mk ws)) → Q .non H'
structure OwnX (K : W.Frag) (mg : Str → Option Value) (x : Str) (bmB : List Value) (newId B initId : String) (fs : List Str) : Prop where
  g : mg x = some (.ref (He.ga K x))
  mkx : XMk K (He.ga K x) (He.ma K (He.ga K x) "__init__") bmB newId
  no : ∀ f ∈ fs, W.findIn K (.ref (He.ga K x)) f = some none
  vV : W.findCls K (.type B) (.type "type") "__init__" = some (.val (.builtin initId))
  xi : XIs K (He.ga K x)
structure InitOk (P : Program) (w : World) (K : W.Frag) (mg : Str → Option Value) (base : Heap) (x : Str) (bmB : List Value) (newId : String) (ps : List Str) (n : Nat) (mk : List V → List (Str × V)) : Prop where
  ex : ∃ fd, FnOk P w K mg base CX0 1 (He.ma K (He.ga K x) "__init__") fd ps (spInit (He.ga K x) n mk) ∧ Binds K fd ps []
  mkr : Mkr bmB newId
/-- C(e, ..) -/
def tOwn (C : Addr) (n : Nat) (mk : List V → List (Str × V)) (ta : TA) : TE := fun σ H Q => ta σ H fun vs H1 => vs.length = n ∧ n ≤ 1000 ∧ ∀ (a : Addr) (H2 : Hp), H1 a = none → Same H1 H2 → OwnAt H2 a C (mk vs) → Q (.ref a) H2
theorem pe_own {X : Cx} {P : Program} {w : World} {K : W.Frag} {mg : Str → Option Value} {base : Heap} {x : Str} {bmB : List Value} {newId B initId : String} {fs ps : List Str} {n : Nat} {mk : List V → List (Str × V)} {e : Expr} {es : List Expr} {ta : TA} {p pos : Pos}
    (O : OwnX K mg x bmB newId B initId fs) (I : InitOk P w K mg base x bmB newId ps n mk) (hP : X.prog = P) (hw : X.w = w) (hK : X.K = K) (hM : X.mg = mg) (hB : X.base = base) (hr : Room 2 X.A) (hg : Gl X x) (ha : PA X (e :: es) ta)
    (hdb : (x == ("__debug__" : Str)) = false := by decide) (he : starEach (e :: es) X.env = (false, eval e X.env) :: starEach es X.env := by rfl) (hpl : (backTo pos (starEach es X.env)).any (·.1) = false := by rfl) :
    PE X (.Call (.Name x p) (e :: es) [] pos) (tOwn (He.ga K x) n mk ta) := by
  subst hP hw hK hM hB
  obtain ⟨fd, F, b⟩ := I.ex
  obtain ⟨Bn, inN, bmN, Fn, m1, m2, m3⟩ := I.mkr
  refine PE.imp (pe_mkX O.mkx Fn m1 m2 m3 F hr b pass0 hg O.g (PA.cl ha) hdb he hpl) fun σ H Q q => ⟨_, q, fun vs H1 z => ?_⟩
  obtain ⟨z1, z2, z3⟩ := z
  refine ⟨by omega, fun a ha => ⟨a, vs, rfl, z1, upd_same, fun d H' hd _ kp e1 e2 => ⟨rfl, z3 a H' ha (fun b o e => ?_) ⟨d, e1, e2⟩⟩⟩⟩
  have nb : b ≠ a := ne_of_none e ha
  exact kp b o nb (by rw [upd_ne nb]; exact e)
end EW
namespace K00
open PySem PySem.Spec PyProof.Rows L2 EW
theorem fC_IndexError : ExcClass "IndexError" "IndexError.__new__" "IndexError.__init__" := excClass_IndexError
theorem ty_IndexError : typeOf (.type "IndexError") = pure (.type "type") := by kernel_rfl
theorem st_IndexError : StoreFacts "IndexError" [.type "IndexError", .type "LookupError", .type "Exception", .type "BaseException", .type "object"] "object.__setattr__" "object" := F.store_IndexError
theorem fC_KeyError : ExcClass "KeyError" "LookupError.__new__" "KeyError.__init__" := excClass_KeyError
theorem ty_KeyError : typeOf (.type "KeyError") = pure (.type "type") := by kernel_rfl
theorem st_KeyError : StoreFacts "KeyError" [.type "KeyError", .type "LookupError", .type "Exception", .type "BaseException", .type "object"] "object.__setattr__" "object" := keStore
theorem fC_OverflowError : ExcClass "OverflowError" "OverflowError.__new__" "OverflowError.__init__" := excClass_OverflowError
theorem ty_OverflowError : typeOf (.type "OverflowError") = pure (.type "type") := by kernel_rfl
theorem st_OverflowError : StoreFacts "OverflowError" [.type "OverflowError", .type "ArithmeticError", .type "Exception", .type "BaseException", .type "object"] "object.__setattr__" "object" := F.store_OverflowError
theorem fC_RuntimeError : ExcClass "RuntimeError" "RuntimeError.__new__" "RuntimeError.__init__" := excClass_RuntimeError
theorem ty_RuntimeError : typeOf (.type "RuntimeError") = pure (.type "type") := by kernel_rfl
theorem st_RuntimeError : StoreFacts "RuntimeError" [.type "RuntimeError", .type "Exception", .type "BaseException", .type "object"] "object.__setattr__" "object" := F.store_RuntimeError
theorem fC_LookupError : ExcClass "LookupError" "LookupError.__new__" "LookupError.__init__" := excClass_LookupError
theorem ty_LookupError : typeOf (.type "LookupError") = pure (.type "type") := by kernel_rfl
theorem st_LookupError : StoreFacts "LookupError" [.type "LookupError", .type "Exception", .type "BaseException", .type "object"] "object.__setattr__" "object" := F.store_LookupError
abbrev sInInvalidNumber : Stmt := inClass (top 13) 0
abbrev bmInvalidNumber : List Value := [.type "IndexError", .type "LookupError", .type "Exception", .type "BaseException", .type "object"]
theorem mkr_InvalidNumber : Mkr bmInvalidNumber "IndexError.__new__" := ⟨_, _, _, F.excBase_IndexError, by decide +kernel, by decide +kernel, by decide +kernel⟩
def mkInvalidNumber (vs : List V) : List (Str × V) := [("value", vs.getD 0 .non)]
abbrev NInInvalidNumber : List Str := ["self", "value"]
theorem InInvalidNumber : FnScope NInInvalidNumber ["self", "value"] (defScope sInInvalidNumber) := ⟨rfl, rfl, rfl, by decide +kernel, rfl, by decide +kernel, by decide +kernel⟩
abbrev sInUnknownName : Stmt := inClass (top 14) 0
abbrev bmUnknownName : List Value := [.type "KeyError", .type "LookupError", .type "Exception", .type "BaseException", .type "object"]
theorem mkr_UnknownName : Mkr bmUnknownName "LookupError.__new__" := ⟨_, _, _, F.excBase_LookupError, by decide +kernel, by decide +kernel, by decide +kernel⟩
def mkUnknownName (vs : List V) : List (Str × V) := [("name", vs.getD 0 .non)]
abbrev NInUnknownName : List Str := ["self", "name"]
theorem InUnknownName : FnScope NInUnknownName ["self", "name"] (defScope sInUnknownName) := ⟨rfl, rfl, rfl, by decide +kernel, rfl, by decide +kernel, by decide +kernel⟩
abbrev sInTooMany : Stmt := inClass (top 15) 0
abbrev bmTooMany : List Value := [.type "OverflowError", .type "ArithmeticError", .type "Exception", .type "BaseException", .type "object"]
theorem mkr_TooMany : Mkr bmTooMany "OverflowError.__new__" := ⟨_, _, _, F.excBase_OverflowError, by decide +kernel, by decide +kernel, by decide +kernel⟩
def mkTooMany (vs : List V) : List (Str × V) := [("limit", vs.getD 0 .non)]
abbrev NInTooMany : List Str := ["self", "limit"]
theorem InTooMany : FnScope NInTooMany ["self", "limit"] (defScope sInTooMany) := ⟨rfl, rfl, rfl, by decide +kernel, rfl, by decide +kernel, by decide +kernel⟩
abbrev sInBroken : Stmt := inClass (top 16) 0
abbrev bmBroken : List Value := [.type "RuntimeError", .type "Exception", .type "BaseException", .type "object"]
theorem mkr_Broken : Mkr bmBroken "RuntimeError.__new__" := ⟨_, _, _, F.excBase_RuntimeError, by decide +kernel, by decide +kernel, by decide +kernel⟩
def mkBroken (vs : List V) : List (Str × V) := [("row", vs.getD 1 .non), ("rule", vs.getD 0 .non)]
abbrev NInBroken : List Str := ["self", "rule", "row"]
theorem InBroken : FnScope NInBroken ["self", "rule", "row"] (defScope sInBroken) := ⟨rfl, rfl, rfl, by decide +kernel, rfl, by decide +kernel, by decide +kernel⟩
abbrev sInNothingToUndo : Stmt := inClass (top 17) 0
abbrev bmNothingToUndo : List Value := [.type "LookupError", .type "Exception", .type "BaseException", .type "object"]
theorem mkr_NothingToUndo : Mkr bmNothingToUndo "LookupError.__new__" := ⟨_, _, _, F.excBase_LookupError, by decide +kernel, by decide +kernel, by decide +kernel⟩
def mkNothingToUndo (vs : List V) : List (Str × V) := [("many", vs.getD 0 .non)]
abbrev NInNothingToUndo : List Str := ["self", "many"]
theorem InNothingToUndo : FnScope NInNothingToUndo ["self", "many"] (defScope sInNothingToUndo) := ⟨rfl, rfl, rfl, by decide +kernel, rfl, by decide +kernel, by decide +kernel⟩
section
variable {P : Program} {w : World} {K : W.Frag} {mg : Str → Option Value} {base : Heap}
theorem ok_in_InvalidNumber {fd : FuncData} (F : FunD K "__init__" "InvalidNumber.__init__" (defArgs sInInvalidNumber) (defBody sInInvalidNumber) (defScope sInInvalidNumber) [] [] (He.ma K (He.ga K "InvalidNumber") "__init__") fd) (O : OwnX K mg "InvalidNumber" bmInvalidNumber "IndexError.__new__" "IndexError" "IndexError.__init__" ["value"]) (TB : mg "IndexError" = none) :
    FnOk P w K mg base CX0 1 (He.ma K (He.ga K "InvalidNumber") "__init__") fd ["self", "value"] (spInit (He.ga K "InvalidNumber") 1 mkInvalidNumber) := by
  refine F.ok InInvalidNumber (fun vs H Q E h => ?_) (fun cdv A outer s H vs Q E hr h => ?_)
  · obtain ⟨a, ws, rfl, hl, _⟩ := h
    rw [List.length_cons, hl]
    rfl
  · obtain ⟨a, ws, rfl, hl, ea, k⟩ := h
    match ws, hl with
    | [v], _ =>
      refine ⟨_, PSs.nox (pss_cons (ps_expr (pe_binit O.mkx fC_IndexError (by decide +kernel) (by rfl) TB boot_IndexError ty_IndexError (by decide +kernel) O.vV (by decide +kernel) (pa_cons (pv 0) (pa_cons pe_str pa_nil))))
      (pss_one (ps_xst O.mkx st_IndexError (O.no _ (by simp)) (pv 0) (pv 1)))), ?_⟩
      refine ⟨_, rfl, a, _, rfl, by show 1 ≤ 1000; decide, ea, ?_⟩
      refine ⟨_, rfl, _, rfl, a, rfl, .inl ⟨ea, fun d hd nd => ?_⟩⟩
      refine k d _ hd nd (fun b o nb e => ?_) upd_same ?_
      · rw [upd_ne nb, upd_ne (ne_of_none e hd)]
        exact e
      · rw [upd_ne nd, upd_same]
        rfl
theorem ok_in_UnknownName {fd : FuncData} (F : FunD K "__init__" "UnknownName.__init__" (defArgs sInUnknownName) (defBody sInUnknownName) (defScope sInUnknownName) [] [] (He.ma K (He.ga K "UnknownName") "__init__") fd) (O : OwnX K mg "UnknownName" bmUnknownName "LookupError.__new__" "KeyError" "KeyError.__init__" ["name"]) (TB : mg "KeyError" = none) :
    FnOk P w K mg base CX0 1 (He.ma K (He.ga K "UnknownName") "__init__") fd ["self", "name"] (spInit (He.ga K "UnknownName") 1 mkUnknownName) := by
  refine F.ok InUnknownName (fun vs H Q E h => ?_) (fun cdv A outer s H vs Q E hr h => ?_)
  · obtain ⟨a, ws, rfl, hl, _⟩ := h
    rw [List.length_cons, hl]
    rfl
  · obtain ⟨a, ws, rfl, hl, ea, k⟩ := h
    match ws, hl with
    | [v], _ =>
      refine ⟨_, PSs.nox (pss_cons (ps_expr (pe_binit O.mkx fC_KeyError (by decide +kernel) (by rfl) TB boot_KeyError ty_KeyError (by decide +kernel) O.vV (by decide +kernel) (pa_cons (pv 0) (pa_cons pe_str pa_nil))))
      (pss_one (ps_xst O.mkx st_KeyError (O.no _ (by simp)) (pv 0) (pv 1)))), ?_⟩
      refine ⟨_, rfl, a, _, rfl, by show 1 ≤ 1000; decide, ea, ?_⟩
      refine ⟨_, rfl, _, rfl, a, rfl, .inl ⟨ea, fun d hd nd => ?_⟩⟩
      refine k d _ hd nd (fun b o nb e => ?_) upd_same ?_
      · rw [upd_ne nb, upd_ne (ne_of_none e hd)]
        exact e
      · rw [upd_ne nd, upd_same]
        rfl
theorem ok_in_TooMany {fd : FuncData} (F : FunD K "__init__" "TooMany.__init__" (defArgs sInTooMany) (defBody sInTooMany) (defScope sInTooMany) [] [] (He.ma K (He.ga K "TooMany") "__init__") fd) (O : OwnX K mg "TooMany" bmTooMany "OverflowError.__new__" "OverflowError" "OverflowError.__init__" ["limit"]) (TB : mg "OverflowError" = none) :
    FnOk P w K mg base CX0 1 (He.ma K (He.ga K "TooMany") "__init__") fd ["self", "limit"] (spInit (He.ga K "TooMany") 1 mkTooMany) := by
  refine F.ok InTooMany (fun vs H Q E h => ?_) (fun cdv A outer s H vs Q E hr h => ?_)
  · obtain ⟨a, ws, rfl, hl, _⟩ := h
    rw [List.length_cons, hl]
    rfl
  · obtain ⟨a, ws, rfl, hl, ea, k⟩ := h
    match ws, hl with
    | [v], _ =>
      refine ⟨_, PSs.nox (pss_cons (ps_expr (pe_binit O.mkx fC_OverflowError (by decide +kernel) (by rfl) TB boot_OverflowError ty_OverflowError (by decide +kernel) O.vV (by decide +kernel) (pa_cons (pv 0) (pa_cons pe_str pa_nil))))
      (pss_one (ps_xst O.mkx st_OverflowError (O.no _ (by simp)) (pv 0) (pv 1)))), ?_⟩
      refine ⟨_, rfl, a, _, rfl, by show 1 ≤ 1000; decide, ea, ?_⟩
      refine ⟨_, rfl, _, rfl, a, rfl, .inl ⟨ea, fun d hd nd => ?_⟩⟩
      refine k d _ hd nd (fun b o nb e => ?_) upd_same ?_
      · rw [upd_ne nb, upd_ne (ne_of_none e hd)]
        exact e
      · rw [upd_ne nd, upd_same]
        rfl
theorem ok_in_Broken {fd : FuncData} (F : FunD K "__init__" "Broken.__init__" (defArgs sInBroken) (defBody sInBroken) (defScope sInBroken) [] [] (He.ma K (He.ga K "Broken") "__init__") fd) (O : OwnX K mg "Broken" bmBroken "RuntimeError.__new__" "RuntimeError" "RuntimeError.__init__" ["rule", "row"]) (TB : mg "RuntimeError" = none) :
    FnOk P w K mg base CX0 1 (He.ma K (He.ga K "Broken") "__init__") fd ["self", "rule", "row"] (spInit (He.ga K "Broken") 2 mkBroken) := by
  refine F.ok InBroken (fun vs H Q E h => ?_) (fun cdv A outer s H vs Q E hr h => ?_)
  · obtain ⟨a, ws, rfl, hl, _⟩ := h
    rw [List.length_cons, hl]
    rfl
  · obtain ⟨a, ws, rfl, hl, ea, k⟩ := h
    match ws, hl with
    | [v, u], _ =>
      refine ⟨_, PSs.nox (pss_cons (ps_expr (pe_binit O.mkx fC_RuntimeError (by decide +kernel) (by rfl) TB boot_RuntimeError ty_RuntimeError (by decide +kernel) O.vV (by decide +kernel) (pa_cons (pv 0) (pa_cons pe_str pa_nil))))
      (pss_cons (ps_xst O.mkx st_RuntimeError (O.no _ (by simp)) (pv 0) (pv 1))
      (pss_one (ps_xst O.mkx st_RuntimeError (O.no _ (by simp)) (pv 0) (pv 2))))), ?_⟩
      refine ⟨_, rfl, a, _, rfl, by show 1 ≤ 1000; decide, ea, ?_⟩
      refine ⟨_, rfl, _, rfl, a, rfl, .inl ⟨ea, fun d hd nd => ?_⟩⟩
      refine ⟨_, rfl, _, rfl, a, rfl, .inr ⟨d, _, upd_same, (by rw [upd_ne nd, upd_same]), by show 1 ≤ 900; decide, ?_⟩⟩
      refine k d _ hd nd (fun b o nb e => ?_) ?_ upd_same
      · rw [upd_ne (ne_of_none e hd), upd_ne nb, upd_ne (ne_of_none e hd)]
        exact e
      · rw [upd_ne nd.symm, upd_same]
theorem ok_in_NothingToUndo {fd : FuncData} (F : FunD K "__init__" "NothingToUndo.__init__" (defArgs sInNothingToUndo) (defBody sInNothingToUndo) (defScope sInNothingToUndo) [] [] (He.ma K (He.ga K "NothingToUndo") "__init__") fd) (O : OwnX K mg "NothingToUndo" bmNothingToUndo "LookupError.__new__" "LookupError" "LookupError.__init__" ["many"]) (TB : mg "LookupError" = none) :
    FnOk P w K mg base CX0 1 (He.ma K (He.ga K "NothingToUndo") "__init__") fd ["self", "many"] (spInit (He.ga K "NothingToUndo") 1 mkNothingToUndo) := by
  refine F.ok InNothingToUndo (fun vs H Q E h => ?_) (fun cdv A outer s H vs Q E hr h => ?_)
  · obtain ⟨a, ws, rfl, hl, _⟩ := h
    rw [List.length_cons, hl]
    rfl
  · obtain ⟨a, ws, rfl, hl, ea, k⟩ := h
    match ws, hl with
    | [v], _ =>
      refine ⟨_, PSs.nox (pss_cons (ps_expr (pe_binit O.mkx fC_LookupError (by decide +kernel) (by rfl) TB boot_LookupError ty_LookupError (by decide +kernel) O.vV (by decide +kernel) (pa_cons (pv 0) (pa_cons pe_str pa_nil))))
      (pss_one (ps_xst O.mkx st_LookupError (O.no _ (by simp)) (pv 0) (pv 1)))), ?_⟩
      refine ⟨_, rfl, a, _, rfl, by show 1 ≤ 1000; decide, ea, ?_⟩
      refine ⟨_, rfl, _, rfl, a, rfl, .inl ⟨ea, fun d hd nd => ?_⟩⟩
      refine k d _ hd nd (fun b o nb e => ?_) upd_same ?_
      · rw [upd_ne nb, upd_ne (ne_of_none e hd)]
        exact e
      · rw [upd_ne nd, upd_same]
        rfl
end
end K00
end

section
set_option maxHeartbeats 4000000
namespace EW
open PySem PySem.Spec PyProof.Rows L2
/-! ### the texts of small data -/
structure Gd (x : PyData) (k w : Nat) : Prop where
  s : x.showable = true
  h : x.hasDict = false
  d : x.depth ≤ k
  l : x.leavesShort 1921 = true
  w : x.weight ≤ w
theorem Lf.good {v : V} {d : PyData} (h : Lf v d) : Gd d 0 201 := by
  cases h with
  | non => exact ⟨rfl, rfl, Nat.le_refl _, rfl, Nat.zero_le _⟩
  | bl b => exact ⟨rfl, rfl, Nat.le_refl _, rfl, Nat.zero_le _⟩
  | int i h =>
    have z : i.natAbs.log2 < 201 := by
      rcases Nat.eq_zero_or_pos i.natAbs with e | e
      · rw [e]
        decide
      · exact (Nat.log2_lt (by omega)).mpr (Nat.lt_trans h (by decide))
    refine ⟨?_, rfl, Nat.le_refl _, ?_, ?_⟩
    · simp only [PyData.showable, decide_eq_true_eq]
      omega
    · simp only [PyData.leavesShort, decide_eq_true_eq, PyData.shown]
      exact decide_eq_true (int_text_len_1921 (i := i) (by omega))
    · simp only [PyData.weight]
      split <;> omega
  | str z h a =>
    refine ⟨rfl, rfl, Nat.le_refl _, ?_, ?_⟩
    · simp only [PyData.leavesShort, List.all_eq_true, decide_eq_true_eq]
      exact fun c hc => Nat.lt_trans (a c hc) (by decide)
    · simp only [PyData.weight]
      exact Nat.le_trans h (by decide)
structure Gds (ds : List PyData) (k w : Nat) : Prop where
  s : PyData.showableAll ds = true
  h : PyData.hasDictAll ds = false
  d : PyData.depthAll ds ≤ k
  l : PyData.leavesShortAll 1921 ds = true
  w : PyData.weightAll ds ≤ (w + 1) * ds.length
theorem Gds.nil {k w : Nat} : Gds [] k w := ⟨rfl, rfl, Nat.zero_le _, rfl, Nat.le_refl _⟩
theorem Gds.cons {d : PyData} {ds : List PyData} {k w : Nat} (h : Gd d k w) (t : Gds ds k w) : Gds (d :: ds) k w := by
  refine ⟨?_, ?_, ?_, ?_, ?_⟩
  · simp only [PyData.showableAll, h.s, t.s, Bool.and_self]
  · simp only [PyData.hasDictAll, h.h, t.h, Bool.or_self]
  · simp only [PyData.depthAll]
    exact Nat.max_le.mpr ⟨h.d, t.d⟩
  · simp only [PyData.leavesShortAll, h.l, t.l, Bool.and_self]
  · have h1 := h.w
    have h2 := t.w
    simp only [PyData.weightAll, List.length_cons]
    rw [Nat.mul_add]
    omega
theorem Lfs.good : ∀ {vs : List V} {ds : List PyData}, Lfs vs ds → Gds ds 0 201 ∧ ds.length = vs.length
  | _, _, .nil => ⟨.nil, rfl⟩
  | _, _, .cons h t => ⟨.cons h.good t.good.1, by rw [List.length_cons, List.length_cons, t.good.2]⟩
theorem Nv.good {K : W.Frag} {H : Hp} {v : V} {d : PyData} (h : Nv K H v d) : Gd d 1 900 := by
  cases h with
  | lf h =>
    have g := h.good
    exact ⟨g.s, g.h, Nat.le_trans g.d (by decide), g.l, Nat.le_trans g.w (by decide)⟩
  | tup h l z =>
    obtain ⟨g, e⟩ := l.good
    have g1 := g.s
    have g2 := g.h
    have g3 := g.d
    have g4 := g.l
    have g5 := g.w
    refine ⟨?_, ?_, ?_, ?_, ?_⟩
    · simpa only [PyData.showable] using g1
    · simpa only [PyData.hasDict] using g2
    · simp only [PyData.depth]
      omega
    · simpa only [PyData.leavesShort] using g4
    · simp only [PyData.weight]
      rw [e] at g5
      omega
  | emp h => exact ⟨rfl, rfl, by decide, rfl, by decide⟩
/-- values and what they are shown as, one by one -/
inductive Nvs (K : W.Frag) (H : Hp) : List V → List PyData → Prop where
  | nil : Nvs K H [] []
  | cons {v : V} {vs : List V} {d : PyData} {ds : List PyData} : Nv K H v d → Nvs K H vs ds → Nvs K H (v :: vs) (d :: ds)
theorem Nvs.dp {K : W.Frag} {H : Hp} : ∀ {vs : List V} {ds : List PyData}, Nvs K H vs ds → DpAll K H vs ds
  | _, _, .nil => .nil
  | _, _, .cons h t => .cons h.dp t.dp
theorem Nvs.good {K : W.Frag} {H : Hp} : ∀ {vs : List V} {ds : List PyData}, Nvs K H vs ds → Gds ds 1 900 ∧ ds.length = vs.length
  | _, _, .nil => ⟨.nil, rfl⟩
  | _, _, .cons h t => ⟨.cons h.good t.good.1, by rw [List.length_cons, List.length_cons, t.good.2]⟩
/-- repr of a list of at most six of them -/
theorem rep_fact {K : W.Frag} {H : Hp} {l : Addr} {vs : List V} {ds : List PyData} (h : H l = some (.lst vs)) (n : Nvs K H vs ds) (z : vs.length ≤ 6) :
    Dp K H (.ref l) (.list ds) ∧ (PyData.list ds).showable = true ∧ (PyData.list ds).hasDict = false ∧ (PyData.list ds).depth ≤ 60 ∧ (PyData.list ds).shown.length ≤ sizeLine := by
  obtain ⟨g, e⟩ := n.good
  have g1 := g.s
  have g2 := g.h
  have g3 := g.d
  have g4 := g.l
  have g5 := g.w
  refine ⟨.lst (SqL.of h) n.dp, ?_, ?_, ?_, ?_⟩
  · simpa only [PyData.showable] using g1
  · simpa only [PyData.hasDict] using g2
  · simp only [PyData.depth]
    omega
  · have b := PyData.shown_le 1921 (by decide) (.list ds) (by simpa only [PyData.leavesShort] using g4)
    have w : (PyData.list ds).weight ≤ 5406 := by
      simp only [PyData.weight]
      rw [e] at g5
      omega
    have s : sizeLine = 16777216 := sizeLine_eq
    have m : (1921 + 2) * (PyData.list ds).weight ≤ (1921 + 2) * 5406 := Nat.mul_le_mul_left _ w
    omega
end EW
end

section
set_option maxHeartbeats 4000000
namespace K00
open PySem PySem.Spec PyProof.Rows L2 EW
structure OwnXs (K : W.Frag) (mg : Str → Option Value) : Prop where
  InvalidNumber : OwnX K mg "InvalidNumber" bmInvalidNumber "IndexError.__new__" "IndexError" "IndexError.__init__" ["value"]
  UnknownName : OwnX K mg "UnknownName" bmUnknownName "LookupError.__new__" "KeyError" "KeyError.__init__" ["name"]
  TooMany : OwnX K mg "TooMany" bmTooMany "OverflowError.__new__" "OverflowError" "OverflowError.__init__" ["limit"]
  Broken : OwnX K mg "Broken" bmBroken "RuntimeError.__new__" "RuntimeError" "RuntimeError.__init__" ["rule", "row"]
  NothingToUndo : OwnX K mg "NothingToUndo" bmNothingToUndo "LookupError.__new__" "LookupError" "LookupError.__init__" ["many"]
abbrev oCls (K : W.Frag) : List Addr := [He.ga K "InvalidNumber", He.ga K "UnknownName", He.ga K "TooMany", He.ga K "Broken", He.ga K "NothingToUndo"]
abbrev aCls (K : W.Frag) : List Addr := mCls K ++ oCls K
def spRight : Sp := fun vs H Q _ => ∃ (d : Addr) (n : Int), vs = [.ref d] ∧ Dc H d n ∧ n + 90 ≤ 1000000 ∧ ∀ H', EW.Kept d H H' → Dc H' d (n + 90) → Q (.bl true) H'
theorem lk1 (f : Str) (v : V) : List.lookup f [(f, v)] = some v := by simp [List.lookup]
theorem lk2 {f g : Str} (h : (f == g) = false) (v u : V) : List.lookup f [(g, u), (f, v)] = some v := by simp [List.lookup, h]
theorem lk0 (f g : Str) (v u : V) : List.lookup f [(f, v), (g, u)] = some v := by simp [List.lookup]
/-- x.f, x an own exception -/
theorem fld_of {K : W.Frag} {mg : Str → Option Value} {x : Str} {bmB : List Value} {newId B initId : String} {fs : List Str} {H : Hp} {a : Addr} {f : Str} {gs : List (Str × V)} {v : V} {Q : VK} (O : OwnX K mg x bmB newId B initId fs) (hf : f ∈ fs) (h : OwnAt H a (He.ga K x) gs) (hl : gs.lookup f = some v) (q : Q v H) :
    ∃ (a' C d : Addr) (fs : List (Str × V)) (u : V), V.ref a = .ref a' ∧ XIs K C ∧ W.hasDictIn K C = true ∧ W.findIn K (.ref C) f = some none ∧ H a' = some (exo a' C (some d)) ∧ H d = some (exd d fs) ∧ fs.lookup f = some u ∧ Q u H := by
  obtain ⟨d, h1, h2⟩ := h
  exact ⟨a, _, d, gs, v, rfl, O.xi, O.mkx.hd, O.no f hf, h1, h2, hl, q⟩
/-- five exceptions and what they keep -/
structure Five (K : W.Frag) (H : Hp) (a1 a2 a3 a4 a5 : Addr) (x1 x2 x3 x4 y4 x5 : V) : Prop where
  o1 : OwnAt H a1 (He.ga K "InvalidNumber") (mkInvalidNumber [x1])
  o2 : OwnAt H a2 (He.ga K "UnknownName") (mkUnknownName [x2])
  o3 : OwnAt H a3 (He.ga K "TooMany") (mkTooMany [x3])
  o4 : OwnAt H a4 (He.ga K "Broken") (mkBroken [x4, y4])
  o5 : OwnAt H a5 (He.ga K "NothingToUndo") (mkNothingToUndo [x5])
section
variable {K : W.Frag} {H H' : Hp} {a1 a2 a3 a4 a5 : Addr} {x1 x2 x3 x4 y4 x5 : V}
theorem Five.same (h : Five K H a1 a2 a3 a4 a5 x1 x2 x3 x4 y4 x5) (s : Same H H') : Five K H' a1 a2 a3 a4 a5 x1 x2 x3 x4 y4 x5 := ⟨h.o1.same s, h.o2.same s, h.o3.same s, h.o4.same s, h.o5.same s⟩
theorem Five.kept {d : Addr} {n : Int} (h : Five K H a1 a2 a3 a4 a5 x1 x2 x3 x4 y4 x5) (D : Dc H d n) (k : EW.Kept d H H') : Five K H' a1 a2 a3 a4 a5 x1 x2 x3 x4 y4 x5 := ⟨h.o1.kept D k, h.o2.kept D k, h.o3.kept D k, h.o4.kept D k, h.o5.kept D k⟩
theorem Five.excs (h : Five K H a1 a2 a3 a4 a5 x1 x2 x3 x4 y4 x5) : Excs H [.ref a1, .ref a2, .ref a3, .ref a4, .ref a5] (oCls K) :=
  .cons h.o1.exc (.cons h.o2.exc (.cons h.o3.exc (.cons h.o4.exc (.cons h.o5.exc .nil))))
end
/-- three values -/
structure Three (K : W.Frag) (H : Hp) (v1 v2 vr : V) (d1 d2 dr : PyData) : Prop where
  m1 : Nv K H v1 d1
  m2 : Nv K H v2 d2
  mr : Nv K H vr dr
theorem Three.same {K : W.Frag} {H H' : Hp} {v1 v2 vr : V} {d1 d2 dr : PyData} (h : Three K H v1 v2 vr d1 d2 dr) (s : Same H H') : Three K H' v1 v2 vr d1 d2 dr := ⟨h.m1.same s, h.m2.same s, h.mr.same s⟩
theorem Three.kept {K : W.Frag} {H H' : Hp} {v1 v2 vr : V} {d1 d2 dr : PyData} {d : Addr} {n : Int} (h : Three K H v1 v2 vr d1 d2 dr) (D : Dc H d n) (k : EW.Kept d H H') : Three K H' v1 v2 vr d1 d2 dr := ⟨h.m1.kept D k, h.m2.kept D k, h.mr.kept D k⟩
/-- all that stands behind the making of the errors -/
structure Made (K : W.Frag) (H0 H : Hp) (d : Addr) (n : Int) (v1 v2 vr : V) (d1 d2 dr : PyData) (i3 i4 : Int) (z5 : Str) (a1 a2 a3 a4 a5 : Addr) (z9 : Str) (c1 c2 c3 c4 c5 l pD : Addr) : Prop where
  th : Three K H v1 v2 vr d1 d2 dr
  fa : Five K H a1 a2 a3 a4 a5 v1 v2 (.int i3) (.str z5) vr (.int i4)
  fc : Five K H c1 c2 c3 c4 c5 v2 v1 (.int i4) (.str z9) (.ref pD) (.int i3)
  l : H l = some (.lst [.ref c1, .ref c2, .ref c3, .ref c4, .ref c5])
  p : H pD = some (.tup [])
  k : EW.Kept d H0 H
  D : Dc H d (n + 85)
theorem Made.same {K : W.Frag} {H0 H H' : Hp} {d : Addr} {n : Int} {v1 v2 vr : V} {d1 d2 dr : PyData} {i3 i4 : Int} {z5 : Str} {a1 a2 a3 a4 a5 : Addr} {z9 : Str} {c1 c2 c3 c4 c5 l pD : Addr} (h : Made K H0 H d n v1 v2 vr d1 d2 dr i3 i4 z5 a1 a2 a3 a4 a5 z9 c1 c2 c3 c4 c5 l pD) (s : Same H H') :
    Made K H0 H' d n v1 v2 vr d1 d2 dr i3 i4 z5 a1 a2 a3 a4 a5 z9 c1 c2 c3 c4 c5 l pD := ⟨h.th.same s, h.fa.same s, h.fc.same s, s _ _ h.l, s _ _ h.p, h.k.trans (kept_of s), h.D.same s⟩
abbrev NRight : List Str := ["_law_dice_here", "_law_odd", "_law_other", "_law_most", "_law_many", "_law_rule", "_law_word_here", "_law_row", "_law_one", "_law_two", "_law_three", "_law_four", "_law_five", "_law_again", "_law_told"]
theorem Right : FnScope NRight ["_law_dice_here"] (defScope sRight) := ⟨rfl, rfl, rfl, by decide +kernel, rfl, by decide +kernel, by decide +kernel⟩
section
variable {P : Program} {w : World} {K : W.Frag} {mg : Str → Option Value} {base : Heap}
theorem ok_right {fd : FuncData} (F : FnP K "_law_right" sRight fd) (T : Fre mg) (OX : OwnXs K mg) (tab : ∀ i C, (aCls K)[i]? = some C → Tab K C i)
    (IInvalidNumber : InitOk P w K mg base "InvalidNumber" bmInvalidNumber "IndexError.__new__" ["self", "value"] 1 mkInvalidNumber)
    (IUnknownName : InitOk P w K mg base "UnknownName" bmUnknownName "LookupError.__new__" ["self", "name"] 1 mkUnknownName)
    (ITooMany : InitOk P w K mg base "TooMany" bmTooMany "OverflowError.__new__" ["self", "limit"] 1 mkTooMany)
    (IBroken : InitOk P w K mg base "Broken" bmBroken "RuntimeError.__new__" ["self", "rule", "row"] 2 mkBroken)
    (INothingToUndo : InitOk P w K mg base "NothingToUndo" bmNothingToUndo "LookupError.__new__" ["self", "many"] 1 mkNothingToUndo)
    (D_law_value : Df P w K mg base 4 "_law_value" ["_law_dice_here"] (spValue K)) (D_law_count : Df P w K mg base 3 "_law_count" ["_law_dice_here"] spCount) (D_law_name : Df P w K mg base 2 "_law_name" ["_law_dice_here"] spWord)
    (D_law_word : Df P w K mg base 2 "_law_word" ["_law_dice_here"] spWord) (D_law_number : Df P w K mg base 3 "_law_number" ["_law_dice_here"] spNumber) (D_law_pick : Df P w K mg base 2 "_law_pick" ["_law_dice_here", "_law_items"] (spPick K))
    (D_law_lot_right : Df P w K mg base 2 "_law_lot_right" ["_law_lot"] (spLot K (aCls K))) (D_law_with_message : Df P w K mg base 1 "_law_with_message" ["_law_word_here"] (spMsg K)) :
    FnG P w K mg base CX0 5 (He.ga K "_law_right") fd ["_law_dice_here"] spRight := by
  refine okG F Right (fun vs H Q E h => ?_) (fun cdv A outer s H vs Q E hr hG h => ?_)
  · obtain ⟨d, n, rfl, _⟩ := h
    rfl
  · obtain ⟨d, n, rfl, D, hn, k⟩ := h
    refine ⟨_, PSs.nox (pss_cons (ps_par (i := 1) (j := 2) (by rfl) Right.nd rfl rfl (by decide) rfl rfl (pa_cons (pe_df D_law_value (hr.mono (by decide)) rfl (pa_cons (pv 0) pa_nil)) (pa_cons (pe_df D_law_value (hr.mono (by decide)) rfl (pa_cons (pv 0) pa_nil)) pa_nil)) (by rfl))
      (pss_cons (ps_par (i := 3) (j := 4) (by rfl) Right.nd rfl rfl (by decide) rfl rfl (pa_cons (pe_df D_law_count (hr.mono (by decide)) rfl (pa_cons (pv 0) pa_nil)) (pa_cons (pe_df D_law_count (hr.mono (by decide)) rfl (pa_cons (pv 0) pa_nil)) pa_nil)) (by rfl))
      (pss_cons (ps_par (i := 5) (j := 6) (by rfl) Right.nd rfl rfl (by decide) rfl rfl (pa_cons (pe_df D_law_name (hr.mono (by decide)) rfl (pa_cons (pv 0) pa_nil)) (pa_cons (pe_df D_law_word (hr.mono (by decide)) rfl (pa_cons (pv 0) pa_nil)) pa_nil)) (by rfl))
      (pss_cons (ps_cut (ps_set (i := 7) Right.nd rfl (Or.inl rfl) (pe_df D_law_pick (hr.mono (by decide)) rfl (pa_cons (pv 0) (pa_cons (pe_lstS (pa_cons pe_non (pa_cons (pe_tupS pa_nil) (pa_cons (pe_tupS (pa_cons (pe_df D_law_number (hr.mono (by decide)) rfl (pa_cons (pv 0) pa_nil)) pa_nil)) (pa_cons (pe_tupS (pa_cons (pe_df D_law_name (hr.mono (by decide)) rfl (pa_cons (pv 0) pa_nil)) (pa_cons (pe_df D_law_number (hr.mono (by decide)) rfl (pa_cons (pv 0) pa_nil)) pa_nil))) pa_nil))))) pa_nil)))))
      (pss_cons (ps_par3 (i := 8) (j := 9) (l := 10) (by rfl) Right.nd rfl rfl rfl (by decide) (by decide) (by decide) rfl rfl rfl (pa_cons (pe_own OX.InvalidNumber IInvalidNumber rfl rfl rfl rfl rfl (hr.mono (by decide)) rfl (pa_cons (pv 1) pa_nil)) (pa_cons (pe_own OX.UnknownName IUnknownName rfl rfl rfl rfl rfl (hr.mono (by decide)) rfl (pa_cons (pv 2) pa_nil)) (pa_cons (pe_own OX.TooMany ITooMany rfl rfl rfl rfl rfl (hr.mono (by decide)) rfl (pa_cons (pv 3) pa_nil)) pa_nil))) (by rfl))
      (pss_cons (ps_cut (ps_par (i := 11) (j := 12) (by rfl) Right.nd rfl rfl (by decide) rfl rfl (pa_cons (pe_own OX.Broken IBroken rfl rfl rfl rfl rfl (hr.mono (by decide)) rfl (pa_cons (pv 5) (pa_cons (pv 7) pa_nil))) (pa_cons (pe_own OX.NothingToUndo INothingToUndo rfl rfl rfl rfl rfl (hr.mono (by decide)) rfl (pa_cons (pv 4) pa_nil)) pa_nil)) (by rfl)))
      (pss_cons (ps_cut (ps_set (i := 13) Right.nd rfl (Or.inl rfl) (pe_lstS (pa_cons (pe_own OX.InvalidNumber IInvalidNumber rfl rfl rfl rfl rfl (hr.mono (by decide)) rfl (pa_cons (pv 2) pa_nil)) (pa_cons (pe_own OX.UnknownName IUnknownName rfl rfl rfl rfl rfl (hr.mono (by decide)) rfl (pa_cons (pv 1) pa_nil)) (pa_cons (pe_own OX.TooMany ITooMany rfl rfl rfl rfl rfl (hr.mono (by decide)) rfl (pa_cons (pv 4) pa_nil)) pa_nil))))))
      (pss_cons (ps_cut (ps_set (i := 13) Right.nd rfl (Or.inl rfl) (pe_op op_catS (pv 13) (pe_lstS (pa_cons (pe_own OX.Broken IBroken rfl rfl rfl rfl rfl (hr.mono (by decide)) rfl (pa_cons (pe_df D_law_name (hr.mono (by decide)) rfl (pa_cons (pv 0) pa_nil)) (pa_cons (pe_tupS pa_nil) pa_nil))) (pa_cons (pe_own OX.NothingToUndo INothingToUndo rfl rfl rfl rfl rfl (hr.mono (by decide)) rfl (pa_cons (pv 3) pa_nil)) pa_nil))))))
      (pss_cons (ps_cut (ps_if (pt_not (pt_val (pe_df D_law_lot_right (hr.mono (by decide)) rfl (pa_cons (pe_op op_catS (pe_df D_law_with_message (hr.mono (by decide)) rfl (pa_cons (pv 6) pa_nil)) (pe_lstS (pa_cons (pv 8) (pa_cons (pv 9) (pa_cons (pv 10) (pa_cons (pv 11) (pa_cons (pv 12) pa_nil))))))) pa_nil)))) (pss_one (ps_ret pe_bl)) pss_nil))
      (pss_cons (ps_cut (ps_if (pt_not (pt_val (pe_df D_law_lot_right (hr.mono (by decide)) rfl (pa_cons (pe_op op_catS (pe_df D_law_with_message (hr.mono (by decide)) rfl (pa_cons (pv 5) pa_nil)) (pv 13)) pa_nil)))) (pss_one (ps_ret pe_bl)) pss_nil))
      (pss_cons (ps_cut (ps_set (i := 14) Right.nd rfl (Or.inl rfl) (pe_lstS (pa_cons (pe_xflK K rfl (pv 8)) (pa_cons (pe_xflK K rfl (pv 9)) (pa_cons (pe_xflK K rfl (pv 10)) (pa_cons (pe_xflK K rfl (pv 11)) (pa_cons (pe_xflK K rfl (pv 11)) (pa_cons (pe_xflK K rfl (pv 12)) pa_nil)))))))))
      (pss_cons (ps_cut (ps_if (pt_cmpR op_ne (pe_callB (call_reprK K rfl hG hr) (by rfl) T.repr EW.boot_repr (pa_cons (pv 14) pa_nil)) (pe_callB (call_reprK K rfl hG hr) (by rfl) T.repr EW.boot_repr (pa_cons (pe_lstS (pa_cons (pv 1) (pa_cons (pv 2) (pa_cons (pv 3) (pa_cons (pv 5) (pa_cons (pv 7) (pa_cons (pv 4) pa_nil))))))) pa_nil)) (nomark _)) (pss_one (ps_ret pe_bl)) pss_nil))
      (pss_cons (ps_cut (ps_set (i := 14) Right.nd rfl (Or.inl rfl) (pe_lstS (pa_cons (pe_xflK K rfl (pe_ix (ix_listK K rfl) (pv 13) pe_int (fun _ _ => rfl))) (pa_cons (pe_xflK K rfl (pe_ix (ix_listK K rfl) (pv 13) pe_int (fun _ _ => rfl))) (pa_cons (pe_xflK K rfl (pe_ix (ix_listK K rfl) (pv 13) pe_int (fun _ _ => rfl))) (pa_cons (pe_xflK K rfl (pe_ix (ix_listK K rfl) (pv 13) pe_int (fun _ _ => rfl))) (pa_cons (pe_xflK K rfl (pe_ix (ix_listK K rfl) (pv 13) pe_int (fun _ _ => rfl))) pa_nil))))))))
      (pss_one (ps_ret (pe_cmpR op_eq (pe_callB (call_reprK K rfl hG hr) (by rfl) T.repr EW.boot_repr (pa_cons (pv 14) pa_nil)) (pe_callB (call_reprK K rfl hG hr) (by rfl) T.repr EW.boot_repr (pa_cons (pe_lstS (pa_cons (pv 2) (pa_cons (pv 1) (pa_cons (pv 4) (pa_cons (pe_tupS pa_nil) (pa_cons (pv 3) pa_nil)))))) pa_nil)) (nomark _))))))))))))))))), ?_⟩
    refine ⟨_, rfl, d, n, rfl, D, by omega, fun v1 dt1 H1 nv1 k1 D1 => ?_⟩
    refine ⟨_, rfl, d, _, rfl, D1, by omega, fun v2 dt2 H2 nv2 k2 D2 => ?_⟩
    refine ⟨v1, v2, rfl, ?_⟩
    refine ⟨_, rfl, d, _, rfl, D2, by omega, fun i3 H3 b3 k3 D3 => ⟨_, rfl, d, _, rfl, D3, by omega, fun i4 H4 b4 k4 D4 => ⟨_, _, rfl, ?_⟩⟩⟩
    refine ⟨_, rfl, d, _, rfl, D4, by omega, fun z5 H5 w5 k5 D5 => ⟨_, rfl, d, _, rfl, D5, by omega, fun z6 H6 w6 k6 D6 => ⟨_, _, rfl, ?_⟩⟩⟩
    have lz : ∀ {z : Str}, Wd z → z.length ≤ 40 := fun h => Nat.le_trans h.1 (by decide)
    -- the row
    refine ⟨fun σ' H' => ∃ (vr : V) (dtr : PyData), σ' = [some (.ref d), some v1, some v2, some (.int i3), some (.int i4), some (.str z5), some (.str z6), some vr, none, none, none, none, none, none, none] ∧ Three K H' v1 v2 vr dt1 dt2 dtr ∧ EW.Kept d H H' ∧ Dc H' d (n + 75), ?_, ?_⟩
    · refine ⟨_, rfl, (by show 0 ≤ sizeLine; decide), fun pA HA nA sA eA => ?_⟩
      have DA := D6.same sA
      refine ⟨_, rfl, d, _, rfl, DA, by omega, fun i7 H7 b7 k7 D7 => ⟨(by show 1 ≤ sizeLine; decide), fun pB HB nB sB eB => ?_⟩⟩
      have DB := D7.same sB
      refine ⟨_, rfl, d, _, rfl, DB, by omega, fun z8 H8 w8 k8 D8 => ⟨_, rfl, d, _, rfl, D8, by omega, fun i9 H9 b9 k9 D9 => ⟨(by show 2 ≤ sizeLine; decide), fun pC HC nC sC eC => ?_⟩⟩⟩
      have DC := D9.same sC
      refine ⟨(by show 4 ≤ sizeLine; decide), fun pL HL nL sL eL => ?_⟩
      have DL := DC.same sL
      refine ⟨d, pL, _, _, rfl, DL, by omega, SqL.of eL, DC.nn nL, Nat.succ_pos _, (by show 4 < 1000; decide), fun vr HR hv kR DR => ?_⟩
      have kC : EW.Kept d HC HR := (kept_of sL).trans kR
      have kB : EW.Kept d HB HR := k8.trans (k9.trans ((kept_of sC).trans kC))
      have kA : EW.Kept d HA HR := k7.trans ((kept_of sB).trans kB)
      have kk6 : EW.Kept d H6 HR := (kept_of sA).trans kA
      have kk2 : EW.Kept d H2 HR := k3.trans (k4.trans (k5.trans (k6.trans kk6)))
      have kk1 : EW.Kept d H1 HR := k2.trans kk2
      have eA' : HR pA = some (.tup []) := kA _ _ (D6.nn nA) eA
      have eB' : HR pB = some (.tup [.int i7]) := kB _ _ (D7.nn nB) eB
      have eC' : HR pC = some (.tup [.str z8, .int i9]) := kC _ _ (D9.nn nC) eC
      obtain ⟨dtr, nvr⟩ : ∃ dt, Nv K HR vr dt := by
        simp only [List.mem_cons, List.not_mem_nil, or_false] at hv
        rcases hv with rfl | rfl | rfl | rfl
        · exact ⟨_, .lf .non⟩
        · exact ⟨_, .tup eA' .nil (by decide)⟩
        · exact ⟨_, .tup eB' (.cons (.int _ b7) .nil) (by show 1 ≤ 4; decide)⟩
        · exact ⟨_, .tup eC' (.cons (.str _ (lz w8) w8.2) (.cons (.int _ b9) .nil)) (by show 2 ≤ 4; decide)⟩
      exact ⟨vr, dtr, rfl, ⟨nv1.kept D1 kk1, nv2.kept D2 kk2, nvr⟩, k1.trans kk1, DR.mono (by omega)⟩
    clear D6 k6 D5 k5 D4 k4 D3 k3 D2 k2 nv2 D1 k1 nv1
    rintro σ' HR ⟨vr, dtr, rfl, th, kk, DR⟩
    -- one, two, three; four, five
    refine ⟨_, rfl, rfl, by decide, fun a1 G1 n1 s1 o1 => ⟨_, rfl, rfl, by decide, fun a2 G2 n2 s2 o2 => ⟨_, rfl, rfl, by decide, fun a3 G3 n3 s3 o3 => ⟨_, _, _, rfl, ?_⟩⟩⟩⟩
    refine ⟨fun σ' H' => ∃ (a4 a5 : Addr), σ' = [some (.ref d), some v1, some v2, some (.int i3), some (.int i4), some (.str z5), some (.str z6), some vr, some (.ref a1), some (.ref a2), some (.ref a3), some (.ref a4), some (.ref a5), none, none] ∧ Three K H' v1 v2 vr dt1 dt2 dtr ∧ Five K H' a1 a2 a3 a4 a5 v1 v2 (.int i3) (.str z5) vr (.int i4) ∧ EW.Kept d H H' ∧ Dc H' d (n + 75), ?_, ?_⟩
    · refine ⟨_, rfl, _, rfl, rfl, by decide, fun a4 G4 n4 s4 o4 => ⟨_, rfl, rfl, by decide, fun a5 G5 n5 s5 o5 => ⟨_, _, rfl, ?_⟩⟩⟩
      have S35 := Same.trans s4 s5
      have S25 := Same.trans s3 S35
      have S15 := Same.trans s2 S25
      have SR5 := Same.trans s1 S15
      exact ⟨a4, a5, rfl, th.same SR5, ⟨o1.same S15, o2.same S25, o3.same S35, o4.same s5, o5⟩, kk.trans (kept_of SR5), DR.same SR5⟩
    clear n1 s1 o1 n2 s2 o2 n3 s3 o3 th kk DR
    rintro σ' G5 ⟨a4, a5, rfl, th, fa, kk, D5⟩
    -- again
    refine ⟨fun σ' H' => ∃ (c1 c2 c3 l1 : Addr), σ' = [some (.ref d), some v1, some v2, some (.int i3), some (.int i4), some (.str z5), some (.str z6), some vr, some (.ref a1), some (.ref a2), some (.ref a3), some (.ref a4), some (.ref a5), some (.ref l1), none] ∧ Three K H' v1 v2 vr dt1 dt2 dtr ∧ Five K H' a1 a2 a3 a4 a5 v1 v2 (.int i3) (.str z5) vr (.int i4) ∧
      OwnAt H' c1 (He.ga K "InvalidNumber") (mkInvalidNumber [v2]) ∧ OwnAt H' c2 (He.ga K "UnknownName") (mkUnknownName [v1]) ∧ OwnAt H' c3 (He.ga K "TooMany") (mkTooMany [.int i4]) ∧ H' l1 = some (.lst [.ref c1, .ref c2, .ref c3]) ∧ l1 ≠ d ∧ EW.Kept d H H' ∧ Dc H' d (n + 75), ?_, ?_⟩
    · refine ⟨_, rfl, rfl, by decide, fun c1 G6 n1 s1 r1 => ⟨_, rfl, rfl, by decide, fun c2 G7 n2 s2 r2 => ⟨_, rfl, rfl, by decide, fun c3 G8 n3 s3 r3 => ⟨(by show 3 ≤ sizeLine; decide), fun l1 G9 q1 t1 f1 => ?_⟩⟩⟩⟩
      have S58 : Same G5 G8 := Same.trans s1 (Same.trans s2 s3)
      have S59 : Same G5 G9 := Same.trans S58 t1
      exact ⟨c1, c2, c3, l1, rfl, th.same S59, fa.same S59, r1.same (Same.trans s2 (Same.trans s3 t1)), r2.same (Same.trans s3 t1), r3.same t1, f1, (D5.same S58).nn q1, kk.trans (kept_of S59), D5.same S59⟩
    clear th fa kk D5
    rintro σ' G9 ⟨c1, c2, c3, l1, rfl, th, fa, r1, r2, r3, f1, hl1, kk, D9⟩
    refine ⟨fun σ' H' => ∃ (z9 : Str) (c4 c5 l3 pD : Addr), σ' = [some (.ref d), some v1, some v2, some (.int i3), some (.int i4), some (.str z5), some (.str z6), some vr, some (.ref a1), some (.ref a2), some (.ref a3), some (.ref a4), some (.ref a5), some (.ref l3), none] ∧ Made K H H' d n v1 v2 vr dt1 dt2 dtr i3 i4 z5 a1 a2 a3 a4 a5 z9 c1 c2 c3 c4 c5 l3 pD, ?_, ?_⟩
    · refine ⟨_, rfl, _, rfl, d, _, rfl, D9, by omega, fun z9 GA w9 kA DA => ⟨(by show 0 ≤ sizeLine; decide), fun pD GB nD sD eD => ⟨rfl, by decide, fun c4 GC n4 s4 r4 => ⟨_, rfl, rfl, by decide, fun c5 GD n5 s5 r5 => ⟨(by show 2 ≤ sizeLine; decide), fun l2 GE q2 t2 f2 => ?_⟩⟩⟩⟩⟩
      have SAE : Same GA GE := Same.trans sD (Same.trans s4 (Same.trans s5 t2))
      refine ⟨l1, l2, _, _, rfl, rfl, SAE _ _ (kA _ _ hl1 f1), f2, (by show 5 ≤ sizeLine; decide), fun l3 G0 q3 t3 f3 => ?_⟩
      have SA0 : Same GA G0 := Same.trans SAE t3
      have fc : Five K G0 c1 c2 c3 c4 c5 v2 v1 (.int i4) (.str z9) (.ref pD) (.int i3) :=
        ⟨(r1.kept D9 kA).same SA0, (r2.kept D9 kA).same SA0, (r3.kept D9 kA).same SA0, r4.same (Same.trans s5 (Same.trans t2 t3)), r5.same (Same.trans t2 t3)⟩
      exact ⟨z9, c4, c5, l3, pD, rfl, (th.kept D9 kA).same SA0, (fa.kept D9 kA).same SA0, fc, f3, (Same.trans s4 (Same.trans s5 (Same.trans t2 t3))) _ _ eD, kk.trans (kA.trans (kept_of SA0)), (DA.same SA0).mono (by omega)⟩
    clear th fa r1 r2 r3 f1 hl1 kk D9
    rintro σ' G0 ⟨z9, c4, c5, l3, pD, rfl, M⟩
    -- the first lot
    refine ⟨fun σ' H' => σ' = [some (.ref d), some v1, some v2, some (.int i3), some (.int i4), some (.str z5), some (.str z6), some vr, some (.ref a1), some (.ref a2), some (.ref a3), some (.ref a4), some (.ref a5), some (.ref l3), none] ∧ Made K H H' d n v1 v2 vr dt1 dt2 dtr i3 i4 z5 a1 a2 a3 a4 a5 z9 c1 c2 c3 c4 c5 l3 pD, ?_, ?_⟩
    · refine ⟨_, rfl, z6, rfl, fun p es J1 j1 _ e1 x1 => ?_⟩
      refine ⟨_, rfl, _, rfl, _, rfl, _, rfl, _, rfl, (by show 5 ≤ sizeLine; decide), fun l4 J2 _ j2 f4 => ?_⟩
      have lm : es.length = 11 := x1.len
      refine ⟨p, l4, _, _, rfl, rfl, j2 _ _ e1, f4, (by rw [lm]; show 16 ≤ sizeLine; decide), fun l5 J3 _ j3 f5 => ?_⟩
      have T3 : Same G0 J3 := Same.trans j1 (Same.trans j2 j3)
      refine ⟨l5, _, rfl, f5, (x1.same (Same.trans j2 j3)).append (M.fa.same T3).excs, rfl, tab, fun J4 j4 => ?_⟩
      refine ⟨_, rfl, ?_⟩
      refine iteF ?_
      exact ⟨rfl, M.same (Same.trans T3 j4)⟩
    clear M
    rintro σ' G0' ⟨rfl, M⟩
    -- the second lot
    refine ⟨fun σ' H' => σ' = [some (.ref d), some v1, some v2, some (.int i3), some (.int i4), some (.str z5), some (.str z6), some vr, some (.ref a1), some (.ref a2), some (.ref a3), some (.ref a4), some (.ref a5), some (.ref l3), none] ∧ Made K H H' d n v1 v2 vr dt1 dt2 dtr i3 i4 z5 a1 a2 a3 a4 a5 z9 c1 c2 c3 c4 c5 l3 pD, ?_, ?_⟩
    · refine ⟨_, rfl, z5, rfl, fun p es J5 j1 _ e1 x1 => ?_⟩
      have lm : es.length = 11 := x1.len
      refine ⟨_, rfl, p, l3, _, _, rfl, rfl, e1, j1 _ _ M.l, (by rw [lm]; show 16 ≤ sizeLine; decide), fun l5 J6 _ j3 f5 => ?_⟩
      have T3 := Same.trans j1 j3
      refine ⟨l5, _, rfl, f5, (x1.same j3).append (M.fc.same T3).excs, rfl, tab, fun J7 j4 => ?_⟩
      refine ⟨_, rfl, ?_⟩
      refine iteF ?_
      exact ⟨rfl, M.same (Same.trans T3 j4)⟩
    clear M
    rintro σ' J7 ⟨rfl, M⟩
    -- what is told
    refine ⟨fun σ' H' => ∃ w1 : Addr, σ' = [some (.ref d), some v1, some v2, some (.int i3), some (.int i4), some (.str z5), some (.str z6), some vr, some (.ref a1), some (.ref a2), some (.ref a3), some (.ref a4), some (.ref a5), some (.ref l3), some (.ref w1)] ∧ Made K H H' d n v1 v2 vr dt1 dt2 dtr i3 i4 z5 a1 a2 a3 a4 a5 z9 c1 c2 c3 c4 c5 l3 pD ∧ H' w1 = some (.lst [v1, v2, .int i3, .str z5, vr, .int i4]), ?_, ?_⟩
    · obtain ⟨e_, h1_, h2_⟩ := M.fa.o1
      refine ⟨_, rfl, _, _, e_, _, _, rfl, OX.InvalidNumber.xi, OX.InvalidNumber.mkx.hd, OX.InvalidNumber.no _ (by simp), h1_, h2_, (lk1 _ _), ?_⟩
      clear h1_ h2_
      obtain ⟨e_, h1_, h2_⟩ := M.fa.o2
      refine ⟨_, rfl, _, _, e_, _, _, rfl, OX.UnknownName.xi, OX.UnknownName.mkx.hd, OX.UnknownName.no _ (by simp), h1_, h2_, (lk1 _ _), ?_⟩
      clear h1_ h2_
      obtain ⟨e_, h1_, h2_⟩ := M.fa.o3
      refine ⟨_, rfl, _, _, e_, _, _, rfl, OX.TooMany.xi, OX.TooMany.mkx.hd, OX.TooMany.no _ (by simp), h1_, h2_, (lk1 _ _), ?_⟩
      clear h1_ h2_
      obtain ⟨e_, h1_, h2_⟩ := M.fa.o4
      refine ⟨_, rfl, _, _, e_, _, _, rfl, OX.Broken.xi, OX.Broken.mkx.hd, OX.Broken.no _ (by simp), h1_, h2_, (lk2 (by decide +kernel) _ _), ?_⟩
      clear h1_ h2_
      obtain ⟨e_, h1_, h2_⟩ := M.fa.o4
      refine ⟨_, rfl, _, _, e_, _, _, rfl, OX.Broken.xi, OX.Broken.mkx.hd, OX.Broken.no _ (by simp), h1_, h2_, (lk0 _ _ _ _), ?_⟩
      clear h1_ h2_
      obtain ⟨e_, h1_, h2_⟩ := M.fa.o5
      refine ⟨_, rfl, _, _, e_, _, _, rfl, OX.NothingToUndo.xi, OX.NothingToUndo.mkx.hd, OX.NothingToUndo.no _ (by simp), h1_, h2_, (lk1 _ _), ?_⟩
      clear h1_ h2_
      refine ⟨(by show 6 ≤ sizeLine; decide), fun w1 L1 _ y1 g1 => ?_⟩
      exact ⟨w1, rfl, M.same y1, g1⟩
    clear M
    rintro σ' L1 ⟨w1, rfl, M, g1⟩
    have nvs : ∀ {X : Hp}, Same L1 X → Nvs K X [v1, v2, .int i3, .str z5, vr, .int i4] [dt1, dt2, .int i3, .str z5, dtr, .int i4] := fun h =>
      .cons (M.th.m1.same h) (.cons (M.th.m2.same h) (.cons (.lf (.int _ b3)) (.cons (.lf (.str _ (lz w5) w5.2)) (.cons (M.th.mr.same h) (.cons (.lf (.int _ b4)) .nil)))))
    refine ⟨fun σ' H' => σ' = [some (.ref d), some v1, some v2, some (.int i3), some (.int i4), some (.str z5), some (.str z6), some vr, some (.ref a1), some (.ref a2), some (.ref a3), some (.ref a4), some (.ref a5), some (.ref l3), some (.ref w1)] ∧ Made K H H' d n v1 v2 vr dt1 dt2 dtr i3 i4 z5 a1 a2 a3 a4 a5 z9 c1 c2 c3 c4 c5 l3 pD, ?_, ?_⟩
    · obtain ⟨p1, p2, p3, p4, p5⟩ := rep_fact g1 (nvs (Same.refl _)) (by show 6 ≤ 6; decide)
      refine ⟨_, rfl, w1, _, rfl, p1, p2, p3, p4, p5, ?_⟩
      refine ⟨_, rfl, _, rfl, _, rfl, _, rfl, _, rfl, _, rfl, (by show 6 ≤ sizeLine; decide), fun w2 L2 _ y2 g2 => ?_⟩
      obtain ⟨p1, p2, p3, p4, p5⟩ := rep_fact g2 (nvs y2) (by show 6 ≤ 6; decide)
      refine ⟨w2, _, rfl, p1, p2, p3, p4, p5, ?_⟩
      refine ⟨rfl, _, rfl, ?_⟩
      refine iteNS rfl ?_
      exact ⟨rfl, M.same y2⟩
    clear nvs M g1
    rintro σ' L2 ⟨rfl, M⟩
    refine ⟨fun σ' H' => ∃ w2 : Addr, σ' = [some (.ref d), some v1, some v2, some (.int i3), some (.int i4), some (.str z5), some (.str z6), some vr, some (.ref a1), some (.ref a2), some (.ref a3), some (.ref a4), some (.ref a5), some (.ref l3), some (.ref w2)] ∧ Made K H H' d n v1 v2 vr dt1 dt2 dtr i3 i4 z5 a1 a2 a3 a4 a5 z9 c1 c2 c3 c4 c5 l3 pD ∧ H' w2 = some (.lst [v2, v1, .int i4, .ref pD, .int i3]), ?_, ?_⟩
    · obtain ⟨e_, h1_, h2_⟩ := M.fc.o1
      refine ⟨_, rfl, l3, _, _, _, rfl, rfl, SqL.of M.l, rfl, _, _, e_, _, _, rfl, OX.InvalidNumber.xi, OX.InvalidNumber.mkx.hd, OX.InvalidNumber.no _ (by simp), h1_, h2_, (lk1 _ _), ?_⟩
      clear h1_ h2_
      obtain ⟨e_, h1_, h2_⟩ := M.fc.o2
      refine ⟨_, rfl, l3, _, _, _, rfl, rfl, SqL.of M.l, rfl, _, _, e_, _, _, rfl, OX.UnknownName.xi, OX.UnknownName.mkx.hd, OX.UnknownName.no _ (by simp), h1_, h2_, (lk1 _ _), ?_⟩
      clear h1_ h2_
      obtain ⟨e_, h1_, h2_⟩ := M.fc.o3
      refine ⟨_, rfl, l3, _, _, _, rfl, rfl, SqL.of M.l, rfl, _, _, e_, _, _, rfl, OX.TooMany.xi, OX.TooMany.mkx.hd, OX.TooMany.no _ (by simp), h1_, h2_, (lk1 _ _), ?_⟩
      clear h1_ h2_
      obtain ⟨e_, h1_, h2_⟩ := M.fc.o4
      refine ⟨_, rfl, l3, _, _, _, rfl, rfl, SqL.of M.l, rfl, _, _, e_, _, _, rfl, OX.Broken.xi, OX.Broken.mkx.hd, OX.Broken.no _ (by simp), h1_, h2_, (lk0 _ _ _ _), ?_⟩
      clear h1_ h2_
      obtain ⟨e_, h1_, h2_⟩ := M.fc.o5
      refine ⟨_, rfl, l3, _, _, _, rfl, rfl, SqL.of M.l, rfl, _, _, e_, _, _, rfl, OX.NothingToUndo.xi, OX.NothingToUndo.mkx.hd, OX.NothingToUndo.no _ (by simp), h1_, h2_, (lk1 _ _), ?_⟩
      clear h1_ h2_
      refine ⟨(by show 5 ≤ sizeLine; decide), fun w2 L3 _ y1 g1 => ?_⟩
      exact ⟨w2, rfl, M.same y1, g1⟩
    clear M
    rintro σ' L3 ⟨w2, rfl, M, g1⟩
    have nvs : ∀ {X : Hp} {q : Addr}, Same L3 X → X q = some (.tup []) → Nvs K X [v2, v1, .int i4, .ref q, .int i3] [dt2, dt1, .int i4, .tuple [], .int i3] := fun h e =>
      .cons (M.th.m2.same h) (.cons (M.th.m1.same h) (.cons (.lf (.int _ b4)) (.cons (.tup e .nil (by decide)) (.cons (.lf (.int _ b3)) .nil))))
    obtain ⟨p1, p2, p3, p4, p5⟩ := rep_fact g1 (nvs (Same.refl _) M.p) (by show 5 ≤ 6; decide)
    refine ⟨_, rfl, w2, _, rfl, p1, p2, p3, p4, p5, ?_⟩
    refine ⟨_, rfl, _, rfl, _, rfl, (by show 0 ≤ sizeLine; decide), fun pE L4 _ y2 eE => ⟨_, rfl, (by show 5 ≤ sizeLine; decide), fun w3 L5 _ y3 g3 => ?_⟩⟩
    obtain ⟨p1, p2, p3, p4, p5⟩ := rep_fact g3 (nvs (Same.trans y2 y3) (y3 _ _ eE)) (by show 5 ≤ 6; decide)
    refine ⟨w3, _, rfl, p1, p2, p3, p4, p5, ?_⟩
    refine ⟨rfl, ?_⟩
    rw [decide_eq_true rfl]
    have M' := M.same (Same.trans y2 y3)
    exact k L5 M'.k (M'.D.mono (by omega))
end
end K00
end

section
set_option maxHeartbeats 4000000
namespace K00
open PySem PySem.Spec PyProof.Rows L2 EW
def spLaw (K : W.Frag) : Sp := fun vs H Q _ => ∃ (a : Addr) (ns : List Int), vs = [.ref a] ∧ SqL K H a (ns.map V.int) ∧ ns.length ≤ 63 ∧ ∀ H', Q (.bl true) H'
structure TabE (K : W.Frag) : Prop where
  x : XIs K (He.ga K "EverError")
  own : Row K (He.ga K "EverError") (ownU K) (List.replicate 16 false)
  abv : Row K (He.ga K "EverError") (abvU K) dMsg
theorem Rws.head {L : Addr} {H : Hp} {vs : List V} {b : List Bool} {r : List (List Bool)} (h : Rws L H vs (b :: r)) : ∃ a ws, vs = .ref a :: ws ∧ H a = some (.lst (b.map V.bl)) := by
  cases h with
  | cons n e t => exact ⟨_, _, rfl, e⟩
abbrev NLaw : List Str := ["_law_script", "_law_spot", "_law_dice_here", "_law_turn", "_law_base"]
theorem Law : FnScope NLaw ["_law_script"] (defScope sLaw) := ⟨rfl, rfl, rfl, by decide +kernel, rfl, by decide +kernel, by decide +kernel⟩
section
variable {P : Program} {w : World} {K : W.Frag} {mg : Str → Option Value} {base : Heap}
theorem ok_law {fd fR : FuncData} (F : FnP K "law" sLaw fd) (T : Fre mg) (M : Msgs K mg) (E1 : TabE K) (D_law_dice : Df P w K mg base 1 "_law_dice" ["_law_script", "_law_spot"] (spDice K))
    (G_right : FnG P w K mg base CX0 5 (He.ga K "_law_right") fR ["_law_dice_here"] spRight) (g_right : mg "_law_right" = some (.ref (He.ga K "_law_right"))) (k_right : W.keepIn K (.ref (He.ga K "_law_right")) = true) (b_right : L2.Binds K fR ["_law_dice_here"] [])
    (D_law_own : Df P w K mg base 1 "_law_own" ["_law_thing"] (spOwn K)) (D_law_above : Df P w K mg base 1 "_law_above" ["_law_thing"] (spAbove K)) (D_law_above_due : Df P w K mg base 1 "_law_above_due" [] spDue) :
    FnG P w K mg base CX0 6 (He.ga K "law") fd ["_law_script"] (spLaw K) := by
  refine okG F Law (fun vs H Q E h => ?_) (fun cdv A outer s H vs Q E hr hG h => ?_)
  · obtain ⟨a, ns, rfl, _⟩ := h
    rfl
  · obtain ⟨a, ns, rfl, hS, hlen, k⟩ := h
    refine ⟨_, PSs.nox (pss_cons (ps_cut (ps_for PassesOwn.never rfl (pi_range1 rfl T.range (pa_cons (pe_callB (call_max2 rfl) (by rfl) T.max EW.boot_max (pa_cons pe_int (pa_cons (pe_callB (call_min2 rfl) (by rfl) T.min EW.boot_min (pa_cons pe_int (pa_cons (pe_callB (call_lenK K rfl) (by rfl) T.len PySem.boot_len (pa_cons (pv 0) pa_nil)) pa_nil))) pa_nil))) pa_nil)) (pg_name (i := 1) Law.nd rfl (Or.inl rfl)) (pss_cons (ps_set (i := 2) Law.nd rfl (Or.inl rfl) (pe_df D_law_dice (hr.mono (by decide)) rfl (pa_cons (pv 0) (pa_cons (pv 1) pa_nil))))
      (pss_one (ps_for PassesOwn.never rfl (pi_range1 rfl T.range (pa_cons pe_int pa_nil)) (pg_name (i := 3) Law.nd rfl (Or.inl rfl)) (pss_one (ps_if (pt_not (pt_val (pe_callG G_right (hr.mono (by decide)) hG rfl g_right k_right b_right pass0 (pa_cons (pv 2) pa_nil)))) (pss_one (ps_ret pe_bl)) pss_nil)))))))
      (pss_cons (ps_set (i := 4) Law.nd rfl (Or.inl rfl) (pe_msg M.EverError rfl rfl rfl pe_str))
      (pss_one (ps_ret (pe_and (pe_cmpR (op_eqDK K rfl hr.units) (pe_df D_law_own (hr.mono (by decide)) rfl (pa_cons (pv 4) pa_nil)) (pe_op op_rep (pe_lstS (pa_cons pe_bl pa_nil)) pe_int) (nomark _)) (pe_one (pe_cmpR (op_eqDK K rfl hr.units) (pe_df D_law_above (hr.mono (by decide)) rfl (pa_cons (pv 4) pa_nil)) (pe_ix (ix_listK K rfl) (pe_df0 D_law_above_due (hr.mono (by decide)) rfl) pe_int (fun _ _ => rfl)) (nomark _)))))))), ?_⟩
    refine ⟨fun σ' H' => ∃ u v x : Option V, σ' = [some (.ref a), u, v, x, none] ∧ Same H H', ?_, ?_⟩
    · refine ⟨_, rfl, _, (ns.map V.int).length, rfl, Or.inl ⟨_, hS, rfl⟩, _, _, rfl, _, _, rfl, _, rfl, ?_, ?_, ?_⟩
      · split <;> split <;> omega
      · rw [List.length_map]
        split <;> split <;> omega
      refine for_range (lo := 0) (fun i σ' H' => ∃ u v x : Option V, σ' = [some (.ref a), u, v, x, none] ∧ Same H H') ⟨_, _, _, rfl, Same.refl H⟩ ?_ ?_
      · rintro i σ' H1 hi ⟨u, v, x, rfl, s1⟩
        refine ⟨_, rfl, _, rfl, a, ns, _, rfl, s1.seq hS, by omega, fun d H2 nd s2 D2 => ?_⟩
        refine ⟨3, rfl, by decide, by decide, ?_⟩
        refine for_range (lo := 0) (n := 3) (fun j σ' H' => ∃ x : Option V, σ' = [some (.ref a), some (.int (0 + (i : Int))), some (.ref d), x, none] ∧ Same H1 H' ∧ Dc H' d (90 * (j : Int))) ⟨_, rfl, s2, D2.mono (by omega)⟩ ?_ ?_
        · rintro j σ' H3 hj ⟨x, rfl, s3, D3⟩
          refine ⟨_, rfl, d, _, rfl, D3, by omega, fun H4 k4 D4 => ?_⟩
          refine ⟨_, rfl, ?_⟩
          refine iteF ?_
          exact ⟨_, rfl, k4.same s3 nd, D4.mono (by omega)⟩
        · rintro σ' H3 ⟨x, rfl, s3, D3⟩
          exact ⟨_, _, _, rfl, Same.trans s1 s3⟩
      · rintro σ' H1 ⟨u, v, x, rfl, s1⟩
        exact ⟨u, v, x, rfl, s1⟩
    · rintro σ' H1 ⟨u, v, x, rfl, s1⟩
      refine fun b H2 n2 s2 e2 => ?_
      have x2 : ExcAt H2 b (He.ga K "EverError") := .inl e2
      refine ⟨_, rfl, b, _, _, rfl, x2, E1.x, E1.own, fun p H3 s3 np ep => ?_⟩
      refine ⟨(by show 1 ≤ sizeLine; decide), fun q H4 nq s4 eq => ?_⟩
      refine ⟨q, 16, _, rfl, rfl, eq, by decide, by decide, (by show 1 * 16 ≤ sizeLine; decide), fun r hr' => ?_⟩
      have ep' : (upd H4 r (.lst (List.replicate (16 : Int).toNat [V.bl false]).flatten)) p = some (.lst ((List.replicate 16 false).map V.bl)) := by
        rw [upd_ne (ne_of_none (s4 _ _ ep) hr')]
        exact s4 _ _ ep
      refine ⟨bD (List.replicate 16 false), bD (List.replicate 16 false), .lst (SqL.of ep') (dp_bools _), .lst (SqL.of upd_same) (dp_bools (List.replicate 16 false)), bools_shaped _, bools_shaped _, _, rfl, ?_⟩
      rw [SeqAt.eqv_refl _ (SeqAt.canLay_of_shaped (bools_shaped (List.replicate 16 false)))]
      refine iteT ?_
      have x5 := ExcAt.same x2 (Same.trans s3 (Same.trans s4 (sameN (o := .lst (List.replicate (16 : Int).toNat [V.bl false]).flatten) hr')))
      refine ⟨_, rfl, b, _, _, rfl, x5, E1.x, E1.abv, fun p2 H6 s6 np2 ep2 => ?_⟩
      refine ⟨rfl, fun p3 es H7 s7 np3 ep3 rw7 => ?_⟩
      obtain ⟨a0, ws, rfl, ea0⟩ := rw7.head
      refine ⟨p3, _, _, _, rfl, rfl, SqL.of ep3, atI_nat (xs := .ref a0 :: ws) (j := 0) rfl, ?_⟩
      refine ⟨bD dMsg, bD dMsg, .lst (SqL.of (s7 _ _ ep2)) (dp_bools _), .lst (SqL.of ea0) (dp_bools _), bools_shaped _, bools_shaped _, ?_⟩
      rw [SeqAt.eqv_refl _ (SeqAt.canLay_of_shaped (bools_shaped dMsg))]
      exact k _
end
end K00
end

section
set_option maxHeartbeats 0
namespace K00
open PySem PySem.Spec PyProof.Rows L2 EW
/-! ### the head: facts by names, read off the run of the top -/
def fn : List He.DefD := [
  ⟨("_law_dice", none), "_law_dice", "_law_dice", defArgs sDice, defBody sDice, defScope sDice, [], []⟩,
  ⟨("_law_roll", none), "_law_roll", "_law_roll", defArgs sRoll, defBody sRoll, defScope sRoll, [], []⟩,
  ⟨("_law_pick", none), "_law_pick", "_law_pick", defArgs sPick, defBody sPick, defScope sPick, [], []⟩,
  ⟨("_law_word", none), "_law_word", "_law_word", defArgs sWord, defBody sWord, defScope sWord, [], []⟩,
  ⟨("_law_number", none), "_law_number", "_law_number", defArgs sNumber, defBody sNumber, defScope sNumber, [], []⟩,
  ⟨("_law_count", none), "_law_count", "_law_count", defArgs sCount, defBody sCount, defScope sCount, [], []⟩,
  ⟨("_law_name", none), "_law_name", "_law_name", defArgs sName, defBody sName, defScope sName, [], []⟩,
  ⟨("_law_value", none), "_law_value", "_law_value", defArgs sValu, defBody sValu, defScope sValu, [], []⟩,
  ⟨("_law_with_message", none), "_law_with_message", "_law_with_message", defArgs sMsg, defBody sMsg, defScope sMsg, [], []⟩,
  ⟨("_law_own", none), "_law_own", "_law_own", defArgs sOwn, defBody sOwn, defScope sOwn, [], []⟩,
  ⟨("_law_above", none), "_law_above", "_law_above", defArgs sAbove, defBody sAbove, defScope sAbove, [], []⟩,
  ⟨("_law_above_due", none), "_law_above_due", "_law_above_due", defArgs sDue, defBody sDue, defScope sDue, [], []⟩,
  ⟨("_law_lot_right", none), "_law_lot_right", "_law_lot_right", defArgs sLot, defBody sLot, defScope sLot, [], []⟩,
  ⟨("_law_right", none), "_law_right", "_law_right", defArgs sRight, defBody sRight, defScope sRight, [], []⟩,
  ⟨("law", none), "law", "law", defArgs sLaw, defBody sLaw, defScope sLaw, [], []⟩,
  ⟨("InvalidNumber", some "__init__"), "__init__", "InvalidNumber.__init__", defArgs sInInvalidNumber, defBody sInInvalidNumber, defScope sInInvalidNumber, [], []⟩,
  ⟨("UnknownName", some "__init__"), "__init__", "UnknownName.__init__", defArgs sInUnknownName, defBody sInUnknownName, defScope sInUnknownName, [], []⟩,
  ⟨("TooMany", some "__init__"), "__init__", "TooMany.__init__", defArgs sInTooMany, defBody sInTooMany, defScope sInTooMany, [], []⟩,
  ⟨("Broken", some "__init__"), "__init__", "Broken.__init__", defArgs sInBroken, defBody sInBroken, defScope sInBroken, [], []⟩,
  ⟨("NothingToUndo", some "__init__"), "__init__", "NothingToUndo.__init__", defArgs sInNothingToUndo, defBody sInNothingToUndo, defScope sInNothingToUndo, [], []⟩]
def fa : List He.Fa := [.glo "_law_dice", .glo "_law_roll", .glo "_law_pick", .glo "_law_word", .glo "_law_number", .glo "_law_count", .glo "_law_name", .glo "_law_value", .glo "_law_with_message", .glo "_law_own", .glo "_law_above", .glo "_law_above_due", .glo "_law_lot_right", .glo "_law_right", .glo "law", .free "len", .free "int", .free "abs", .free "max", .free "min", .free "range", .free "enumerate", .free "isinstance", .free "repr", .free "ValueError", .free "LookupError", .free "IndexError", .free "KeyError", .free "OverflowError", .free "RuntimeError"]
/-- a class that takes a message -/
def msgB (K : W.Frag) (x : Str) : Bool := W.excIn K (He.ga K x) veBases "ValueError.__new__" && (He.eqO (W.nsIn K mainGlobals x) (some (some (.ref (He.ga K x)))) && W.keepIn K (.ref (He.ga K x)))
theorem msgB_ok {K : W.Frag} {h : Heap} {mg : Str → Option Value} (X : K.In h) (G : h.Ns mainGlobals mg) {x : Str} (c : msgB K x = true) : MsgC K mg x := by
  obtain ⟨c1, c2⟩ := He.ba c
  obtain ⟨c2, c3⟩ := He.ba c2
  exact ⟨c1, W.mg_of X G (He.eqO_ok c2), c3⟩
def valB (o : Option W.CFound) (id : String) : Bool := match o with
  | some (.val (.builtin i)) => decide (i = id)
  | _ => false
theorem valB_ok {o : Option W.CFound} {id : String} (h : valB o id = true) : o = some (.val (.builtin id)) := by
  cases o with
  | none => cases h
  | some f =>
    cases f with
    | val v =>
      cases v with
      | builtin i =>
        have e : i = id := of_decide_eq_true h
        rw [e]
      | _ => cases h
    | _ => cases h
def ownB (K : W.Frag) (x : Str) (bmB : List Value) (newId B initId : String) (fs : List Str) : Bool := xmkB K (He.ga K x) (He.ma K (He.ga K x) "__init__") bmB newId && (He.eqO (W.nsIn K mainGlobals x) (some (some (.ref (He.ga K x))))
  && ((fs.all fun f => He.eqO (W.findIn K (.ref (He.ga K x)) f) (some none)) && (valB (W.findCls K (.type B) (.type "type") "__init__") initId && xisB K (He.ga K x))))
theorem ownB_ok {K : W.Frag} {h : Heap} {mg : Str → Option Value} (X : K.In h) (G : h.Ns mainGlobals mg) {x : Str} {bmB : List Value} {newId B initId : String} {fs : List Str} (c : ownB K x bmB newId B initId fs = true) : OwnX K mg x bmB newId B initId fs := by
  obtain ⟨c1, c⟩ := He.ba c
  obtain ⟨c2, c⟩ := He.ba c
  obtain ⟨c3, c⟩ := He.ba c
  obtain ⟨c4, c5⟩ := He.ba c
  exact ⟨W.mg_of X G (He.eqO_ok c2), xmkB_ok c1, fun f hf => He.eqO_ok (List.all_eq_true.mp c3 f hf), valB_ok c4, xisB_ok c5⟩
def rowB (K : W.Frag) (C : Addr) (us : List Value) (bs : List Bool) : Bool := decide (us.map (W.kitOne K (.ref C)) = bs.map some)
theorem rowB_ok {K : W.Frag} {C : Addr} {us : List Value} {bs : List Bool} (h : rowB K C us bs = true) : Row K C us bs := of_decide_eq_true (p := us.map (W.kitOne K (.ref C)) = bs.map some) h
def tabB (K : W.Frag) (C : Addr) (i : Nat) : Bool := xisB K C && (rowB K C (ownU K) (ownR i 16) && (match dueR[i]? with
  | some bs => rowB K C (abvU K) bs
  | none => false))
theorem tabB_ok {K : W.Frag} {C : Addr} {i : Nat} (h : tabB K C i = true) : Tab K C i := by
  obtain ⟨h1, h⟩ := He.ba h
  obtain ⟨h2, h3⟩ := He.ba h
  refine ⟨xisB_ok h1, rowB_ok h2, ?_⟩
  cases e : dueR[i]? with
  | none =>
    rw [e] at h3
    cases h3
  | some bs =>
    rw [e] at h3
    exact ⟨bs, rfl, rowB_ok h3⟩
def tabsB (K : W.Frag) : Bool := (List.range 16).all fun i => match (aCls K)[i]? with
  | some C => tabB K C i
  | none => false
theorem tabsB_ok {K : W.Frag} (h : tabsB K = true) : ∀ i C, (aCls K)[i]? = some C → Tab K C i := fun i C e => by
  have hi : i < 16 := (List.getElem?_eq_some_iff.mp e).1
  have z := List.all_eq_true.mp h i (List.mem_range.mpr hi)
  rw [e] at z
  exact tabB_ok z
def exB (K : W.Frag) : Bool := ([("EverError" : Str), ("InvalidName" : Str), ("InvalidShape" : Str), ("InvalidZone" : Str), ("InvalidTimes" : Str), ("InvalidTable" : Str), ("InvalidFormula" : Str), ("InvalidBook" : Str), ("InvalidOperation" : Str), ("InvalidEdit" : Str), ("ParseError" : Str), ("InvalidCommand" : Str)].all fun x => msgB K x) && (ownB K "InvalidNumber" bmInvalidNumber "IndexError.__new__" "IndexError" "IndexError.__init__" ["value"] && ownB K "UnknownName" bmUnknownName "LookupError.__new__" "KeyError" "KeyError.__init__" ["name"] && ownB K "TooMany" bmTooMany "OverflowError.__new__" "OverflowError" "OverflowError.__init__" ["limit"] && ownB K "Broken" bmBroken "RuntimeError.__new__" "RuntimeError" "RuntimeError.__init__" ["rule", "row"] && ownB K "NothingToUndo" bmNothingToUndo "LookupError.__new__" "LookupError" "LookupError.__init__" ["many"] && (tabsB K && (xisB K (He.ga K "EverError") && (rowB K (He.ga K "EverError") (ownU K) (List.replicate 16 false) && rowB K (He.ga K "EverError") (abvU K) dMsg))))
abbrev R : W.OpenRow := W.OpenLaw.row PySem.Challenge.rw_everwhen_k00_errors_and_their_classes
abbrev hk : W.Hook := He.hookX 5 fa fn [] [] exB
def ob (s : W.SharedT) : He.AlX := He.obsX 5 fa fn [] [] exB (HandSHeadRun.getT s)
theorem ob_eq (s : W.SharedT) : ob s = hk.obs s.abs := He.obsX_eq (HandSHeadRun.getT_eq s)
def loose : List Str := ["__name__", "EverError", "InvalidName", "InvalidShape", "InvalidZone", "InvalidTimes", "InvalidTable", "InvalidFormula", "InvalidBook", "InvalidOperation", "InvalidEdit", "ParseError", "InvalidCommand", "InvalidNumber", "UnknownName", "TooMany", "Broken", "NothingToUndo", "_law_dice", "_law_roll", "_law_pick", "_law_word", "_law_number", "_law_count", "_law_name", "_law_value", "_law_with_message", "_law_own", "_law_above", "_law_above_due", "_law_lot_right", "_law_right"]
theorem run (w : World) : HandSHeadRun.RunEq R (W.view R.prog [33]) hk ob 6000 loose w := by
  intro os
  kernel_rfl
end K00
end

section
set_option maxHeartbeats 0
namespace K00
open PySem PySem.Spec PyProof.Rows L2 EW
theorem facts {P : Program} {w : World} {K : W.Frag} {h h0 : Heap} {mg : Str → Option Value} {f : Addr} (X : K.In h) (G : h.Ns mainGlobals mg) (hfa : mg ("law" : Str) = some (.ref f)) (c : He.SaysX fa fn [] [] exB w h0 K) :
    ∃ fd : FuncData, (∀ (s : Shared) (v : Value), BindsTo s fd ⟨[v], []⟩ [("_law_script", v)]) ∧ ∀ base : Heap, K.In base → base.Ns mainGlobals mg → FnG P w K mg base CX0 6 f fd ["_law_script"] (spLaw K) := by
  have cd := c.t.d
  obtain ⟨x1, x2⟩ := He.ba c.more
  obtain ⟨x2, x3⟩ := He.ba x2
  obtain ⟨x3, x4⟩ := He.ba x3
  obtain ⟨x4, x5⟩ := He.ba x4
  obtain ⟨x5, x6⟩ := He.ba x5
  obtain ⟨x2, y5⟩ := He.ba x2
  obtain ⟨x2, y4⟩ := He.ba x2
  obtain ⟨x2, y3⟩ := He.ba x2
  obtain ⟨y1, y2⟩ := He.ba x2
  have ms : ∀ x, x ∈ (["EverError", "InvalidName", "InvalidShape", "InvalidZone", "InvalidTimes", "InvalidTable", "InvalidFormula", "InvalidBook", "InvalidOperation", "InvalidEdit", "ParseError", "InvalidCommand"] : List Str) → MsgC K mg x := fun x hx => msgB_ok X G (List.all_eq_true.mp x1 x hx)
  have M : Msgs K mg := ⟨ms _ (by simp), ms _ (by simp), ms _ (by simp), ms _ (by simp), ms _ (by simp), ms _ (by simp), ms _ (by simp), ms _ (by simp), ms _ (by simp), ms _ (by simp), ms _ (by simp), ms _ (by simp)⟩
  have OX : OwnXs K mg := ⟨ownB_ok X G y1, ownB_ok X G y2, ownB_ok X G y3, ownB_ok X G y4, ownB_ok X G y5⟩
  have O : Owns K mg := ⟨⟨OX.InvalidNumber.g⟩, ⟨OX.UnknownName.g⟩, ⟨OX.TooMany.g⟩, ⟨OX.Broken.g⟩, ⟨OX.NothingToUndo.g⟩⟩
  have tab := tabsB_ok x3
  have E1 : TabE K := ⟨xisB_ok x4, rowB_ok x5, rowB_ok x6⟩
  have f_len : mg "len" = none := He.free_ok X G (cd.fact 15 (f := .free "len") rfl)
  have f_int : mg "int" = none := He.free_ok X G (cd.fact 16 (f := .free "int") rfl)
  have f_abs : mg "abs" = none := He.free_ok X G (cd.fact 17 (f := .free "abs") rfl)
  have f_max : mg "max" = none := He.free_ok X G (cd.fact 18 (f := .free "max") rfl)
  have f_min : mg "min" = none := He.free_ok X G (cd.fact 19 (f := .free "min") rfl)
  have f_range : mg "range" = none := He.free_ok X G (cd.fact 20 (f := .free "range") rfl)
  have f_enumerate : mg "enumerate" = none := He.free_ok X G (cd.fact 21 (f := .free "enumerate") rfl)
  have f_isinstance : mg "isinstance" = none := He.free_ok X G (cd.fact 22 (f := .free "isinstance") rfl)
  have f_repr : mg "repr" = none := He.free_ok X G (cd.fact 23 (f := .free "repr") rfl)
  have f_ValueError : mg "ValueError" = none := He.free_ok X G (cd.fact 24 (f := .free "ValueError") rfl)
  have f_LookupError : mg "LookupError" = none := He.free_ok X G (cd.fact 25 (f := .free "LookupError") rfl)
  have f_IndexError : mg "IndexError" = none := He.free_ok X G (cd.fact 26 (f := .free "IndexError") rfl)
  have f_KeyError : mg "KeyError" = none := He.free_ok X G (cd.fact 27 (f := .free "KeyError") rfl)
  have f_OverflowError : mg "OverflowError" = none := He.free_ok X G (cd.fact 28 (f := .free "OverflowError") rfl)
  have f_RuntimeError : mg "RuntimeError" = none := He.free_ok X G (cd.fact 29 (f := .free "RuntimeError") rfl)
  have T : Fre mg := ⟨f_len, f_int, f_abs, f_max, f_min, f_range, f_enumerate, f_isinstance, f_repr⟩
  have TE : FreE mg := ⟨T, f_ValueError, f_LookupError, f_IndexError, f_KeyError, f_OverflowError, f_RuntimeError⟩
  obtain ⟨fd_law_dice, F_law_dice⟩ := cd.def_ 0
  have g_law_dice : mg "_law_dice" = some (.ref (He.ga K "_law_dice")) := He.glo_ok X G (cd.fact 0 (f := .glo "_law_dice") rfl)
  have b_law_dice := FunD.bindsN (ps := ["_law_script", "_law_spot"]) F_law_dice fun _ _ _ _ _ _ us hl => match us, hl with | [_, _], _ => rfl
  obtain ⟨fd_law_roll, F_law_roll⟩ := cd.def_ 1
  have g_law_roll : mg "_law_roll" = some (.ref (He.ga K "_law_roll")) := He.glo_ok X G (cd.fact 1 (f := .glo "_law_roll") rfl)
  have b_law_roll := FunD.bindsN (ps := ["_law_dice_here", "_law_many"]) F_law_roll fun _ _ _ _ _ _ us hl => match us, hl with | [_, _], _ => rfl
  obtain ⟨fd_law_pick, F_law_pick⟩ := cd.def_ 2
  have g_law_pick : mg "_law_pick" = some (.ref (He.ga K "_law_pick")) := He.glo_ok X G (cd.fact 2 (f := .glo "_law_pick") rfl)
  have b_law_pick := FunD.bindsN (ps := ["_law_dice_here", "_law_items"]) F_law_pick fun _ _ _ _ _ _ us hl => match us, hl with | [_, _], _ => rfl
  obtain ⟨fd_law_word, F_law_word⟩ := cd.def_ 3
  have g_law_word : mg "_law_word" = some (.ref (He.ga K "_law_word")) := He.glo_ok X G (cd.fact 3 (f := .glo "_law_word") rfl)
  have b_law_word := FunD.bindsN (ps := ["_law_dice_here"]) F_law_word fun _ _ _ _ _ _ us hl => match us, hl with | [_], _ => rfl
  obtain ⟨fd_law_number, F_law_number⟩ := cd.def_ 4
  have g_law_number : mg "_law_number" = some (.ref (He.ga K "_law_number")) := He.glo_ok X G (cd.fact 4 (f := .glo "_law_number") rfl)
  have b_law_number := FunD.bindsN (ps := ["_law_dice_here"]) F_law_number fun _ _ _ _ _ _ us hl => match us, hl with | [_], _ => rfl
  obtain ⟨fd_law_count, F_law_count⟩ := cd.def_ 5
  have g_law_count : mg "_law_count" = some (.ref (He.ga K "_law_count")) := He.glo_ok X G (cd.fact 5 (f := .glo "_law_count") rfl)
  have b_law_count := FunD.bindsN (ps := ["_law_dice_here"]) F_law_count fun _ _ _ _ _ _ us hl => match us, hl with | [_], _ => rfl
  obtain ⟨fd_law_name, F_law_name⟩ := cd.def_ 6
  have g_law_name : mg "_law_name" = some (.ref (He.ga K "_law_name")) := He.glo_ok X G (cd.fact 6 (f := .glo "_law_name") rfl)
  have b_law_name := FunD.bindsN (ps := ["_law_dice_here"]) F_law_name fun _ _ _ _ _ _ us hl => match us, hl with | [_], _ => rfl
  obtain ⟨fd_law_value, F_law_value⟩ := cd.def_ 7
  have g_law_value : mg "_law_value" = some (.ref (He.ga K "_law_value")) := He.glo_ok X G (cd.fact 7 (f := .glo "_law_value") rfl)
  have b_law_value := FunD.bindsN (ps := ["_law_dice_here"]) F_law_value fun _ _ _ _ _ _ us hl => match us, hl with | [_], _ => rfl
  obtain ⟨fd_law_with_message, F_law_with_message⟩ := cd.def_ 8
  have g_law_with_message : mg "_law_with_message" = some (.ref (He.ga K "_law_with_message")) := He.glo_ok X G (cd.fact 8 (f := .glo "_law_with_message") rfl)
  have b_law_with_message := FunD.bindsN (ps := ["_law_word_here"]) F_law_with_message fun _ _ _ _ _ _ us hl => match us, hl with | [_], _ => rfl
  obtain ⟨fd_law_own, F_law_own⟩ := cd.def_ 9
  have g_law_own : mg "_law_own" = some (.ref (He.ga K "_law_own")) := He.glo_ok X G (cd.fact 9 (f := .glo "_law_own") rfl)
  have b_law_own := FunD.bindsN (ps := ["_law_thing"]) F_law_own fun _ _ _ _ _ _ us hl => match us, hl with | [_], _ => rfl
  obtain ⟨fd_law_above, F_law_above⟩ := cd.def_ 10
  have g_law_above : mg "_law_above" = some (.ref (He.ga K "_law_above")) := He.glo_ok X G (cd.fact 10 (f := .glo "_law_above") rfl)
  have b_law_above := FunD.bindsN (ps := ["_law_thing"]) F_law_above fun _ _ _ _ _ _ us hl => match us, hl with | [_], _ => rfl
  obtain ⟨fd_law_above_due, F_law_above_due⟩ := cd.def_ 11
  have g_law_above_due : mg "_law_above_due" = some (.ref (He.ga K "_law_above_due")) := He.glo_ok X G (cd.fact 11 (f := .glo "_law_above_due") rfl)
  have b_law_above_due := FunD.bindsN (ps := []) F_law_above_due fun _ _ _ _ _ _ us hl => match us, hl with | [], _ => rfl
  obtain ⟨fd_law_lot_right, F_law_lot_right⟩ := cd.def_ 12
  have g_law_lot_right : mg "_law_lot_right" = some (.ref (He.ga K "_law_lot_right")) := He.glo_ok X G (cd.fact 12 (f := .glo "_law_lot_right") rfl)
  have b_law_lot_right := FunD.bindsN (ps := ["_law_lot"]) F_law_lot_right fun _ _ _ _ _ _ us hl => match us, hl with | [_], _ => rfl
  obtain ⟨fd_law_right, F_law_right⟩ := cd.def_ 13
  have g_law_right : mg "_law_right" = some (.ref (He.ga K "_law_right")) := He.glo_ok X G (cd.fact 13 (f := .glo "_law_right") rfl)
  have b_law_right := FunD.bindsN (ps := ["_law_dice_here"]) F_law_right fun _ _ _ _ _ _ us hl => match us, hl with | [_], _ => rfl
  obtain ⟨fd_law, F_law⟩ := cd.def_ 14
  have g_law : mg "law" = some (.ref (He.ga K "law")) := He.glo_ok X G (cd.fact 14 (f := .glo "law") rfl)
  obtain ⟨fdIInvalidNumber, FIInvalidNumber⟩ := cd.def_ 15
  have bIInvalidNumber := FunD.bindsN (ps := ["self", "value"]) FIInvalidNumber fun _ _ _ _ _ _ us hl => match us, hl with | [_, _], _ => rfl
  obtain ⟨fdIUnknownName, FIUnknownName⟩ := cd.def_ 16
  have bIUnknownName := FunD.bindsN (ps := ["self", "name"]) FIUnknownName fun _ _ _ _ _ _ us hl => match us, hl with | [_, _], _ => rfl
  obtain ⟨fdITooMany, FITooMany⟩ := cd.def_ 17
  have bITooMany := FunD.bindsN (ps := ["self", "limit"]) FITooMany fun _ _ _ _ _ _ us hl => match us, hl with | [_, _], _ => rfl
  obtain ⟨fdIBroken, FIBroken⟩ := cd.def_ 18
  have bIBroken := FunD.bindsN (ps := ["self", "rule", "row"]) FIBroken fun _ _ _ _ _ _ us hl => match us, hl with | [_, _, _], _ => rfl
  obtain ⟨fdINothingToUndo, FINothingToUndo⟩ := cd.def_ 19
  have bINothingToUndo := FunD.bindsN (ps := ["self", "many"]) FINothingToUndo fun _ _ _ _ _ _ us hl => match us, hl with | [_, _], _ => rfl
  have e := hfa.symm.trans g_law
  cases e
  have bl := FunD.bindsA (ps := ["_law_script"]) F_law fun _ _ _ _ _ _ us hl => match us, hl with | [_], _ => rfl
  refine ⟨fd_law, fun s v => bl s [v] rfl, fun base _ _ => ?_⟩
  have D_law_roll : Df P w K mg base 1 "_law_roll" ["_law_dice_here", "_law_many"] spRoll := ⟨⟨_, ok_roll F_law_roll T, b_law_roll⟩, F_law_roll.kp, g_law_roll⟩
  have D_law_dice : Df P w K mg base 1 "_law_dice" ["_law_script", "_law_spot"] (spDice K) := ⟨⟨_, ok_dice F_law_dice T, b_law_dice⟩, F_law_dice.kp, g_law_dice⟩
  have D_law_pick : Df P w K mg base 2 "_law_pick" ["_law_dice_here", "_law_items"] (spPick K) := ⟨⟨_, ok_pick F_law_pick T D_law_roll, b_law_pick⟩, F_law_pick.kp, g_law_pick⟩
  have D_law_word : Df P w K mg base 2 "_law_word" ["_law_dice_here"] spWord := ⟨⟨_, ok_word F_law_word T D_law_roll, b_law_word⟩, F_law_word.kp, g_law_word⟩
  have D_law_name : Df P w K mg base 2 "_law_name" ["_law_dice_here"] spWord := ⟨⟨_, ok_name F_law_name T D_law_roll, b_law_name⟩, F_law_name.kp, g_law_name⟩
  have D_law_number : Df P w K mg base 3 "_law_number" ["_law_dice_here"] spNumber := ⟨⟨_, ok_number F_law_number D_law_roll D_law_pick, b_law_number⟩, F_law_number.kp, g_law_number⟩
  have D_law_count : Df P w K mg base 3 "_law_count" ["_law_dice_here"] spCount := ⟨⟨_, ok_count F_law_count D_law_roll D_law_pick, b_law_count⟩, F_law_count.kp, g_law_count⟩
  have D_law_value : Df P w K mg base 4 "_law_value" ["_law_dice_here"] (spValue K) := ⟨⟨_, ok_value F_law_value D_law_word D_law_number D_law_pick, b_law_value⟩, F_law_value.kp, g_law_value⟩
  have D_law_with_message : Df P w K mg base 1 "_law_with_message" ["_law_word_here"] (spMsg K) := ⟨⟨_, ok_msg F_law_with_message M, b_law_with_message⟩, F_law_with_message.kp, g_law_with_message⟩
  have D_law_own : Df P w K mg base 1 "_law_own" ["_law_thing"] (spOwn K) := ⟨⟨_, ok_own F_law_own T M O, b_law_own⟩, F_law_own.kp, g_law_own⟩
  have D_law_above : Df P w K mg base 1 "_law_above" ["_law_thing"] (spAbove K) := ⟨⟨_, ok_above F_law_above TE M O, b_law_above⟩, F_law_above.kp, g_law_above⟩
  have D_law_above_due : Df P w K mg base 1 "_law_above_due" [] spDue := ⟨⟨_, ok_due F_law_above_due T, b_law_above_due⟩, F_law_above_due.kp, g_law_above_due⟩
  have D_law_lot_right : Df P w K mg base 2 "_law_lot_right" ["_law_lot"] (spLot K (aCls K)) := ⟨⟨_, ok_lot F_law_lot_right T D_law_own D_law_above D_law_above_due, b_law_lot_right⟩, F_law_lot_right.kp, g_law_lot_right⟩
  have IInvalidNumber : InitOk P w K mg base "InvalidNumber" bmInvalidNumber "IndexError.__new__" ["self", "value"] 1 mkInvalidNumber := ⟨⟨_, ok_in_InvalidNumber FIInvalidNumber OX.InvalidNumber f_IndexError, bIInvalidNumber⟩, mkr_InvalidNumber⟩
  have IUnknownName : InitOk P w K mg base "UnknownName" bmUnknownName "LookupError.__new__" ["self", "name"] 1 mkUnknownName := ⟨⟨_, ok_in_UnknownName FIUnknownName OX.UnknownName f_KeyError, bIUnknownName⟩, mkr_UnknownName⟩
  have ITooMany : InitOk P w K mg base "TooMany" bmTooMany "OverflowError.__new__" ["self", "limit"] 1 mkTooMany := ⟨⟨_, ok_in_TooMany FITooMany OX.TooMany f_OverflowError, bITooMany⟩, mkr_TooMany⟩
  have IBroken : InitOk P w K mg base "Broken" bmBroken "RuntimeError.__new__" ["self", "rule", "row"] 2 mkBroken := ⟨⟨_, ok_in_Broken FIBroken OX.Broken f_RuntimeError, bIBroken⟩, mkr_Broken⟩
  have INothingToUndo : InitOk P w K mg base "NothingToUndo" bmNothingToUndo "LookupError.__new__" ["self", "many"] 1 mkNothingToUndo := ⟨⟨_, ok_in_NothingToUndo FINothingToUndo OX.NothingToUndo f_LookupError, bINothingToUndo⟩, mkr_NothingToUndo⟩
  have GR : FnG P w K mg base CX0 5 (He.ga K "_law_right") fd_law_right ["_law_dice_here"] spRight := ok_right F_law_right T OX tab IInvalidNumber IUnknownName ITooMany IBroken INothingToUndo D_law_value D_law_count D_law_name D_law_word D_law_number D_law_pick D_law_lot_right D_law_with_message
  exact ok_law F_law T M E1 D_law_dice GR g_law_right F_law_right.kp b_law_right D_law_own D_law_above D_law_above_due
end K00
open PySem PySem.W PySem.Calls PyProof.Rows
theorem PySem.Challenge.cw_everwhen_k00_errors_and_their_classes_holds : PySem.Challenge.rw_everwhen_k00_errors_and_their_classes.Holds := by
  w_on; o_law
  refine HandSHeadRun.head_any (r := OpenLaw.row PySem.Challenge.rw_everwhen_k00_errors_and_their_classes) (q := view (OpenLaw.row PySem.Challenge.rw_everwhen_k00_errors_and_their_classes).prog [33]) (H := K00.hk) (ob := K00.ob) (M := 6000) (loose := K00.loose) (d := HandSHeadRun.topDef (OpenLaw.row PySem.Challenge.rw_everwhen_k00_errors_and_their_classes).prog 33) (kwd := []) K00.ob_eq
    (by kernel_rfl) (fun s => by kernel_rfl) K00.run (by kernel_rfl) (by kernel_rfl) (by kernel_rfl) (by rfl) (by first | assumption | decide +kernel) (by decide +kernel) ⟨rfl, rfl, rfl, rfl, rfl, by decide +kernel⟩ ?hw ?hc
  case hw => w_witness2
  case hc =>
    refine EW.walkG (l := PySem.Challenge.rw_everwhen_k00_errors_and_their_classes) (n := 63) (k := 6) (x := "_law_script") (CX := L2.CX0) rfl (by decide) (by kernel_rfl) ⟨rfl, by decide, by decide⟩ ?F (fun _ _ _ _ z => z)
    intro w mg fa h Y G hmg0
    obtain ⟨K, KX, c⟩ := Y
    have hmg : mg ("law" : PySem.Str) = some (.ref fa) := by
      have e : (HandSHeadRun.topDef (OpenLaw.row PySem.Challenge.rw_everwhen_k00_errors_and_their_classes).prog 33).name = ("law" : PySem.Str) := by kernel_rfl
      rw [← e]
      exact hmg0
    obtain ⟨fd, hb, hF⟩ := K00.facts (P := (PySem.Challenge.rw_everwhen_k00_errors_and_their_classes).prog) (w := w) KX G hmg c
    exact ⟨K, fd, K00.spLaw K, KX, hb, fun H a ns hl _ hS => ⟨a, ns, rfl, hS, hl, fun _ => rfl⟩, hF⟩
end
