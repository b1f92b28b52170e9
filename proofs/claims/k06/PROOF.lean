import PyProof.Rows.All
import Wide.All
import OpenK.AllK
import Wide.FinOn
import PyProof.ReprReads
import KE.KExcInit
import KE.KExcIs
import HandS.ForMost
import HandS.Exc
import HandS.ExcOwn
import HandS.ExcValue
import HandS.ExcInit
import HandS.IsInst
import HandS.Wide
import HandS.Flow
import HandS.Defaults
import PyProof.ReprRoads
import HandS.EndBits
import HandS.HeadHook1
import HandS.HeadHook2
import HandS.HeadHook3
import HandS.HeadHook4
import HandS.Walk
import HandS.OwnEq
import HandS.Small
import OpenK.KMeth
import OpenK.KOps
import HandS.More
import PyProof.Rows.Range3
import HandS.SortKw
import HandS.Star
import HandS.Conv
import HandS.SortInts
import HandS.ClsMeth
import HandS.Property
import HandS.CallLocal
import HandS.SetFor
import HandS.Strs
import HandS.TryOnly
import HandS.List
import HandS.Style
import HandS.Iter
import HandS.GenList
import KE.GoesRev
import PyProof.ZipIter
import HandS.HeadNt
import KE.KStateDown
import Lean
import HandS.Head0
import HandS.Head1
import HandS.Head2
import HandS.HeadEnd
import PySem.Challenge.RW_everwhen_k06_whole_rows_of_operations
set_option Elab.async false
set_option linter.all false
set_option maxRecDepth 100000
section
set_option maxHeartbeats 4000000
/-! Own exception classes over any built-in base, also one whose __new__ is its base's (KeyError): made, stored into, asked -/
namespace EW
open PySem PySem.Spec PyProof.Rows L2 PySem.HandSPX
abbrev keBases : List Value := [.type "KeyError", .type "LookupError", .type "Exception", .type "BaseException", .type "object"]
theorem keStore : StoreFacts "KeyError" keBases "object.__setattr__" "object" where
  mro := by kernel_rfl
  slot := .of (owner := "object") (n := "__setattr__")
    (by rw [typeLookup_type, builtinLookup_eq_fast]; kernel_rfl) (by decide +kernel) (by decide +kernel) (by decide +kernel)
    (by first | exact .inl (by decide +kernel) | exact .inr (by decide +kernel)) (by rw [isSubtype_type]; kernel_rfl)
  entry := F.entry_object_sa
  kind := by decide +kernel
  split := by decide +kernel
  hasOwner := by decide +kernel
  args := fun a b c => by
    unfold argsOk
    kernel_rfl
  passes := fun self => by kernel_rfl
/-- what a class of the mro bm must have, so that newId of Bn makes its instances -/
structure NewOk (C : Addr) (bm : List Value) (Bn : String) : Prop where
  has : (Value.ref C :: bm).contains (.type Bn) = true
  noA : (Value.ref C :: bm).contains (.type "AttributeError") = false
  noN : (Value.ref C :: bm).contains (.type "NameError") = false
section
variable {prog : Program} {w : World} {A : Around} {E : Value → Shared → Prop} {R : Result → Shared → Prop} {hp : Heap} {gs : Array GenState} {dr : Drawn} {tk : Nat} {os : OsState}
variable {nm qn : Str} {C nsp : Addr} {bs bm bmN : List Value} {hdc : Bool} {sn : List Str} {sub : List Value} {ab : Bool} {col : Option Bool} {dd : Option Addr} {k0 k1 k2 k3 k5 : Option Value} {Bn newId inN : String}
theorem chk_new {M : Model} (Fn : ExcBaseFacts Bn newId inN bmN) (O : NewOk C bm Bn) {rest : List Value} {Q : Unit → Shared → Prop}
    (hC : hp.get? C = some (excClassObj nm qn C nsp bs bm hdc sn sub ab col dd k0 k1 k2 k3 k5 newId)) (z : Q () ⟨hp, gs, dr, tk, os⟩) :
    wpAny M A (checkBuiltinCall newId ⟨.ref C :: rest, []⟩) Q E ⟨hp, gs, dr, tk, os⟩ := by
  have h1 := O.has
  have h2 := Fn.noStar
  simp only [checkBuiltinCall, Fn.newKind, Fn.newSplit, Fn.newRow]
  repeat (first
    | refine wpAny_loadPart_at hC ?_
    | (refine wpAny_isSubtype_exc hC ?_; rw [h1])
    | refine wpAny_staticBase_exc hC ?_
    | refine wpAny_madeBy_exc hC ?_
    | simp only [bne_self_eq_false, Bool.false_eq_true, if_false]
    | wp_step)
  exact z
theorem run_new (Fn : ExcBaseFacts Bn newId inN bmN) (O : NewOk C bm Bn) {rest : List Value}
    (hC : hp.get? C = some (excClassObj nm qn C nsp bs bm hdc sn sub ab col dd k0 k1 k2 k3 k5 newId))
    (z : R (.ok (.ret (.ref (hp.objs.size + 1)))) ⟨(hp.push (W.kdv_tup rest)).push (excO C hp.objs.size), gs, dr, tk, os⟩) (hz : rest.length ≤ sizeLine) :
    codeAny (model prog w) A (.builtin newId ⟨.ref C :: rest, []⟩) R ⟨hp, gs, dr, tk, os⟩ := by
  have h0 := Fn.ends
  have h1 := O.has
  have h2 := O.noA
  have h3 := O.noN
  refine codeAny_builtinAt Fn.entry ?_
  unfold Builtin.«BaseException.__new__»
  refine PySem.wpAt_bind ?_
  show PySem.wpAt _ _ _ (stack >>= _) _ _ _
  refine PySem.wpAt_bind (PySem.wpAt_stack fun p below => PySem.wpAt_of_wpAny ?_)
  wp_walk
  refine PySem.wpAt_of_wpAny ?_
  rw [Fn.owner]
  repeat (first
    | with_reducible refine wpAny_madeHere_exc Fn.canon hC ?_
    | with_reducible refine wpAny_loadPart_at hC ?_
    | (with_reducible refine wpAny_isSubtype_exc hC ?_; first | rw [h1] | rw [h2] | rw [h3])
    | wp_step)
  show R _ _
  rw [Heap.size_push]
  exact z
theorem run_typeCall (Fn : ExcBaseFacts Bn newId inN bmN) (O : NewOk C bm Bn) {rest : List Value} {fI : Addr} {Q : Fin → Shared → Prop}
    (hC : hp.get? C = some (excClassObj nm qn C nsp bs bm hdc sn sub ab col dd k0 k1 k2 k3 k5 newId))
    (hi : W.Looks (model prog w) hp (typeLookup (.ref C) "__init__") (some (.ref fI))) (hb : ∀ self, W.Looks (model prog w) hp (bindSpecial (.ref fI) self) (.ref fI, [self])) (hz : rest.length ≤ sizeLine)
    (z : codeAny (model prog w) A (.call (.ref fI) ⟨.ref (hp.objs.size + 1) :: rest, []⟩)
      (fun r s' => match r with | .ok (.ret v) => v = .none ∧ Q (.done (.ret (.ref (hp.objs.size + 1)))) s' | .ok _ => False | .error e => E e s')
      ⟨(hp.push (W.kdv_tup rest)).push (excO C hp.objs.size), gs, dr, tk, os⟩) :
    wpAny (model prog w) A (Builtin.«type.__call__» ⟨.ref C :: rest, []⟩) Q E ⟨hp, gs, dr, tk, os⟩ := by
  repeat (first
    | with_reducible refine wpAny_loadPart_at hC ?_
    | with_reducible refine wpAny_madeBy_exc hC ?_
    | wp_step)
  refine codeAny_call_builtin_code (Code.quiet_builtin _ Fn.quiet) (chk_new Fn O hC ?_)
  refine run_new Fn O hC ?_ hz
  show wpAny _ _ _ _ _ _
  have kk : ∀ b o, hp.get? b = some o → ((hp.push (W.kdv_tup rest)).push (excO C hp.objs.size)).get? b = some o :=
    fun b o e => Heap.get?_push_of_some _ (Heap.get?_push_of_some _ e)
  have c1 := kk _ _ hC
  have c2 : ((hp.push (W.kdv_tup rest)).push (excO C hp.objs.size)).get? (hp.objs.size + 1) = some (excO C hp.objs.size) := by
    heap_get
  have c3 : (Value.ref C :: bm).contains (.ref C) = true := by
    simp
  have c4 := hi.keeps kk
  have c5 := (hb (.ref (hp.objs.size + 1))).keeps kk
  unfold isInstance
  repeat (first
    | with_reducible refine wpAny_loadPart_at c2 ?_
    | (with_reducible refine wpAny_isSubtype_exc c1 ?_; rw [c3])
    | wp_step)
  show wpAny _ _ (typeLookup (.ref C) _) _ _ _
  refine c4.at ?_
  refine wpAny_holding (wpAny_bind (c5.at ?_))
  refine wpAny_bind (wpAny_call (codeAny_mono z fun r s' y => ?_))
  rcases r with e | (v | _ | _ | _) <;> first | exact y | exact y.elim | skip
  obtain ⟨rfl, y⟩ := y
  first
    | exact wpAny_pure (wpAny_pure y)
    | (wp_walk; exact y)
theorem run_make (Fn : ExcBaseFacts Bn newId inN bmN) (O : NewOk C bm Bn) {rest : List Value} {fI : Addr}
    (hC : hp.get? C = some (excClassObj nm qn C nsp bs bm hdc sn sub ab col dd k0 k1 k2 k3 k5 newId))
    (hi : W.Looks (model prog w) hp (typeLookup (.ref C) "__init__") (some (.ref fI))) (hb : ∀ self, W.Looks (model prog w) hp (bindSpecial (.ref fI) self) (.ref fI, [self])) (hz : rest.length ≤ sizeLine)
    (z : codeAny (model prog w) (A.under (.builtin "type.__call__" ⟨.ref C :: rest, []⟩)) (.call (.ref fI) ⟨.ref (hp.objs.size + 1) :: rest, []⟩) (W.InitBack (hp.objs.size + 1) R)
      ⟨(hp.push (W.kdv_tup rest)).push (excO C hp.objs.size), gs, dr, tk, os⟩) :
    codeAny (model prog w) A (.call (.ref C) ⟨rest, []⟩) R ⟨hp, gs, dr, tk, os⟩ := by
  have f1 := tc_lookup
  have f2 := tc_bind (.ref C)
  have f3 : (⟨hp, gs, dr, tk, os⟩ : Shared).TypeIs (.ref C) "type" := ⟨_, hC, rfl⟩
  refine codeAny_of_tree ?_
  show wpAny _ _ (callAny (.ref C) _) _ _ _
  repeat (any_goals (first
    | assumption
    | with_reducible refine wpAny_loadPart_at hC ?_
    | wp_step))
  refine ⟨rfl, ?_⟩
  refine codeAny_call_builtin_at (Code.quiet_builtin _ (by decide +kernel)) entry_typeCall
    (wpAny_check_type_call_sub hC (run_typeCall Fn O hC hi hb hz ?_))
  refine codeAny_mono z fun r s' y => ?_
  rcases r with e | (v | _ | _ | _) <;> exact y
/-- B.__init__(e, ..) of an instance of an own class over B -/
theorem run_init {B nid initId : String} (Fi : ExcClass B nid initId) (hB : (Value.ref C :: bm).contains (.type B) = true) {e t0 : Addr} {rest : List Value}
    (hC : hp.get? C = some (excClassObj nm qn C nsp bs bm hdc sn sub ab col dd k0 k1 k2 k3 k5 newId)) (he : hp.get? e = some (excO C t0)) (hz : rest.length ≤ sizeLine)
    (z : ∀ h' t1, (∀ b o, b ≠ e → hp.get? b = some o → h'.get? b = some o) → h'.get? e = some (excO C t1) → R (.ok (.ret .none)) ⟨h', gs, dr, tk, os⟩) :
    codeAny (model prog w) A (.call (.builtin initId) ⟨.ref e :: rest, []⟩) R ⟨hp, gs, dr, tk, os⟩ := by
  have hs := Fi.notStar
  refine codeAny_call_builtin Fi.init.plain Fi.initEntry ?_
  have chk : ∀ {Q : Unit → Shared → Prop} {A' : Around} {E' : Value → Shared → Prop}, Q () ⟨hp, gs, dr, tk, os⟩ → wpAny (model prog w) A' (checkBuiltinCall initId ⟨.ref e :: rest, []⟩) Q E' ⟨hp, gs, dr, tk, os⟩ := by
    intro Q A' E' y
    simp only [checkBuiltinCall, Fi.initKind, Fi.initSplit, Fi.initSig]
    repeat (first
      | with_reducible refine wpAny_loadPart_at he ?_
      | with_reducible refine wpAny_loadPart_at hC ?_
      | (with_reducible refine wpAny_isSubtype_exc hC ?_; rw [hB])
      | wp_step)
    refine wpAny_onRaise ?_
    rw [show ∀ (a b : String) (n : Nat), Bind.check ⟨.positional, "*", B, .self, [⟨"args", .varPos, false⟩]⟩ a b n (List.map (fun x => x.fst) ({ pos := Value.ref e :: rest } : Args).kw) = pure () from
      fun a b n => check_star_args _ _ _ _ _ _]
    exact wpAny_pure y
  refine chk ?_
  wp_walk
  refine z _ hp.objs.size (fun b o hb ho => ?_) ?_
  · rw [Heap.get?_update_other _ _ (Ne.symm hb)]
    exact Heap.get?_push_of_some _ ho
  · rw [Heap.get?_update_self _ (Heap.get?_push_of_some _ he) rfl]
    rfl
end
end EW
end

section
set_option maxHeartbeats 4000000
namespace EW
open PySem PySem.Spec PyProof.Rows L2 PySem.HandSPX
/-! ### stores into an exception, over the heap -/
section
open Builtin Builtin.ObjectAttr
variable {prog : Program} {w : World} {A : Around} {E : Value → Shared → Prop} {R : Result → Shared → Prop} {hp : Heap} {gs : Array GenState} {dr : Drawn} {tk : Nat} {os : OsState} {K : W.Frag} {B : String} {bmB : List Value}
theorem taker_none {C : Addr} {f : Str} (h : W.findIn K (.ref C) f = some none) : W.takerIn K C f = some none := by
  unfold W.takerIn
  rw [h]
  rfl
/-- the first field: the object gets its dict -/
theorem sto_new {f : Str} {ft : Tok} {v : Value} {x C : Addr} {fv : Array Value} {cd : ClassData} (SF : StoreFacts B bmB "object.__setattr__" "object") (X : K.In hp)
    (hx : hp.get? x = some { cls := .ref C, data := .fields fv }) (hov : W.excOver K C bmB = true) (hcd : W.clsIn K C = some cd) (hh : cd.hasDict = true) (ha : W.findIn K (.ref C) f = some none)
    (z : ∀ h' t' dx, (∀ b o, b ≠ x → hp.get? b = some o → h'.get? b = some o) → hp.objs.size ≤ dx → dx ≠ x → h'.get? x = some { cls := .ref C, dict := some dx, data := .fields fv } →
      h'.Ns1 dx (fun y => if y = f then some v else none) → R (.ok (.ret .none)) ⟨h', gs, dr, t', os⟩) :
    codeAny (model prog w) A (.call (.builtin "object.__setattr__") ⟨[.ref x, .str f ft, v], []⟩) R ⟨hp, gs, dr, tk, os⟩ := by
  have nx : x ≠ hp.objs.size := Nat.ne_of_lt (Heap.lt_size hx)
  have lk : W.Looks (model prog w) hp (classData C) cd := W.looks_clsIn X hcd
  refine W.osa_openX (s := ⟨hp, gs, dr, tk, os⟩) (r := none) (od := none) SF X ⟨hx, rfl, rfl, trivial⟩ hov (taker_none ha) (fun bb => ?_)
  show wpAny _ _ (storeInOwnDict (.ref x) (.ref C) (.str f ft) f v bb) _ _ _
  obtain ⟨c1, c2, c3, c4, c5, c6, c7, c8, c9, c10, c11⟩ := cd
  dsimp only at hh
  subst hh
  unfold storeInOwnDict ownDictForStores
  repeat (first
    | with_reducible refine store_in_new ?_ ?_
    | with_reducible refine wpAny_loadPart_at hx ?_
    | with_reducible refine lk.at ?_
    | wp_step)
  · exact ⟨_, #[], _, (Heap.get?_update_ne _ _ _ _ nx.symm).trans (Heap.get?_push_at rfl rfl), rfl,
      fun e he => absurd he (by simp), fun _ => rfl⟩
  · intro h' t' hn hs
    have hx1 : (hp.push { cls := .type "dict", data := .dict #[] }).get? x = some { cls := .ref C, data := .fields fv } :=
      Heap.get?_push_of_some _ hx
    refine z h' t' hp.objs.size (fun b o hb ho => ?_) (Nat.le_refl _) nx.symm ?_ hn
    · exact (hs.2 b (Nat.ne_of_lt (Heap.lt_size ho))).trans
        ((Heap.get?_update_ne _ _ _ _ hb).trans (Heap.get?_push_of_some _ ho))
    · exact (hs.2 x nx).trans (Heap.get?_update_self _ hx1 rfl)
/-- a further field -/
theorem sto_old {f : Str} {ft : Tok} {v : Value} {x C dx : Addr} {fv : Array Value} {cd : ClassData} {m0 : Str → Option Value} {nl : List Str} (SF : StoreFacts B bmB "object.__setattr__" "object") (X : K.In hp)
    (hx : hp.get? x = some { cls := .ref C, dict := some dx, data := .fields fv }) (hns : hp.Ns1 dx m0) (hw : Within m0 nl) (hz : nl.length ≤ 1000) (hov : W.excOver K C bmB = true) (hcd : W.clsIn K C = some cd) (hh : cd.hasDict = true) (ha : W.findIn K (.ref C) f = some none)
    (z : ∀ h' t', (∀ b o, b ≠ dx → hp.get? b = some o → h'.get? b = some o) → h'.Ns1 dx (fun y => if y = f then some v else m0 y) → R (.ok (.ret .none)) ⟨h', gs, dr, t', os⟩) :
    codeAny (model prog w) A (.call (.builtin "object.__setattr__") ⟨[.ref x, .str f ft, v], []⟩) R ⟨hp, gs, dr, tk, os⟩ := by
  obtain ⟨oD, esD, epD, hoD, hdD, _⟩ := hns.count hw
  have lk : W.Looks (model prog w) hp (classData C) cd := W.looks_clsIn X hcd
  refine W.osa_openX (s := ⟨hp, gs, dr, tk, os⟩) (r := none) (od := some oD) SF X ⟨hx, rfl, rfl, hoD⟩ hov (taker_none ha) (fun bb => ?_)
  show wpAny _ _ (storeInOwnDict (.ref x) (.ref C) (.str f ft) f v bb) _ _ _
  obtain ⟨c1, c2, c3, c4, c5, c6, c7, c8, c9, c10, c11⟩ := cd
  dsimp only at hh
  subst hh
  unfold storeInOwnDict ownDictForStores
  repeat (first
    | with_reducible refine PySem.OEX.store_in_old hns hw hz ?_
    | with_reducible refine wpAny_loadPart_at hx ?_
    | with_reducible refine lk.at ?_
    | wp_step)
  intro h' t' hn hs
  exact z h' t' (fun b o hb ho => (hs.2 b hb).trans ho) hn
end
/-! ### what the written part says of such a class -/
/-- as of any own exception class: isinstance, attributes -/
structure XIs (K : W.Frag) (C : Addr) : Prop where
  cl : (W.clsIn K C).isSome = true
  ga : W.findIn K (.ref C) "__getattribute__" = some (some (.builtin "BaseException.__getattribute__"))
  gg : W.findIn K (.ref C) "__getattr__" = some none
  be : W.subIn K (.ref C) (.type "BaseException") = some true
  ca : W.findIn K (.ref C) "__class__" = some (some (.builtin "object.__class__"))
  hn : W.specialIn K (.builtin "object.__class__") "__get__" = some (some (.builtin "getset_descriptor.__get__"))
  ht : W.takesIn K (.builtin "object.__class__") = some true
  mo : W.mroIn K C (.type "object") = some true
def xisB (K : W.Frag) (C : Addr) : Bool := (W.clsIn K C).isSome
  && decide (W.findIn K (.ref C) "__getattribute__" = some (some (.builtin "BaseException.__getattribute__")))
  && decide (W.findIn K (.ref C) "__getattr__" = some none) && decide (W.subIn K (.ref C) (.type "BaseException") = some true)
  && decide (W.findIn K (.ref C) "__class__" = some (some (.builtin "object.__class__")))
  && decide (W.specialIn K (.builtin "object.__class__") "__get__" = some (some (.builtin "getset_descriptor.__get__")))
  && decide (W.takesIn K (.builtin "object.__class__") = some true) && decide (W.mroIn K C (.type "object") = some true)
theorem xisB_ok {K : W.Frag} {C : Addr} (h : xisB K C = true) : XIs K C := by
  unfold xisB at h
  simp only [Bool.and_eq_true, decide_eq_true_eq] at h
  obtain ⟨⟨⟨⟨⟨⟨⟨h1, h2⟩, h3⟩, h4⟩, h5⟩, h6⟩, h7⟩, h8⟩ := h
  exact ⟨h1, h2, h3, h4, h5, h6, h7, h8⟩
/-- of one whose __init__ is its own: over B, made by newId of Bn -/
structure XMk (K : W.Frag) (C fI : Addr) (bmB : List Value) (newId : String) : Prop where
  mkr : W.excInitIn K C bmB newId = true
  ov : W.excOver K C bmB = true
  hd : W.hasDictIn K C = true
  sa : W.findIn K (.ref C) "__setattr__" = some (some (.builtin "object.__setattr__"))
  kp : W.keepIn K (.ref C) = true
  ini : W.findIn K (.ref C) "__init__" = some (some (.ref fI))
  tyI : W.typeIn K (.ref fI) = some (.type "function")
def xmkB (K : W.Frag) (C fI : Addr) (bmB : List Value) (newId : String) : Bool := W.excInitIn K C bmB newId && W.excOver K C bmB && W.hasDictIn K C
  && decide (W.findIn K (.ref C) "__setattr__" = some (some (.builtin "object.__setattr__"))) && W.keepIn K (.ref C)
  && decide (W.findIn K (.ref C) "__init__" = some (some (.ref fI))) && decide (W.typeIn K (.ref fI) = some (.type "function"))
theorem xmkB_ok {K : W.Frag} {C fI : Addr} {bmB : List Value} {newId : String} (h : xmkB K C fI bmB newId = true) : XMk K C fI bmB newId := by
  unfold xmkB at h
  simp only [Bool.and_eq_true, decide_eq_true_eq] at h
  obtain ⟨⟨⟨⟨⟨⟨h1, h2⟩, h3⟩, h4⟩, h5⟩, h6⟩, h7⟩ := h
  exact ⟨h1, h2, h3, h4, h5, h6, h7⟩
theorem ref_contains {C : Addr} {bm bmB : List Value} (h : ∀ X : String, bm.contains (.type X) = bmB.contains (.type X)) (T : String) : (Value.ref C :: bm).contains (.type T) = bmB.contains (.type T) := by
  rw [List.contains_cons, h]
  rfl
section
variable {X : Cx} {pins : List (Addr × Obj)} {σ : L2.St} {H : Hp} {s : Shared} {a C fI dx : Addr} {f : Str} {y : V} {u : Value} {fs : List (Str × V)} {Q : Unit → Shared → Prop} {E : Value → Shared → Prop} {A : Around} {B newId : String} {bmB : List Value}
/-- self.f = y, the first one -/
theorem fld_new (T : XMk X.K C fI bmB newId) (SF : StoreFacts B bmB "object.__setattr__" "object") (I : Inv X pins σ H s) (e : H a = some (exo a C none)) (hno : W.findIn X.K (.ref C) f = some none) (ry : RelV y u)
    (h : ∀ dx s', H dx = none → dx ≠ a → Inv X pins σ (upd (upd H dx (exd dx [(f, y)])) a (exo a C (some dx))) s' → Q () s') : wpAny (model X.prog X.w) A (setAttr (.ref a) f u) Q E s := by
  obtain ⟨cd, hcd, hh⟩ := W.any_some T.hd
  obtain ⟨t1, ho⟩ := exo_at I.hok e
  obtain ⟨hp, g, d, t, os⟩ := s
  refine W.set_plain I.kIn (ox := { cls := .ref C, dict := none, data := .fields #[.ref t1, .none, .none, .none, .bool false, .none] }) (od := none) ⟨ho, rfl, rfl, trivial⟩ T.sa ?_
  refine sto_new SF I.kIn ho T.ov hcd hh hno (fun h' t' dx k dn dne hx hn => ?_)
  have fd : H dx = none := I.hok.fresh dn
  have nd : ∀ {b : Addr} {o : Obj}, hp.get? b = some o → b ≠ dx := fun {b o} q => Nat.ne_of_lt (Nat.lt_of_lt_of_le (Heap.lt_size q) dn)
  have na : ∀ {b : Addr}, H b = none → b ≠ a := fun {b} n z => by
    rw [z, e] at n
    cases n
  refine h dx _ fd dne (I.un (t' := t') (H' := upd (upd H dx (exd dx [(f, y)])) a (exo a C (some dx))) (h' := h') ?_ fun b o q => ?_)
  · constructor
    · exact fun b o q n _ _ => k b o (na n) q
    · exact fun b o q n _ _ => ⟨o.slots, k b o (na n) q⟩
    · exact fun b o q n _ => by
        rw [upd_ne (na n), upd_ne (nd q)]
        exact n
    · exact fun b o q _ => by
        by_cases hb : b = a
        · exact ⟨_, by rw [hb]; exact hx⟩
        · exact ⟨o, k b o hb q⟩
    · exact fun b xs q => by
        rw [upd_ne (at_ne e q exo_tup), upd_ne (ne_of_none q fd)]
        exact q
    · exact fun b o v q => by
        rw [upd_ne (at_ne e q exo_frz), upd_ne (ne_of_none q fd)]
        exact q
    · exact fun b ps q => ⟨#[], by
        rw [upd_ne (at_ne e q exo_tbl), upd_ne (ne_of_none q fd), q]
        simp⟩
  · by_cases hb : b = a
    · subst hb
      rw [upd_same] at q
      cases q
      exact exo_ok hx
    · rw [upd_ne hb] at q
      by_cases hd : b = dx
      · subst hd
        rw [upd_same] at q
        cases q
        exact exd_ok hn (relO_put (fs := []) ry fun g => True.intro)
      · rw [upd_ne hd] at q
        refine (I.hok b o q).stay (fun c v hc z => k c v ?_ z) (fun c hc => ?_) (fun c xs hc => ?_)
        · rcases hc with hc | hc
          · rw [hc]
            exact hb
          · exact at_ne e hc exo_own
        · rw [upd_ne (at_ne e hc exo_own), upd_ne (ne_of_none hc fd)]
          exact hc
        · rw [upd_ne (at_ne e hc exo_tup), upd_ne (ne_of_none hc fd)]
          exact hc
/-- self.f = y, a further one -/
theorem fld_old (T : XMk X.K C fI bmB newId) (SF : StoreFacts B bmB "object.__setattr__" "object") (I : Inv X pins σ H s) (e : H a = some (exo a C (some dx))) (ed : H dx = some (exd dx fs)) (hl : fs.length ≤ 900) (hno : W.findIn X.K (.ref C) f = some none) (ry : RelV y u)
    (h : ∀ s', Inv X pins σ (upd H dx (exd dx ((f, y) :: fs))) s' → Q () s') : wpAny (model X.prog X.w) A (setAttr (.ref a) f u) Q E s := by
  obtain ⟨cd, hcd, hh⟩ := W.any_some T.hd
  obtain ⟨t1, ho⟩ := exo_at I.hok e
  obtain ⟨mA, hns, rel⟩ := exd_at I.hok ed
  have hw := within_of rel
  obtain ⟨hp, g, d, t, os⟩ := s
  obtain ⟨oD, _, _, hoD, _, _⟩ := hns.count hw
  refine W.set_plain I.kIn (ox := { cls := .ref C, dict := some dx, data := .fields #[.ref t1, .none, .none, .none, .bool false, .none] }) (od := some oD) ⟨ho, rfl, rfl, hoD⟩ T.sa ?_
  refine sto_old SF I.kIn ho hns hw (by rw [List.length_map]; omega) T.ov hcd hh hno (fun h' t' k hn => ?_)
  have there : ∃ o, h'.get? dx = some o := by
    obtain ⟨o, _, _, e', _⟩ := hn
    exact ⟨o, e'⟩
  refine h _ (I.write (t' := t') (x := dx) (e := dx) (o := exd dx ((f, y) :: fs)) ?_ (.inl rfl) k there (exd_ok hn (relO_put ry rel)))
  rw [ed]
  exact True.intro
/-- B.__init__(self, ..): nothing of it is told -/
theorem base_init {us : List Value} {Q : Value → Shared → Prop} {nid initId : String} (T : XMk X.K C fI bmB newId) (Fi : ExcClass B nid initId) (hB : bmB.contains (.type B) = true) (I : Inv X pins σ H s) (e : H a = some (exo a C none)) (hl : us.length ≤ sizeLine) (h : ∀ s', Inv X pins σ H s' → Q .none s') :
    wpAny (model X.prog X.w) A (call (.builtin initId) (.ref a :: us)) Q E s := by
  obtain ⟨nm, N, qn, bs, bm, hdc, sn, sub, ab, col, dd, k0, k1, k2, k3, k5, hC, hbm⟩ := W.excInit_of I.kIn T.mkr
  obtain ⟨t1, ho⟩ := exo_at I.hok e
  obtain ⟨hp, g, d, t, os⟩ := s
  refine wpAny_call (run_init Fi ((ref_contains hbm B).trans hB) hC ho hl fun h' t2 k hx => ?_)
  have J := I.write (t' := t) (x := a) (e := a) (o := exo a C none) (by rw [e]; exact True.intro) (.inl rfl) k ⟨_, hx⟩ (exo_ok hx)
  have eu : upd H a (exo a C none) = H := by
    funext b
    by_cases hb : b = a
    · rw [hb, upd_same, e]
    · rw [upd_ne hb]
  rw [eu] at J
  exact h _ J
end
end EW
end

section
set_option maxHeartbeats 4000000
namespace EW
open PySem PySem.Spec PyProof.Rows L2 PySem.HandSPX
/-! ### rules: an exception made by its own __init__, its fields, isinstance -/
/-- B.__init__(self, ..) -/
def tBInit (C : Addr) (ta : TA) : TE := fun σ H Q => ta σ H fun vs H1 => ∃ (a : Addr) (ws : List V), vs = .ref a :: ws ∧ ws.length ≤ 1000 ∧ H1 a = some (exo a C none) ∧ Q .non H1
/-- self.f = e -/
def tXst (C : Addr) (f : Str) (to te : TE) : TS := fun D σ H => te σ H fun y H1 => to σ H1 fun x H2 => ∃ a : Addr, x = .ref a ∧
  ((H2 a = some (exo a C none) ∧ ∀ dx, H2 dx = none → dx ≠ a → D.nx σ (upd (upd H2 dx (exd dx [(f, y)])) a (exo a C (some dx)))) ∨
    ∃ (dx : Addr) (fs : List (Str × V)), H2 a = some (exo a C (some dx)) ∧ H2 dx = some (exd dx fs) ∧ fs.length ≤ 900 ∧ D.nx σ (upd H2 dx (exd dx ((f, y) :: fs))))
/-- C(e, ..) as a value -/
def tMkX (C : Addr) (sp : Sp) (ta : TA) : TE := fun σ H Q => ta σ H fun vs H1 => vs.length ≤ 1000 ∧ ∀ a, H1 a = none →
  sp (.ref a :: vs) (upd H1 a (exo a C none)) (fun v H2 => v = .non ∧ Q (.ref a) H2) (fun _ _ _ => False)
/-- an exception object of the class at C stands at a -/
def ExcAt (H : Hp) (a C : Addr) : Prop := H a = some (ExO (.ref C) a) ∨ ∃ (d : Addr) (fs : List (Str × V)), H a = some (exo a C (some d)) ∧ H d = some (exd d fs)
/-- isinstance(x, c) of such an object -/
def rIsX (K : W.Frag) : List V → Hp → VK → Prop := fun xs H Q => ∃ (a C : Addr) (c : V) (u : Value) (b : Bool), xs = [.ref a, c] ∧ ClsV c u ∧ XIs K C ∧ ExcAt H a C ∧ W.kitOne K (.ref C) u = some b ∧ Q (.bl b) H
/-- x.f of one with fields -/
def tXfl (K : W.Frag) (f : Str) (te : TE) : TE := fun σ H Q => te σ H fun x H1 => ∃ (a C d : Addr) (fs : List (Str × V)) (v : V), x = .ref a ∧ XIs K C ∧ W.hasDictIn K C = true ∧ W.findIn K (.ref C) f = some none ∧
  H1 a = some (exo a C (some d)) ∧ H1 d = some (exd d fs) ∧ fs.lookup f = some v ∧ Q v H1
section
variable {X : Cx} {o e : Expr} {es : List Expr} {to te : TE} {ta : TA} {f : Str} {p p' p1 p2 pos : Pos} {B newId : String} {bmB : List Value} {C fI : Addr}
theorem pe_binit {pl : Sem Bool} {b : Str} {nid initId : String} (T : XMk X.K C fI bmB newId) (Fi : ExcClass B nid initId) (hB : bmB.contains (.type B) = true) (hg : Gl X b) (hm : X.mg b = none) (hv : bootBuiltins b = some (.type B))
    (ty : typeOf (.type B) = pure (.type "type")) (st : Manifest.isStub B = false) (vV : W.findCls X.K (.type B) (.type "type") "__init__" = some (.val (.builtin initId))) (hh : W.handedIn (Value.builtin initId) = true) (ha : PA X (e :: es) ta)
    (hc : eval (.Call (.Attribute (.Name b p1) "__init__" p2) (e :: es) [] pos) X.env = (do
      let ov ← eval (.Name b p1) X.env
      standAt p2.atName
      let (fn, first) ← holding [ov] (getMethod ov "__init__" pl)
      callWith pos fn first (backTo pos (starEach (e :: es) X.env)) (backToKw pos (keywordEach [] X.env))) := by rfl)
    (he : starEach (e :: es) X.env = (false, eval e X.env) :: starEach es X.env := by rfl) (hpl : (backTo pos (starEach es X.env)).any (·.1) = false := by rfl)
    (hn : b ≠ "__name__" := by decide) (hdb : (b == ("__debug__" : Str)) = false := by decide) :
    PE X (.Call (.Attribute (.Name b p1) "__init__" p2) (e :: es) [] pos) (tBInit C ta) := by
  refine ⟨fun pins s σ H Q I h => ?_⟩
  refine W.methodCall_KW (ld_blt I hg hm hv ?_ hn hdb) hc
  obtain ⟨m, fr⟩ := I.fr
  refine W.method_type fr I.ok.mod.kin ty st vV hh ?_
  show wpAny _ _ (callWith pos (Value.builtin initId) [] (backTo pos (starEach (e :: es) X.env)) []) _ _ _
  refine callWith_method1 (thn (ha.run pos pins _ σ H _ (I.tok _) h) fun us s1 hq => ?_) he hpl
  obtain ⟨vs, H1, I1, r1, a, ws, ev, hl, ea, q⟩ := hq
  subst ev
  cases r1 with
  | @cons _ u0 _ ur ra rr =>
    obtain rfl : u0 = Value.ref a := ra
    have hlen : ur.length ≤ sizeLine := by
      rw [← Paired.length rr, sizeLine_eq]
      omega
    exact base_init T Fi hB I1 ea hlen fun s' J => ⟨.non, H1, J, rfl, q⟩
theorem ps_xst (T : XMk X.K C fI bmB newId) (SF : StoreFacts B bmB "object.__setattr__" "object") (hno : W.findIn X.K (.ref C) f = some none) (ho : PE X o to) (he : PE X e te)
    (hs : swapsWith e (some (.Attribute o f p')) pos.line X.env = pure false := by rfl) : PS X (.Assign [.Attribute o f p'] e pos) (tXst C f to te) := by
  refine ⟨fun pins s σ H D I h => ?_⟩
  refine plainObj_wpAny_Assign_Attribute (thn (he.run pins s σ H _ I h) fun v s1 hq => ?_) hs
  obtain ⟨y, H1, I1, r1, q1⟩ := hq
  refine thn (ho.run pins s1 σ H1 _ I1 q1) fun u s2 hq => ?_
  obtain ⟨x, H2, I2, r2, a, ex, q⟩ := hq
  subst ex
  obtain rfl : u = Value.ref a := r2
  rcases q with ⟨ea, q⟩ | ⟨dx, fs, ea, ed, hl, q⟩
  · exact fld_new T SF I2 ea hno r1 fun dx s' n ne J => ⟨σ, _, J, q dx n ne⟩
  · exact fld_old T SF I2 ea ed hl hno r1 fun s' J => ⟨σ, _, J, q⟩
theorem inst_of {pins : List (Addr × Obj)} {σ : L2.St} {H : Hp} {s : Shared} {a : Addr} (I : Inv X pins σ H s) (h : ExcAt H a C) : ∃ (ox : Obj) (od : Option Obj), W.InstAt s.heap a ox C od := by
  rcases h with h | ⟨d, fs, h1, h2⟩
  · obtain ⟨⟨oe, vs, ho, hz, hd, _⟩, _, _⟩ := I.hok a _ h
    obtain ⟨oc, od, oda, osl⟩ := oe
    obtain ⟨z1, z2⟩ := hz
    dsimp only at z1 z2 hd
    subst z1 z2 hd
    exact ⟨_, none, ho, rfl, rfl, trivial⟩
  · obtain ⟨t1, ho⟩ := exo_at I.hok h1
    obtain ⟨mA, ⟨od, es', ep, h3, _⟩, _⟩ := exd_at I.hok h2
    exact ⟨_, some od, ho, rfl, rfl, h3⟩
theorem call_isX : CallR X (.builtin "isinstance") (rIsX X.K) := by
  intro pins s σ H xs us Q I r h
  obtain ⟨a, D, c, u, b, rfl, k, T, ea, e, q⟩ := h
  obtain ⟨u1, u2, rfl, r1, r2⟩ := vals2 r
  have e2 := k.eq r2
  subst e2
  cases (show u1 = Value.ref a from r1)
  obtain ⟨ox, od, J⟩ := inst_of I ea
  exact W.kia_one (W.kitx_exc T.cl T.ga T.gg T.be T.ca T.hn T.ht T.mo) I.kIn J e (fun z => nomatch z) fun tk => ⟨.bl b, H, I.tok tk, rfl, q⟩
theorem pe_xfl (he : PE X e te) (hb : attributeBase e f X.env (eval e X.env) = eval e X.env := by rfl) : PE X (.Attribute e f pos) (tXfl X.K f te) := by
  refine ⟨fun pins s σ H Q I h => ?_⟩
  refine attr_of hb (thn (he.run pins s σ H _ I h) fun u s1 hq => ?_)
  obtain ⟨x, H1, I1, rx, a, D, d, fs, v, ex, T, hd, hno, h1, h2, hl, q⟩ := hq
  subst ex
  obtain rfl : u = Value.ref a := rx
  obtain ⟨t1, ho⟩ := exo_at I1.hok h1
  obtain ⟨mA, hns, rel⟩ := exd_at I1.hok h2
  obtain ⟨od, hod, hlk⟩ := lookIn_ns hns
  have rf := rel f
  rw [hl] at rf
  obtain ⟨z, hz, rz⟩ := RelO.some_of rf
  have J : W.InstAt s1.heap a { cls := .ref D, dict := some d, data := .fields #[.ref t1, .none, .none, .none, .bool false, .none] } D (some od) := ⟨ho, rfl, rfl, hod⟩
  exact exc_get I1.kIn J T.ga T.gg T.be (W.findObj_own hd hno rfl (by rw [hlk, hz])) (handed_of rz) ⟨v, H1, I1.tok _, rz, q⟩
theorem pe_mkX {CX : CXT} {x : Str} {k : Nat} {fd : FuncData} {ps : List Str} {sp : Sp} {Bn inN : String} {bmN : List Value} (T : XMk X.K C fI bmB newId) (Fn : ExcBaseFacts Bn newId inN bmN) (hB : bmB.contains (.type Bn) = true) (hA : bmB.contains (.type "AttributeError") = false) (hN : bmB.contains (.type "NameError") = false)
    (F1 : FnOk X.prog X.w X.K X.mg X.base CX k fI fd ps sp) (hr : Room (k + 1) X.A) (hb : Binds X.K fd ps []) (hx : Passes CX X (fun _ _ _ => False)) (hg : Gl X x) (hm : X.mg x = some (.ref C)) (ha : PA X (e :: es) ta)
    (hdb : (x == ("__debug__" : Str)) = false := by decide) (he : starEach (e :: es) X.env = (false, eval e X.env) :: starEach es X.env := by rfl) (hpl : (backTo pos (starEach es X.env)).any (·.1) = false := by rfl) :
    PE X (.Call (.Name x p) (e :: es) [] pos) (tMkX C sp ta) := by
  refine ⟨fun pins s σ H Q I h => ?_⟩
  refine wpAny_Call_Name_kw (ld_glob I hg hm ?_ hdb)
  refine W.callWith_K (h₀ := X.base) I.ok.mod.kin T.kp (thn (ha.run pos pins s σ H _ I h) fun us s1 hq => ?_) he hpl
  obtain ⟨vs, H1, I1, r1, hz, q1⟩ := hq
  refine ⟨I1.kIn, ?_⟩
  show wpAny _ _ (call (.ref C) us) _ _ _
  obtain ⟨nm, N, qn, bs, bm, hdc, sn, sub, ab, col, dd, k0, k1, k2, k3, k5, hC, hbm⟩ := W.excInit_of I1.kIn T.mkr
  have O : NewOk C bm Bn := ⟨(ref_contains hbm _).trans hB, (ref_contains hbm _).trans hA, (ref_contains hbm _).trans hN⟩
  obtain ⟨hp, g, dr, tk, os⟩ := s1
  have hn : H1 (hp.objs.size + 1) = none := I1.hok.fresh (Nat.le_succ _)
  have sz := q1 (hp.objs.size + 1) hn
  have kk : ∀ b o, hp.get? b = some o → ((hp.push (W.kdv_tup us)).push (excO C hp.objs.size)).get? b = some o :=
    fun b o z => Heap.get?_push_of_some _ (Heap.get?_push_of_some _ z)
  have hget : ((hp.push (W.kdv_tup us)).push (excO C hp.objs.size)).get? (hp.objs.size + 1) = some (excO C hp.objs.size) := by
    heap_get
  have I2 : Inv X pins σ (upd H1 (hp.objs.size + 1) (exo (hp.objs.size + 1) C none)) ⟨(hp.push (W.kdv_tup us)).push (excO C hp.objs.size), g, dr, tk, os⟩ :=
    I1.laid (t' := tk) kk (Nat.le_succ _) (exo_ok hget)
  have r2 : Vals (V.ref (hp.objs.size + 1) :: vs) (Value.ref (hp.objs.size + 1) :: us) := .cons rfl r1
  have hl : (Value.ref (hp.objs.size + 1) :: us ++ []).length = ps.length := by
    have z := r2.length
    rw [F1.len _ _ _ _ sz] at z
    rw [List.append_nil]
    exact z.symm
  have hus : us.length ≤ sizeLine := by
    rw [← Paired.length r1, sizeLine_eq]
    omega
  have bb := hb _ (Value.ref (hp.objs.size + 1) :: us) I2.kIn hl
  rw [List.append_nil] at bb
  refine wpAny_call (run_make Fn O hC (W.looks_findIn I1.kIn T.ini) (fun self => W.bind_fn I1.kIn self T.tyI) hus
    (codeAny_mono (F1.run _ X.stack _ _ ⟨Value.ref (hp.objs.size + 1) :: us, []⟩ (Value.ref (hp.objs.size + 1) :: us) _ _ (fun _ _ _ => False) (hr.make C us []) (I2.env0.make C us []) bb r2 sz) fun r s' z => ?_))
  cases r with
  | error er => exact hx pins σ _ _ er s' I2 z
  | ok fl =>
    cases fl with
    | ret u =>
      obtain ⟨v, H2, os2, bare2, un2, hok2, rv, ev, q2⟩ := z
      subst ev
      have J := I2.after (Q := fun _ H' => Q (V.ref (hp.objs.size + 1)) H') (u := u) (s' := s') ⟨V.non, H2, os2, bare2, un2, hok2, rv, q2⟩
      obtain ⟨v', H3, I3, _, q3⟩ := J
      exact ⟨rv, V.ref (hp.objs.size + 1), H3, I3, rfl, q3⟩
    | next => exact False.elim z
    | brk => exact False.elim z
    | cont => exact False.elim z
end
end EW
end

section
set_option maxHeartbeats 4000000
namespace EW
open PySem PySem.Spec PyProof.Rows L2
/-! ### defs that call repr of data: nothing is being shown around them -/
structure FnG (P : Program) (w : World) (K : W.Frag) (mg : Str → Option Value) (base : Heap) (CX : CXT) (k : Nat) (f : Addr) (fd : FuncData) (ps : List Str) (sp : Sp) : Prop where
  len : ∀ vs H Q E, sp vs H Q E → vs.length = ps.length
  run : ∀ (A : Around) (outer : List Env) (s : Shared) (H : Hp) (args : Args) (us : List Value) (vs : List V) (Q : VK) (E : XK), Room k A → A.guards = some [] → Env0 P w K mg base A outer s H → BindsTo s fd args (ps.zip us) → Vals vs us → sp vs H Q E →
    codeAny (model P w) A (.call (.ref f) args) (CR CX outer P w H s Q E) s
theorem FnG.of {P : Program} {w : World} {K : W.Frag} {mg : Str → Option Value} {base : Heap} {CX : CXT} {k : Nat} {f : Addr} {fd : FuncData} {ps : List Str} {sp : Sp} (F : FnOk P w K mg base CX k f fd ps sp) : FnG P w K mg base CX k f fd ps sp :=
  ⟨F.len, fun A outer s H args us vs Q E hr _ e0 hb r hs => F.run A outer s H args us vs Q E hr e0 hb r hs⟩
/-- THE RULE for such a def -/
theorem okG {P : Program} {w : World} {K : W.Frag} {mg : Str → Option Value} {base : Heap} {CX : CXT} {x qual : Str} {params : Arguments} {body : List Stmt} {scope : Scope} {dvs : List V} {kws : List (Str × V)} {f : Addr} {fd : FuncData} {N ps : List Str} {k : Nat} {sp : Sp}
    (F : FunD K x qual params body scope dvs kws f fd) (S : FnScope N ps scope) (len : ∀ vs H Q E, sp vs H Q E → vs.length = ps.length)
    (hbody : ∀ (cdv : Value) (A : Around) (outer : List Env) (s : Shared) (H : Hp) (vs : List V) (Q : VK) (E : XK), Room k (A.deeper (envOfC qual scope s.heap.objs.size f cdv)) → A.guards = some [] → sp vs H Q E →
      ∃ t, PSs (cxOf CX P w K mg base N qual scope f cdv A outer s H E) body t ∧ t { nx := fun _ H' => Q .non H', rt := Q } (start N vs) H) : FnG P w K mg base CX (k + 1) f fd ps sp := by
  obtain ⟨oc, od, dV, kV, doc, pm, an, cdv, ct, osl, rfl, lk, hcd, _, _⟩ := F.ex
  refine ⟨len, fun A outer s H args us vs Q E hr hg e0 hb r hsp => ?_⟩
  have hl := len _ _ _ _ hsp
  have ke := fun b o e => (e0.bs b o e).1
  have KX : K.In s.heap := e0.mod.kin.keeps ke
  have lim : s.heap.NoLimit := e0.mod.nolimit.keeps ke
  refine codeAny_call_function hr.depth (KX _ _ lk) rfl S.co S.gen rfl (W.codeRec_of KX hcd) (hb _ _ _ _ ?_)
  refine wpAny_newFunctionEnv_cells S.kind (fun y hy => ?_) fun env he s1 xc => ?_
  · obtain ⟨n, v⟩ := y
    rcases S.par n (List.of_mem_zip hy).1 with q | q
    · exact .inl q
    · exact .inr ⟨q, W.cellsFrom_some _ _ _ (.inl q)⟩
  · subst he
    refine ⟨lim.keeps xc.toInCall.keep, codeAny_func ?_⟩
    obtain ⟨t, ht, hq⟩ := hbody cdv A outer s H vs Q E (hr.deeper _) hg hsp
    have I : Inv (cxOf CX P w K mg base N qual scope f cdv A outer s H E) [] (start N vs) H s1 := inv_start S hr.hd e0 hl r xc
    refine wpAny_mono (ht.run [] s1 (start N vs) H _ I hq) (fun fl s' hs => ?_) fun e s' hs => hs
    cases fl with
    | ret u =>
      obtain ⟨v, σ', H', J, rv, q⟩ := hs
      exact ⟨v, H', J.os, J.bare, J.base, J.hok, rv, q⟩
    | next =>
      obtain ⟨σ', H', J, q⟩ := hs
      exact ⟨V.non, H', J.os, J.bare, J.base, J.hok, rfl, q⟩
    | brk =>
      obtain ⟨_, _, _, q⟩ := hs
      exact False.elim q
    | cont =>
      obtain ⟨_, _, _, q⟩ := hs
      exact False.elim q
section
variable {X : Cx} {CX : CXT} {k : Nat} {f : Addr} {fd : FuncData} {ps : List Str} {sp : Sp} {E : XK} {x : Str} {p pos : Pos} {e : Expr} {es : List Expr} {t : TA}
theorem pe_callG (F : FnG X.prog X.w X.K X.mg X.base CX k f fd ps sp) (hr : Room k X.A) (hG : X.A.guards = some []) (hg : Gl X x) (hm : X.mg x = some (.ref f)) (hk : W.keepIn X.K (.ref f) = true) (hb : Binds X.K fd ps []) (hx : Passes CX X E)
    (ha : PA X (e :: es) t) (hdb : (x == ("__debug__" : Str)) = false := by decide) (he : starEach (e :: es) X.env = (false, eval e X.env) :: starEach es X.env := by rfl) (hpl : (backTo pos (starEach es X.env)).any (·.1) = false := by rfl) :
    PE X (.Call (.Name x p) (e :: es) [] pos) (tCall sp [] E t) := by
  refine ⟨fun pins s σ H Q I h => ?_⟩
  refine wpAny_Call_Name_kw (ld_glob I hg hm ?_ hdb)
  refine W.callWith_K (h₀ := X.base) I.ok.mod.kin hk (thn (ha.run pos pins s σ H _ I h) fun us s1 hq => ?_) he hpl
  obtain ⟨vs, H1, I1, r, q⟩ := hq
  refine ⟨I1.kIn, ?_⟩
  rw [List.append_nil] at q
  have hl : us.length = ps.length := by
    rw [← r.length]
    exact F.len _ _ _ _ q
  have bb := hb s1 us I1.kIn (by rw [List.append_nil]; exact hl)
  rw [List.append_nil] at bb
  show wpAny _ _ (call (.ref f) us) _ _ _
  refine wpAny_call (codeAny_mono (F.run X.A X.stack s1 H1 ⟨us, []⟩ us vs Q E hr hG I1.env0 bb r q) fun r s' z => ?_)
  cases r with
  | error er => exact hx pins σ H1 s1 er s' I1 z
  | ok fl =>
    cases fl with
    | ret u => exact I1.after z
    | next => exact False.elim z
    | brk => exact False.elim z
    | cont => exact False.elim z
/-- repr of lists and tuples of data -/
def rRepr (K : W.Frag) : List V → Hp → VK → Prop := fun xs H Q => ∃ (a : Addr) (d : PyData), xs = [.ref a] ∧ Dp K H (.ref a) d ∧ d.showable = true ∧ d.hasDict = false ∧ d.depth ≤ 60 ∧ d.shown.length ≤ sizeLine ∧ Q (.str d.shown) H
theorem call_repr (hG : X.A.guards = some []) (hr : Room k X.A) : CallR X (.builtin "repr") (rRepr X.K) := by
  intro pins s σ H xs us Q I r h
  obtain ⟨a, d, rfl, hd, hs, hn, hp, hz, q⟩ := h
  cases r with
  | cons rx rn =>
    cases rn
    obtain ⟨as, r1⟩ := Dp.reads I d (.ref a) _ hd rx
    obtain rfl := rx
    have hu := hr.un
    exact repr_of_reads' r1 hs (fun z => by rw [hn] at z; cases z) hG (by omega) (fun _ _ z => z)
      (fun h' u tk hk => ⟨.str d.shown, H, I.kept (t' := tk) hk, ⟨u, rfl⟩, q⟩) hz
end
/-- the law's call, by such a promise; the script's bits are told -/
theorem law_callG {P : Program} {w : World} {K : W.Frag} {mg mb : Str → Option Value} {CX : CXT} {k : Nat} {fa a : Addr} {fd : FuncData} {x : Str} {sp : Sp} {s₁ : Shared} {vs : List Value} {ns : List Int}
    (KX : K.In s₁.heap) (hns : s₁.heap.Ns mainGlobals mg) (hb : s₁.heap.Ns builtinsNs mb) (hbb : ∀ x : Str, x ≠ "__name__" → mb x = bootBuiltins x) (hlim : s₁.heap.NoLimit) (hg : s₁.gens = #[])
    (ha : s₁.heap.get? a = some { cls := .type "list", data := .seq vs.toArray }) (hi : IntsAre vs ns) (hl : ns.length ≤ sizeLine) (hr : Room k callerA)
    (F : ∀ base : Heap, K.In base → base.Ns mainGlobals mg → FnG P w K mg base CX k fa fd [x] sp) (hbind : ∀ (s : Shared) (u : Value), BindsTo s fd ⟨[u], []⟩ [(x, u)])
    (hsp : ∀ H : Hp, SqL K H a (ns.map V.int) → sp [.ref a] H (fun v _ => v = .bl true) fun _ _ _ => False)
    (hCX : ∀ H e s', CX [] H s₁ (fun _ _ _ => False) e s' → False) :
    codeAny (model P w) callerA (.call (.ref fa) ⟨[.ref a], []⟩) (fun r s' => r = .ok (.ret (.bool true)) ∧ OldK s₁.heap s'.heap ∧ s'.os = s₁.os ∧ AllBare s'.gens) s₁ := by
  have rv := vals_ints hi
  have lenV := hi.length
  let O : Obj := { cls := .type "list", data := .seq vs.toArray }
  have core : ∀ H : Hp, (∀ b, H b = none ∨ (b = a ∧ H b = some (.frz O (.lst (ns.map V.int))) ∧ K.lookup a = none)) → SqL K H a (ns.map V.int) →
      codeAny (model P w) callerA (.call (.ref fa) ⟨[.ref a], []⟩) (fun r s' => r = .ok (.ret (.bool true)) ∧ OldK s₁.heap s'.heap ∧ s'.os = s₁.os ∧ AllBare s'.gens) s₁ := by
    intro H hO hS
    have hok : HOk P w H s₁.heap := fun b u e => by
      rcases hO b with z | ⟨rfl, z, _⟩
      · rw [z] at e
        cases e
      · rw [z] at e
        cases e
        exact ⟨ha, by rw [List.length_map]; exact hl, vs, _, rv, ha⟩
    have off : ∀ {b : Addr} {o : Obj} {es : Array DictEntry} {ep : Nat}, s₁.heap.get? b = some o → o.data = .dict es ep → H b = none := fun {b o es ep} e d => by
      rcases hO b with z | ⟨rfl, _, _⟩
      · exact z
      · rw [ha] at e
        cases e
        cases (show Data.seq vs.toArray _ = Data.dict es ep from d)
    have nsK : ∀ {b : Addr} {m : Str → Option Value}, s₁.heap.Ns b m → (hidT s₁.heap H).Ns b m := fun {b m} z => by
      obtain ⟨o, es, ep, e, d, r⟩ := z
      exact ⟨o, es, ep, hidT_get e (off e d), d, r⟩
    have kb : K.In (hidT s₁.heap H) := fun b o e => by
      refine hidT_get (KX b o e) ?_
      rcases hO b with z | ⟨rfl, _, z⟩
      · exact z
      · rw [z] at e
        cases e
    have hM : Mod K mg (hidT s₁.heap H) := ⟨kb, nsK hns, ⟨mb, nsK hb, hbb⟩, by obtain ⟨mc, h1, h2⟩ := hlim; exact ⟨mc, nsK h1, h2⟩⟩
    have e0 : Env0 P w K mg (hidT s₁.heap H) callerA [] s₁ H := by
      refine ⟨rfl, hM, fun b o e => of_hidT e, Nat.le_of_eq (hidT_size _ _), trivial, fun b z => ?_, hok, .of_eq hg⟩
      exact absurd (show b ∈ ([] : List Addr) from z) (by simp)
    have body := (F _ kb (nsK hns)).run callerA [] s₁ H ⟨[.ref a], []⟩ [.ref a] [.ref a] _ _ hr rfl e0 (hbind s₁ (.ref a)) (.cons rfl .nil) (hsp H hS)
    refine codeAny_mono body fun r s' h => ?_
    cases r with
    | error e => exact (hCX H e s' h).elim
    | ok fl =>
      cases fl with
      | next => exact False.elim h
      | brk => exact False.elim h
      | cont => exact False.elim h
      | ret u =>
        obtain ⟨v, H', os, bare, un, hok', r', q⟩ := h
        have q' : v = .bl true := q
        subst q'
        obtain rfl : u = Value.bool true := r'
        refine ⟨rfl, OldK.of_keep fun b o e => ?_, os, bare⟩
        rcases hO b with z | ⟨rfl, z, _⟩
        · refine un.keep b o e z (fun y => ?_) (by simp)
          exact absurd (show b ∈ ([] : List Addr) from y) (by simp)
        · obtain ⟨e2, _⟩ := hok' b _ (un.frzs b O _ z)
          rw [ha] at e
          cases e
          exact e2
  cases hk : K.lookup a with
  | some o =>
    have e := KX a o hk
    rw [ha] at e
    cases e
    refine core (fun _ => none) (fun _ => .inl rfl) (.inr ⟨_, vs.toArray, _, hk, rfl, rfl, rfl, ?_, by simpa using rv⟩)
    rw [List.size_toArray, lenV]
    exact hl
  | none =>
    refine core (fun b => if b = a then some (.frz O (.lst (ns.map V.int))) else none) (fun b => ?_) (.inl (.inr ⟨O, if_pos rfl⟩))
    by_cases hb : b = a
    · exact .inr ⟨hb, if_pos hb, hk⟩
    · exact .inl (if_neg hb)
/-- the end of a law row, by such a promise -/
theorem walkG {l : W.OpenLaw} {n k : Nat} {q : Program} {loose : List Str} {XP : (Str → Option Value) → Heap → Prop} {YP : World → Heap → Prop} {d : DefRec} {CX : CXT} {x : Str}
    (hn : l.most = some n) (hn2 : n ≤ sizeLine) (hdf : d.params.defaults = []) (hr : Room k callerA)
    (F : ∀ (w : World) (mg : Str → Option Value) (fa : Addr) (h : Heap), YP w h → h.Ns mainGlobals mg → mg d.name = some (.ref fa) →
      ∃ (K : W.Frag) (fd : FuncData) (sp : Sp), K.In h ∧ (∀ (s : Shared) (u : Value), BindsTo s fd ⟨[u], []⟩ [(x, u)]) ∧
        (∀ (H : Hp) (a : Addr) (ns : List Int), ns.length ≤ n → (∀ k ∈ ns, Builtin.Int.intBits k ≤ 1048576) → SqL K H a (ns.map V.int) → sp [.ref a] H (fun v _ => v = .bl true) fun _ _ _ => False) ∧
        ∀ base : Heap, K.In base → base.Ns mainGlobals mg → FnG l.prog w K mg base CX k fa fd [x] sp)
    (hCX : ∀ (H : Hp) (s : Shared) (e : Value) (s' : Shared), CX [] H s (fun _ _ _ => False) e s' → False) :
    W.WalkO q loose XP YP l.row.toRowW d [] (fun f vs => PySem.call f vs) := by
  refine Att.attach_callB hn hdf fun w s₀ s₁ mg mb fa o pm cd doc a vs ns G Y ho hd hcd hmg hobj hints hlen hbits hg => ?_
  obtain ⟨K, fd, sp, KX, hb, hsp, hF⟩ := F w mg fa _ Y G.T.g hmg
  exact law_callG KX G.T.g G.T.b G.T.builtins G.T.nolimit hg hobj hints (Nat.le_trans hlen hn2) hr hF hb (fun H hS => hsp H a ns hlen hbits hS) fun H e s' => hCX H s₁ e s'
end EW
end

section
set_option maxHeartbeats 4000000
namespace EW
open PySem PySem.Spec PyProof.Rows L2
/-! ### a def of the module that lets nothing out, by its name -/
structure Df (P : Program) (w : World) (K : W.Frag) (mg : Str → Option Value) (base : Heap) (k : Nat) (x : Str) (ps : List Str) (sp : Sp) : Prop where
  ex : ∃ fd, FnOk P w K mg base CX0 k (He.ga K x) fd ps sp ∧ Binds K fd ps []
  kp : W.keepIn K (.ref (He.ga K x)) = true
  gl : mg x = some (.ref (He.ga K x))
section
variable {X : Cx} {k : Nat} {ps : List Str} {sp : Sp} {x : Str} {p pos : Pos} {e : Expr} {es : List Expr} {t : TA}
theorem pe_df (D : Df X.prog X.w X.K X.mg X.base k x ps sp) (hr : Room k X.A) (hg : Gl X x) (ha : PA X (e :: es) t) (hdb : (x == ("__debug__" : Str)) = false := by decide)
    (he : starEach (e :: es) X.env = (false, eval e X.env) :: starEach es X.env := by rfl) (hpl : (backTo pos (starEach es X.env)).any (·.1) = false := by rfl) :
    PE X (.Call (.Name x p) (e :: es) [] pos) (tCall sp [] E0 t) := by
  obtain ⟨fd, F, b⟩ := D.ex
  exact pe_call F hr hg D.gl D.kp b .nil pass0 ha hdb he hpl
theorem pe_df0 (D : Df X.prog X.w X.K X.mg X.base k x ps sp) (hr : Room k X.A) (hg : Gl X x) (hdb : (x == ("__debug__" : Str)) = false := by decide) :
    PE X (.Call (.Name x p) [] [] pos) (tCall sp [] E0 tNil) := by
  obtain ⟨fd, F, b⟩ := D.ex
  exact pe_call0 F hr hg D.gl D.kp b .nil pass0 hdb
/-- powers of greater numbers -/
def CPowW (i j : Int) : Prop := 0 ≤ j ∧ (Builtin.Int.intBits i : Int) * j ≤ 2 ^ 27
theorem op_powW : OpR X (binaryOp .Pow) (rI CPowW fun i j => .int (i ^ j.toNat)) := opI fun _ _ _ _ _ _ _ hc q => pow_int hc.1 hc.2 q
end
/-! ### a list of three numbers that draws are made of -/
/-- all but d stands as it stood -/
def Kept (d : Addr) (H H' : Hp) : Prop := ∀ a o, a ≠ d → H a = some o → H' a = some o
theorem Kept.refl (d : Addr) (H : Hp) : Kept d H H := fun _ _ _ e => e
theorem Kept.trans {d : Addr} {H H1 H2 : Hp} (a : Kept d H H1) (b : Kept d H1 H2) : Kept d H H2 := fun c o n e => b c o n (a c o n e)
theorem Kept.upd {d : Addr} {H : Hp} {o : HO} : Kept d H (upd H d o) := fun a u n e => by
  rw [upd_ne n]
  exact e
theorem Kept.new {d p : Addr} {H : Hp} {o : HO} (h : H p = none) : Kept d H (L2.upd H p o) := fun a u n e => by
  rw [upd_ne (ne_of_none e h)]
  exact e
theorem Kept.same {d : Addr} {H H1 H' : Hp} (k : Kept d H1 H') (s : Same H H1) (h : H d = none) : Same H H' := fun a o e => k a o (ne_of_none e h) (s a o e)
theorem Kept.free {d p : Addr} {H H' : Hp} (k : Kept d H H') (h : H' p = none) (n : p ≠ d) : H p = none := by
  cases e : H p with
  | none => rfl
  | some o =>
    rw [k p o n e] at h
    cases h
/-- the draws at d: at most n of them were mixed -/
def Dc (H : Hp) (d : Addr) (n : Int) : Prop := ∃ g b c : Int, H d = some (.lst [.int g, .int b, .int c]) ∧ 0 ≤ g ∧ g < 2 ^ 2200 ∧ 0 ≤ b ∧ b < 2 ^ 62 ∧ 0 ≤ c ∧ c ≤ n
theorem Dc.mono {H : Hp} {d : Addr} {n m : Int} (h : Dc H d n) (l : n ≤ m) : Dc H d m := by
  obtain ⟨g, b, c, h1, h2, h3, h4, h5, h6, h7⟩ := h
  exact ⟨g, b, c, h1, h2, h3, h4, h5, h6, by omega⟩
theorem Dc.new {H : Hp} {d p : Addr} {n : Int} {o : HO} (h : Dc H d n) (hp : H p = none) : Dc (upd H p o) d n := by
  obtain ⟨g, b, c, h1, r⟩ := h
  exact ⟨g, b, c, by rw [upd_ne (ne_of_none h1 hp)]; exact h1, r⟩
theorem Dc.ne {H : Hp} {d a : Addr} {n : Int} {o : HO} (h : Dc H d n) (e : H a = some o) (hn : ∀ xs, o ≠ .lst xs) : a ≠ d := fun z => by
  obtain ⟨g, b, c, h1, _⟩ := h
  rw [z, h1] at e
  exact hn _ (Option.some.inj e).symm
/-- a new place is another one -/
theorem Dc.nn {H : Hp} {d p : Addr} {n : Int} (h : Dc H d n) (hp : H p = none) : p ≠ d := fun z => by
  obtain ⟨g, b, c, h1, _⟩ := h
  rw [z, h1] at hp
  cases hp
/-- other objects change, d stands -/
theorem Dc.keep {H H' : Hp} {d : Addr} {n : Int} (h : Dc H d n) (k : H' d = H d) : Dc H' d n := by
  obtain ⟨g, b, c, h1, r⟩ := h
  exact ⟨g, b, c, k.trans h1, r⟩
/-! ### small data: what values are shown as -/
inductive Lf : V → PyData → Prop where
  | non : Lf .non .none
  | bl (b : Bool) : Lf (.bl b) (.bool b)
  | int (i : Int) (h : i.natAbs < 2 ^ 200) : Lf (.int i) (.int i)
  | str (z : Str) (h : z.length ≤ 40) (a : ∀ c ∈ z.cps.toList, c < 128) : Lf (.str z) (.str z)
inductive Lfs : List V → List PyData → Prop where
  | nil : Lfs [] []
  | cons {v : V} {vs : List V} {d : PyData} {ds : List PyData} : Lf v d → Lfs vs ds → Lfs (v :: vs) (d :: ds)
/-- a value: a leaf, or a tuple of at most four leaves -/
inductive Nv (K : W.Frag) (H : Hp) : V → PyData → Prop where
  | lf {v : V} {d : PyData} (h : Lf v d) : Nv K H v d
  | tup {a : Addr} {xs : List V} {ds : List PyData} (h : H a = some (.tup xs)) (l : Lfs xs ds) (z : xs.length ≤ 4) : Nv K H (.ref a) (.tuple ds)
  | emp {a : Addr} (h : SqT K H a []) : Nv K H (.ref a) (.tuple [])
theorem Lf.dp {K : W.Frag} {H : Hp} {v : V} {d : PyData} (h : Lf v d) : Dp K H v d := by
  cases h with
  | non => exact .non
  | bl b => exact .bl b
  | int i _ => exact .int i
  | str z _ _ => exact .str z
theorem Lfs.dp {K : W.Frag} {H : Hp} : ∀ {vs : List V} {ds : List PyData}, Lfs vs ds → DpAll K H vs ds
  | _, _, .nil => .nil
  | _, _, .cons h t => .cons h.dp t.dp
theorem Nv.dp {K : W.Frag} {H : Hp} {v : V} {d : PyData} (h : Nv K H v d) : Dp K H v d := by
  cases h with
  | lf h => exact h.dp
  | tup h l _ => exact .tup (SqT.of h) l.dp
  | emp h => exact .tup h .nil
/-- values stand while nothing but lists changes -/
def KeptT (H H' : Hp) : Prop := ∀ a xs, H a = some (.tup xs) → H' a = some (.tup xs)
theorem Nv.keep {K : W.Frag} {H H' : Hp} {v : V} {d : PyData} (h : Nv K H v d) (k : KeptT H H') (kf : ∀ a o u, H a = some (.frz o u) → H' a = some (.frz o u)) : Nv K H' v d := by
  cases h with
  | lf h => exact .lf h
  | tup h l z => exact .tup (k _ _ h) l z
  | emp h =>
    refine .emp ?_
    rcases h with (h | ⟨o, h⟩) | h
    · exact .inl (.inl (k _ _ h))
    · exact .inl (.inr ⟨o, kf _ _ _ h⟩)
    · exact .inr h
end EW
end

section
set_option maxHeartbeats 4000000
namespace EW
open PySem PySem.Spec PyProof.Rows L2
/-! rules with the written part told by its own letter: so that a comprehension's block may use them -/
section
variable {X : Cx}
theorem boot_isinstance : bootBuiltins "isinstance" = some (.builtin "isinstance") := by decide +kernel
theorem boot_repr : bootBuiltins "repr" = some (.builtin "repr") := by decide +kernel
theorem boot_abs : bootBuiltins "abs" = some (.builtin "abs") := by decide +kernel
theorem boot_max : bootBuiltins "max" = some (.builtin "max") := by decide +kernel
theorem boot_min : bootBuiltins "min" = some (.builtin "min") := by decide +kernel
theorem boot_int : bootBuiltins "int" = some (.type "int") := by decide +kernel
theorem call_lenK (K : W.Frag) (h : X.K = K) : CallR X (.builtin "len") (fun xs H Q => ∃ x n, xs = [x] ∧ LenV K x H n ∧ Q (.int n) H) := by
  subst h
  exact call_len
theorem ix_listK (K : W.Frag) (h : X.K = K) : IxR X (rIxL K) := by
  subst h
  exact ix_list
theorem call_isXK (K : W.Frag) (h : X.K = K) : CallR X (.builtin "isinstance") (rIsX K) := by
  subst h
  exact call_isX
theorem call_reprK {k : Nat} (K : W.Frag) (h : X.K = K) (hG : X.A.guards = some []) (hr : Room k X.A) : CallR X (.builtin "repr") (rRepr K) := by
  subst h
  exact call_repr hG hr
theorem pe_xflK {e : Expr} {te : TE} {f : Str} {pos : Pos} (K : W.Frag) (h : X.K = K) (he : PE X e te) (hb : attributeBase e f X.env (eval e X.env) = eval e X.env := by rfl) : PE X (.Attribute e f pos) (tXfl K f te) := by
  subst h
  exact pe_xfl he hb
theorem op_eqDK (K : W.Frag) (h : X.K = K) (hu : X.A.units + 64 < cLine) : OpR X (compareOp .Eq) (rEqD K) := by
  subst h
  exact op_eqD hu
theorem op_neDK (K : W.Frag) (h : X.K = K) (hu : X.A.units + 64 < cLine) : OpR X (compareOp .NotEq) (rNeD K) := by
  subst h
  exact op_neD hu
end
end EW
end

section
set_option maxHeartbeats 4000000
namespace EW
open PySem PySem.Spec PyProof.Rows L2
/-! ### new objects, the heap behind them told by what it holds alone -/
section
variable {X : Cx} {e : Expr} {es : List Expr} {t : TA} {te te' : TE} {pos p : Pos}
theorem PE.imp (h : PE X e te) (i : ∀ σ H Q, te' σ H Q → te σ H Q) : PE X e te' := ⟨fun pins s σ H Q I q => h.run pins s σ H Q I (i _ _ _ q)⟩
theorem PE.cl (h : PE X e te) : PE X e (fun σ H Q => ∃ R : VK, te σ H R ∧ ∀ v H1, R v H1 → Q v H1) := by
  refine ⟨fun pins s σ H Q I q => ?_⟩
  obtain ⟨R, h1, h2⟩ := q
  refine wpAny_mono (h.run pins s σ H R I h1) (fun u s' z => ?_) fun _ _ z => z
  obtain ⟨v, H1, I1, rv, r⟩ := z
  exact ⟨v, H1, I1, rv, h2 v H1 r⟩
theorem PA.cl (h : PA X es t) : PA X es (fun σ H Q => ∃ R : List V → Hp → Prop, t σ H R ∧ ∀ v H1, R v H1 → Q v H1) := by
  refine ⟨fun ps pins s σ H Q I q => ?_⟩
  obtain ⟨R, h1, h2⟩ := q
  refine wpAny_mono (h.run ps pins s σ H R I h1) (fun u s' z => ?_) fun _ _ z => z
  obtain ⟨v, H1, I1, rv, r⟩ := z
  exact ⟨v, H1, I1, rv, h2 v H1 r⟩
theorem sameN {H : Hp} {p : Addr} {o : HO} (h : H p = none) : Same H (upd H p o) := fun a u z => by
  rw [upd_ne (ne_of_none z h)]
  exact z
/-- something new at p -/
def New (H : Hp) (o : Addr → HO) (Q : VK) : Prop := ∀ (p : Addr) (H' : Hp), H p = none → Same H H' → H' p = some (o p) → Q (.ref p) H'
theorem New.at {H : Hp} {o : Addr → HO} {Q : VK} (h : New H o Q) {p : Addr} (hp : H p = none) : Q (.ref p) (upd H p (o p)) := h p _ hp (sameN hp) upd_same
def tLstS (t : TA) : TE := fun σ H Q => t σ H fun xs H1 => xs.length ≤ sizeLine ∧ New H1 (fun _ => .lst xs) Q
def tTupS (t : TA) : TE := fun σ H Q => t σ H fun xs H1 => xs.length ≤ sizeLine ∧ New H1 (fun _ => .tup xs) Q
theorem pe_lstS (h : PA X es t) : PE X (.List es pos) (tLstS t) :=
  PE.imp (pe_lst (PA.cl h)) fun σ H Q q => ⟨_, q, fun _ _ z => ⟨z.1, fun _ hp => z.2.at hp⟩⟩
theorem pe_tupS {n : Nat} (h : PA X es t) : PE X (.Tuple es n pos) (tTupS t) :=
  PE.imp (pe_tup (PA.cl h)) fun σ H Q q => ⟨_, q, fun _ _ z => ⟨z.1, fun _ hp => z.2.at hp⟩⟩
def rCatS : R2 := fun x y H Q => ∃ (a b : Addr) (xs ys : List V), x = .ref a ∧ y = .ref b ∧ H a = some (.lst xs) ∧ H b = some (.lst ys) ∧ xs.length + ys.length ≤ sizeLine ∧ New H (fun _ => .lst (xs ++ ys)) Q
theorem op_catS : OpR X (binaryOp .Add) rCatS := by
  intro pins s σ H x y v u Q I rx ry h
  obtain ⟨a, b, xs, ys, h1, h2, h3, h4, h5, h6⟩ := h
  exact op_cat pins s σ H x y v u Q I rx ry ⟨a, b, xs, ys, h1, h2, h3, h4, h5, fun _ hp => h6.at hp⟩
end
end EW
end

section
set_option maxHeartbeats 4000000
namespace EW
open PySem PySem.Spec PyProof.Rows L2
/-- a cut behind a statement: what follows is shown of every state of which P holds -/
def tCut (a : TS) : TS := fun D σ H => ∃ P : L2.St → Hp → Prop, a { D with nx := P } σ H ∧ ∀ σ' H', P σ' H' → D.nx σ' H'
theorem ps_cut {X : Cx} {st : Stmt} {a : TS} (h : PS X st a) : PS X st (tCut a) := by
  refine ⟨fun pins s σ H D I q => ?_⟩
  obtain ⟨P, h1, h2⟩ := q
  refine wpAny_mono (h.run pins s σ H _ I h1) (fun fl s' z => ?_) fun _ _ z => z
  cases fl with
  | next =>
    obtain ⟨σ', H', I', p⟩ := z
    exact ⟨σ', H', I', h2 σ' H' p⟩
  | ret u => exact z
  | brk => exact z
  | cont => exact z
end EW
end

section
set_option maxHeartbeats 4000000
namespace EW
open PySem PySem.Spec PyProof.Rows L2
/-! ### operators by methods of the text -/
/-- a method of the class at C that lets nothing out -/
structure Mt (P : Program) (w : World) (K : W.Frag) (mg : Str → Option Value) (base : Heap) (k : Nat) (C : Addr) (m : Str) (ps : List Str) (sp : Sp) : Prop where
  ex : ∃ f fd, FnOk P w K mg base CX0 k f fd ps sp ∧ Binds K fd ps [] ∧ W.findIn K (.ref C) m = some (some (.ref f)) ∧ W.isFn K (.ref f) = true
section
variable {X : Cx} {k : Nat} {ps : List Str} {sp : Sp} {f C : Addr} {fd : FuncData} {pins : List (Addr × Obj)} {σ : L2.St} {H : Hp} {s : Shared}
/-- the def runs below the running body -/
theorem run_at {A : Around} {Q : VK} {us : List Value} {vs : List V} (F : FnOk X.prog X.w X.K X.mg X.base CX0 k f fd ps sp) (sb : Sub X k A) (hb : Binds X.K fd ps []) (I : Inv X pins σ H s) (r : Vals vs us) (h : sp vs H Q E0) :
    wpAny (model X.prog X.w) A (call (.ref f) us) (EP X pins σ Q) X.xe s := by
  have z := F.len _ _ _ _ h
  have e0 : Env0 X.prog X.w X.K X.mg X.base A X.stack s H := ⟨sb.fr.trans I.env0.frames, I.env0.mod, I.env0.bs, I.env0.bsz, I.env0.funs, I.env0.frf, I.env0.hok, I.env0.bare⟩
  have hl : (us ++ []).length = ps.length := by rw [List.append_nil, ← r.length]; exact z
  have hb' := hb s us I.kIn hl
  rw [List.append_nil] at hb'
  refine wpAny_call (codeAny_mono (F.run A X.stack s H ⟨us, []⟩ us vs Q E0 sb.room e0 hb' r h) fun q s' hq => ?_)
  match q, hq with
  | .error e, hq => exact (hq : False).elim
  | .ok (.ret u), hq => exact I.after hq
  | .ok .next, hq => exact (hq : False).elim
  | .ok .brk, hq => exact (hq : False).elim
  | .ok .cont, hq => exact (hq : False).elim
/-- an instance of the class at C -/
def IsC (H : Hp) (C : Addr) (x : V) : Prop := ∃ a dx fs, x = .ref a ∧ H a = some (.ins C dx fs)
theorem IsC.at_ {x : V} {v : Value} (h : IsC H C x) (I : Inv X pins σ H s) (r : RelV x v) : ∃ a ox od, v = .ref a ∧ W.InstAt s.heap a ox C od := by
  obtain ⟨a, dx, fs, rfl, e⟩ := h
  cases r
  obtain ⟨mA, J, _⟩ := ins_get I.hok e
  obtain ⟨od, J, _⟩ := J.look
  exact ⟨a, _, _, rfl, J⟩
theorem rel_ni {v : V} {u : Value} (r : RelV v u) : u ≠ .notImplemented := by
  rintro rfl
  cases v <;> (cases r; try contradiction)
theorem back_of {Q : Value → Shared → Prop} {u : Value} {s' : Shared} (n : u ≠ .notImplemented) (h : Q u s') : W.CmpBack Q u s' := by
  cases u <;> first | exact h | exact absurd rfl n
theorem back {Q : VK} {u : Value} {s' : Shared} (h : EP X pins σ Q u s') : W.CmpBack (EP X pins σ Q) u s' := by
  obtain ⟨v, H', I', r, q⟩ := h
  exact back_of (rel_ni r) ⟨v, H', I', r, q⟩
/-- x op y, both of the class at C -/
def rOwn (C : Addr) (sp : Sp) : R2 := fun x y H Q => IsC H C x ∧ IsC H C y ∧ sp [x, y] H Q E0
theorem op_own {op : Operator} (M : Mt X.prog X.w X.K X.mg X.base k C (PySem.dunder op.info.2) ps sp) (hc : W.selfFirst X.K C = true) (hr : Room k X.A) : OpR X (binaryOp op) (rOwn C sp) := by
  intro pins s σ H x y v u Q I rx ry h
  obtain ⟨cx, cy, h⟩ := h
  obtain ⟨f, fd, F, hb, hs, hf⟩ := M.ex
  obtain ⟨a, ox, od, rfl, J⟩ := cx.at_ I rx
  obtain ⟨b, oy, od', rfl, J'⟩ := cy.at_ I ry
  obtain ⟨m, hF⟩ := I.fr
  refine W.binop_K hF I.ok.mod.kin J J'.type hc hs hf ?_
  exact wpAny_mono (run_at F ⟨hr, rfl⟩ hb I (.cons rx (.cons ry .nil)) h) (fun _ _ z => back z) fun _ _ z => z
/-- ~x -/
def uOwn (C : Addr) (sp : Sp) : V → Hp → VK → Prop := fun x H Q => IsC H C x ∧ sp [x] H Q E0
theorem inv_K {M : Model} {A : Around} {E : Value → Shared → Prop} {K : W.Frag} {a : Addr} {ox : Obj} {od : Option Obj} {Q : Value → Shared → Prop} (X' : K.In s.heap) (J : W.InstAt s.heap a ox C od) (hs : W.findIn K (.ref C) "__invert__" = some (some (.ref f))) (hf : W.isFn K (.ref f) = true)
    (h : wpAny M A (call (.ref f) [.ref a]) Q E s) : wpAny M A (unaryOp .Invert (.ref a)) Q E s := by
  unfold unaryOp
  exact wpAny_holding (wpAny_bind (W.special_fn X' J hs (beq_iff_eq.mp hf) (wpAny_mono h (fun _ _ q => wpAny_pure q) fun _ _ q => q)))
theorem un_own (M : Mt X.prog X.w X.K X.mg X.base k C "__invert__" ps sp) (hr : Room k X.A) : UnR X (unaryOp .Invert) (uOwn C sp) := by
  intro pins s σ H x v Q I rx h
  obtain ⟨cx, h⟩ := h
  obtain ⟨f, fd, F, hb, hs, hf⟩ := M.ex
  obtain ⟨a, ox, od, rfl, J⟩ := cx.at_ I rx
  exact inv_K I.kIn J hs hf (run_at F ⟨hr, rfl⟩ hb I (.cons rx .nil) h)
/-- x in y by an own method that tells a bool -/
def Bl (Q : VK) : VK := fun z H => ∃ c, z = .bl c ∧ Q (.bl c) H
def rInO (C : Addr) (sp : Sp) : R2 := fun x y H Q => IsC H C y ∧ sp [y, x] H (Bl Q) E0
theorem op_inO (M : Mt X.prog X.w X.K X.mg X.base k C "__contains__" ps sp) (hr : Room k X.A) : OpR X (compareOp .In) (rInO C sp) := by
  intro pins s σ H x y v u Q I rx ry h
  obtain ⟨cy, h⟩ := h
  obtain ⟨f, fd, F, hb, hs, hf⟩ := M.ex
  obtain ⟨a, ox, od, rfl, J⟩ := cy.at_ I ry
  obtain ⟨m, hF⟩ := I.fr
  refine W.in_K hF I.ok.mod.kin J hs hf ?_
  refine wpAny_mono (run_at F ⟨hr, rfl⟩ hb I (.cons ry (.cons rx .nil)) h) (fun r s' z => ?_) fun _ _ z => z
  obtain ⟨w, H', I', rw', c, rfl, q⟩ := z
  cases rw'
  exact wpAny_truthy_bool ⟨.bl c, H', I', rfl, q⟩
/-- the truth of an instance -/
def rTru (C : Addr) (sp : Sp) : V → Hp → (Bool → Hp → Prop) → Prop := fun x H Q => IsC H C x ∧ sp [x] H (fun z H' => ∃ c, z = .bl c ∧ Q c H') E0
theorem tru_at {A : Around} {x : V} {v : Value} {Q : Bool → Hp → Prop} (M : Mt X.prog X.w X.K X.mg X.base k C "__bool__" ps sp) (sb : Sub X k A) (I : Inv X pins σ H s) (rx : RelV x v) (h : rTru C sp x H Q) : wpAny (model X.prog X.w) A (truthy v) (TP X pins σ Q) X.xe s := by
  obtain ⟨cx, h⟩ := h
  obtain ⟨f, fd, F, hb, hs, hf⟩ := M.ex
  obtain ⟨a, ox, od, rfl, J⟩ := cx.at_ I rx
  obtain ⟨m, hF⟩ := I.fr
  refine W.truthy_K hF I.ok.mod.kin J hs hf ?_
  refine wpAny_mono (run_at F sb hb I (.cons rx .nil) h) (fun r s' z => ?_) fun _ _ z => z
  obtain ⟨w, H', I', rw', c, rfl, q⟩ := z
  cases rw'
  exact ⟨H', I', q⟩
theorem tru_own (M : Mt X.prog X.w X.K X.mg X.base k C "__bool__" ps sp) (hr : Room k X.A) : TruR X (rTru C sp) :=
  fun pins s σ H x v Q I rx h => tru_at M ⟨hr, rfl⟩ I rx h
/-- not x -/
def tNotO (C : Addr) (sp : Sp) (t : TE) : TE := fun σ H Q => t σ H fun x H1 => rTru C sp x H1 fun c H2 => Q (.bl (!c)) H2
theorem pe_notO {a : Expr} {t : TE} {pos : Pos} (M : Mt X.prog X.w X.K X.mg X.base k C "__bool__" ps sp) (hr : Room k X.A) (ha : PE X a t) : PE X (.UnaryOp .Not a pos) (tNotO C sp t) := by
  refine ⟨fun pins s σ H Q I h => ?_⟩
  refine UnaryOp_ (thn (ha.run pins s σ H _ I h) fun v s1 z => ?_)
  obtain ⟨x, H1, I1, r1, q1⟩ := z
  refine not_of (wpAny_mono (tru_at M ⟨hr, rfl⟩ I1 r1 q1) (fun c s' z => ?_) fun _ _ z => z)
  obtain ⟨H2, I2, q2⟩ := z
  exact ⟨.bl (!c), H2, I2, rfl, q2⟩
end
end EW
end

section
set_option maxHeartbeats 4000000
namespace EW
open PySem PySem.Spec PySem.Calls PyProof.Rows L2
section
variable {X : Cx} {k : Nat} {ps : List Str} {sp : Sp} {f C : Addr} {fd : FuncData} {pins : List (Addr × Obj)} {σ : L2.St} {H : Hp} {s : Shared}
/-- what an own == may be asked about: an instance of the class, an int -/
def Askd (H : Hp) (C : Addr) (y : V) : Prop := IsC H C y ∨ ∃ i, y = .int i
theorem Askd.looks {y : V} {u : Value} (h : Askd H C y) (I : Inv X pins σ H s) (r : RelV y u) : ∃ tb, W.Looks (model X.prog X.w) s.heap (typeOf u) tb ∧ W.notFirst X.K C tb = true := by
  rcases h with h | ⟨i, rfl⟩
  · obtain ⟨b, oy, od, rfl, J⟩ := h.at_ I r
    exact ⟨.ref C, J.type, by simp [W.notFirst]⟩
  · obtain ⟨t, rfl⟩ := r
    have e : fastBuiltinMro "int" = some [.type "int", .type "object"] := by decide +kernel
    refine ⟨.type "int", W.Looks.of_pure rfl, ?_⟩
    have z : W.subIn X.K (.type "int") (.ref C) = some false := by
      show (fastBuiltinMro "int").map (·.contains (.ref C)) = some false
      rw [e]
      simp
    simp [W.notFirst, z]
def rEqO (C : Addr) (sp : Sp) : R2 := fun x y H Q => IsC H C x ∧ Askd H C y ∧ sp [x, y] H Q E0
theorem op_eqO (M : Mt X.prog X.w X.K X.mg X.base k C "__eq__" ps sp) (hr : Room k X.A) : OpR X (compareOp .Eq) (rEqO C sp) := by
  intro pins s σ H x y v u Q I rx ry h
  obtain ⟨cx, cy, h⟩ := h
  obtain ⟨f, fd, F, hb, hs, hf⟩ := M.ex
  obtain ⟨a, ox, od, rfl, J⟩ := cx.at_ I rx
  obtain ⟨tb, L, nf⟩ := cy.looks I ry
  obtain ⟨m, hF⟩ := I.fr
  show wpAny _ _ (richCompare .Eq _ _) _ _ _
  refine W.cmp_K (op := .Eq) hr.units0 hF I.ok.mod.kin J L nf hs hf ?_
  exact wpAny_mono (run_at F ⟨hr, rfl⟩ hb I (.cons rx (.cons ry .nil)) h) (fun _ _ z => back z) fun _ _ z => z
/-! ### x != y by an own == -/
theorem ifBound_bt {M : Model} {A : Around} {E : Value → Shared → Prop} {K : W.Frag} {a : Addr} {ox : Obj} {od : Option Obj} {args : List Value} {Q : Option Value → Shared → Prop} (Kn : K.In s.heap) (J : W.InstAt s.heap a ox C od) (hs : W.findIn K (.ref C) "__ne__" = some (some (.builtin "object.__ne__")))
    (h : wpAny M A (call (.builtin "object.__ne__") (.ref a :: args)) (fun v => Q (some v)) E s) : wpAny M A (callSpecialIfBound? (.ref a) "__ne__" args) Q E s := by
  have fin : wpAny M A (call (.builtin "object.__ne__") ([.ref a] ++ args) >>= fun v => pure (some v)) Q E s := wpAny_bind (wpAny_mono h (fun v s' z => wpAny_pure z) fun _ _ z => z)
  have bd := F.cmp_object.ne.bind
  simp only [callSpecialIfBound?, bindSpecialIfBound?]
  refine wpAny_holding (wpAny_bind (wpAny_bind (wpAny_bind (J.type.here ((W.looks_findIn Kn hs).here ?_)))))
  refine wpAny_bind (wpAny_askSetting (wpAny_ite ?_))
  split
  · exact wpAny_bind (wpAny_of_eq (bd _) (wpAny_pure (by exact fin)))
  · exact wpAny_tryCatch (wpAny_bind (wpAny_of_eq (bd _) (wpAny_pure (by exact fin))))
theorem ne_entry {M : Model} {A : Around} {E : Value → Shared → Prop} {K : W.Frag} {a : Addr} {b : Value} {ox : Obj} {od : Option Obj} {Q : Fin → Shared → Prop} (hu : A.units < cLine) (Kn : K.In s.heap) (J : W.InstAt s.heap a ox C od) (hs : W.findIn K (.ref C) "__eq__" = some (some (.ref f))) (hf : W.isFn K (.ref f) = true)
    (h : wpAny M A (call (.ref f) [.ref a, b]) (fun v s' => ∃ c, v = .bool c ∧ Q (.done (.ret (.bool (!c)))) s') E s) : wpAny M A (Builtin.«object.__ne__» ⟨[.ref a, b], []⟩) Q E s := by
  have eqs : wpAny M A (callSpecialIfBound? (.ref a) "__eq__" [b]) (fun r s' => ∃ c, r = some (.bool c) ∧ Q (.done (.ret (.bool (!c)))) s') E s :=
    W.ifBound_K Kn J hs hf (wpAny_mono h (fun v s' z => by obtain ⟨c, rfl, q⟩ := z; exact ⟨c, rfl, q⟩) fun _ _ z => z)
  unfold Builtin.«object.__ne__»
  repeat (first | with_reducible refine wpAny_cRoomFor hu ?_ | (with_reducible refine wpAny_mono eqs (fun r s' z => ?_) fun _ _ z => z) | wp_step)
  obtain ⟨c, rfl, q⟩ := z
  exact wpAny_bind (wpAny_truthy_bool (wpAny_pure q))
theorem call_ne {A : Around} {a : Addr} {b : Value} {ox : Obj} {od : Option Obj} {E : Value → Shared → Prop} {K : W.Frag} {prog : Program} {w : World} {Q : Value → Shared → Prop} (hu : A.units + 1 < cLine) (Kn : K.In s.heap) (J : W.InstAt s.heap a ox C od) (hm : W.mroIn K C (.type "object") = some true)
    (hs : W.findIn K (.ref C) "__eq__" = some (some (.ref f))) (hf : W.isFn K (.ref f) = true)
    (h : wpAny (model prog w) A.in1 (call (.ref f) [.ref a, b]) (fun v s' => ∃ c, v = .bool c ∧ Q (.bool (!c)) s') E s) : wpAny (model prog w) A (call (.builtin "object.__ne__") [.ref a, b]) Q E s :=
  wpAny_call (codeAny_call_builtin F.cmp_object.ne.plain F.cmpEntry_ne (W.check_slot F.cmpKind_ne F.cmpSplit_ne (J.type.andThen (W.looks_mroIn Kn hm)) (F.cmpArgs_ne _ _) (ne_entry (A := A.in1) hu Kn J hs hf h)))
theorem ne_at {A : Around} {a : Addr} {b tb : Value} {ox : Obj} {od : Option Obj} {E : Value → Shared → Prop} {K : W.Frag} {prog : Program} {w : World} {Q : Value → Shared → Prop} (hu : A.units + 1 < cLine) (Kn : K.In s.heap) (J : W.InstAt s.heap a ox C od) (hm : W.mroIn K C (.type "object") = some true)
    (hb : W.Looks (model prog w) s.heap (typeOf b) tb) (hn : W.notFirst K C tb = true) (hne : W.findIn K (.ref C) "__ne__" = some (some (.builtin "object.__ne__"))) (hs : W.findIn K (.ref C) "__eq__" = some (some (.ref f))) (hf : W.isFn K (.ref f) = true)
    (h : wpAny (model prog w) A.in1 (call (.ref f) [.ref a, b]) (fun v s' => ∃ c, v = .bool c ∧ Q (.bool (!c)) s') E s) : wpAny (model prog w) A (richCompare .NotEq (.ref a) b) Q E s := by
  have one : wpAny (model prog w) A (tryCompare (.ref a) (cmpInfo .NotEq).2.1 b) (fun r s' => ∃ v, r = some v ∧ Q v s') E s := by
    unfold tryCompare
    refine wpAny_bind (ifBound_bt Kn J hne (call_ne hu Kn J hm hs hf (wpAny_mono h (fun v s' z => ?_) fun _ _ z => z)))
    obtain ⟨c, e, q⟩ := z
    exact ⟨c, e, wpAny_pure ⟨_, rfl, q⟩⟩
  have hu0 : A.units < cLine := Nat.lt_of_succ_lt hu
  unfold richCompare
  simp only [oneThing_ref]
  refine wpAny_holding (wpAny_bind (wpAny_cRoomFor hu0 ?_))
  refine wpAny_bind (J.type.here (wpAny_bind (hb.here ?_)))
  split
  · rename_i q
    have e : W.subIn K tb (.ref C) = some false := by
      rcases Bool.or_eq_true_iff.mp hn with e | e
      · rw [beq_iff_eq.mp e] at q
        simp at q
      · exact beq_iff_eq.mp e
    refine wpAny_bind ((W.looks_subIn Kn e).here ?_)
    simp only [Bool.false_eq_true, if_false]
    refine wpAny_bind (wpAny_mono one (fun r s' z => ?_) fun _ _ z => z)
    obtain ⟨v, rfl, z⟩ := z
    exact wpAny_pure z
  · refine wpAny_bind (wpAny_pure ?_)
    simp only [Bool.false_eq_true, if_false]
    refine wpAny_bind (wpAny_mono one (fun r s' z => ?_) fun _ _ z => z)
    obtain ⟨v, rfl, z⟩ := z
    exact wpAny_pure z
def rNeO (C : Addr) (sp : Sp) : R2 := fun x y H Q => IsC H C x ∧ Askd H C y ∧ sp [x, y] H (fun z H' => ∃ c, z = .bl c ∧ Q (.bl (!c)) H') E0
theorem op_neO (M : Mt X.prog X.w X.K X.mg X.base k C "__eq__" ps sp) (hm : W.mroIn X.K C (.type "object") = some true) (hne : W.findIn X.K (.ref C) "__ne__" = some (some (.builtin "object.__ne__"))) (hr : Room (k + 1) X.A) : OpR X (compareOp .NotEq) (rNeO C sp) := by
  intro pins s σ H x y v u Q I rx ry h
  obtain ⟨cx, cy, h⟩ := h
  obtain ⟨f, fd, F, hb, hs, hf⟩ := M.ex
  obtain ⟨a, ox, od, rfl, J⟩ := cx.at_ I rx
  obtain ⟨tb, L, nf⟩ := cy.looks I ry
  show wpAny _ _ (richCompare .NotEq _ _) _ _ _
  refine ne_at (by have := hr.un; omega) I.kIn J hm L nf hne hs hf ?_
  refine wpAny_mono (run_at F (Sub.in1 ⟨hr, rfl⟩) hb I (.cons rx (.cons ry .nil)) h) (fun r s' z => ?_) fun _ _ z => z
  obtain ⟨w, H', I', rw', c, rfl, q⟩ := z
  cases rw'
  exact ⟨c, rfl, .bl (!c), H', I', rfl, q⟩
/-! ### bool(x) -/
theorem bool_new {prog : Program} {w : World} {A : Around} {R : Result → Shared → Prop} {v : Value} (h : wpAny (model prog w) A.in1 (truthy v) (fun c s' => R (.ok (.ret (.bool c))) s') (fun e s' => R (.error e) s') s) :
    wpAny (model prog w) A.in1 (Builtin.«bool.__new__» ⟨[.type "bool", v], []⟩) (GQ.FinOf prog w A R) (fun e s' => R (.error e) s') s := by
  have f1 := F.conv_sub_bool
  repeat (any_goals (first | assumption | (with_reducible refine wpAny_mono h (fun c s' z => ?_) fun _ _ z => z) | wp_step))
  all_goals first | exact z | skip
end
end EW
end

section
set_option maxHeartbeats 4000000
namespace EW
open PySem PySem.Spec PyProof.Rows L2
section
variable {X : Cx} {k : Nat} {ps : List Str} {sp : Sp} {f C : Addr} {fd : FuncData} {pins : List (Addr × Obj)} {σ : L2.St} {H : Hp} {s : Shared}
theorem bool_in {prog : Program} {w : World} {v : Value} : MeetsIn prog w (Builtin.«bool.__new__» ⟨[.type "bool", v], []⟩) (fun A R s => wpAny (model prog w) A.in1 (truthy v) (fun c s' => R (.ok (.ret (.bool c))) s') (fun e s' => R (.error e) s') s) :=
  fun A R s h => bool_new h
theorem call_boolV {prog : Program} {w : World} {A : Around} {E : Value → Shared → Prop} {v : Value} {Q : Value → Shared → Prop} (h : wpAny (model prog w) A.in1.in1 (truthy v) (fun c s' => Q (.bool c) s') E s) : wpAny (model prog w) A (call (.type "bool") [v]) Q E s :=
  callType_newIn F.called_bool F.newNe_bool (F.typeCall_bool_1 v) (F.newCall_bool_1 v) (fun o => F.args_object_init_2 o v) F.entry_bool_new bool_in (wpAny_mono h (fun c s' z => ⟨rfl, z⟩) fun _ _ z => z)
theorem call_boolO (M : Mt X.prog X.w X.K X.mg X.base k C "__bool__" ps sp) (hr : Room (k + 2) X.A) : CallR X (.type "bool") (fun xs H Q => ∃ x, xs = [x] ∧ rTru C sp x H (fun c H' => Q (.bl c) H')) := by
  intro pins s σ H xs us Q I r h
  obtain ⟨x, rfl, h⟩ := h
  obtain ⟨u, rfl, ru⟩ := r.one
  refine call_boolV (wpAny_mono (tru_at M (Sub.in1 (Sub.in1 ⟨hr, rfl⟩)) I ru h) (fun c s' z => ?_) fun _ _ z => z)
  obtain ⟨H', I', q⟩ := z
  exact ⟨.bl c, H', I', rfl, q⟩
/-- bool(a tuple) -/
theorem call_boolT : CallR X (.type "bool") (fun xs H Q => ∃ (a : Addr) (zs : List V), xs = [.ref a] ∧ SqT X.K H a zs ∧ Q (.bl (!zs.isEmpty)) H) := by
  intro pins s σ H xs us Q I r h
  obtain ⟨a, zs, rfl, hq, q⟩ := h
  obtain rfl := Vals.ref1 r
  obtain ⟨its, rv, pl, hz⟩ := I.tuple hq
  have hl := line63
  have hlen := rv.length
  refine call_boolV (truthy_tuple pl (by simp only [List.size_toArray]; omega) ?_)
  exact ⟨.bl (!zs.isEmpty), H, I.tok _, by rw [isEmpty_of rv]; rfl, q⟩
end
end EW
end

section
set_option maxHeartbeats 4000000
namespace EW
open PySem PySem.Spec PyProof.Rows L2
/-! ### sorted(l, key=f), f a def of the text that tells two numbers, l a list of references -/
/-- the two numbers at a key -/
def pairAt (h : Heap) (v : Value) : Int × Int := match v with
  | .ref a => match h.get? a with
    | some o => match o.data with
      | .seq xs _ => match xs.toList with
        | [.int x _, .int y _] => (x, y)
        | _ => (0, 0)
      | _ => (0, 0)
    | none => (0, 0)
  | _ => (0, 0)
theorem pairAt_of {h : Heap} {v : Value} {x y : Int} (p : Srt.IsPair h v x y) : pairAt h v = (x, y) := by
  obtain ⟨a, o, t, u, n, rfl, ho, hc, hd⟩ := p
  simp [pairAt, ho, hd]
/-- a list as it stands in the heap, with the number of its changes -/
def LsO (a : Addr) (vs : Array Value) (n : Nat) : HO := .ext fun h => h.get? a = some (seqObj "list" vs n)
theorem lsO_ok {P : Program} {w : World} {H : Hp} {h : Heap} {a : Addr} {vs : Array Value} {n : Nat} (e : h.get? a = some (seqObj "list" vs n)) : ObjOk P w H h a (LsO a vs n) := ⟨e, ⟨_, e⟩, fun _ _ p k => k _ p⟩
/-- a def that tells two numbers of a value -/
structure KeyFn (X : Cx) (k : Nat) (f : Addr) (KeyOf : Hp → V → Int × Int → Prop) : Prop where
  ex : ∃ fd ps sp, FnOk X.prog X.w X.K X.mg X.base CX0 k f fd ps sp ∧ Binds X.K fd ps [] ∧ ∀ v p H Q, KeyOf H v p → New H (fun _ => .tup [.int p.1, .int p.2]) Q → sp [v] H Q E0
  mono : ∀ H H' v p, KeyOf H v p → Same H H' → KeyOf H' v p
section
variable {X : Cx} {k : Nat} {f a kS : Addr} {KeyOf : Hp → V → Int × Int → Prop} {pins : List (Addr × Obj)} {σ : L2.St} {H : Hp} {s : Shared} {A : Around} {E : Value → Shared → Prop}
theorem run_at' {A : Around} {Q : VK} {us : List Value} {vs : List V} {fd : FuncData} {ps : List Str} {sp : Sp} (F : FnOk X.prog X.w X.K X.mg X.base CX0 k f fd ps sp) (sb : Sub X k A) (hb : Binds X.K fd ps []) (I : Inv X pins σ H s) (r : Vals vs us) (h : sp vs H Q E0) :
    wpAny (model X.prog X.w) A (call (.ref f) us) (EP X pins σ Q) E s := by
  have z := F.len _ _ _ _ h
  have e0 : Env0 X.prog X.w X.K X.mg X.base A X.stack s H := ⟨sb.fr.trans I.env0.frames, I.env0.mod, I.env0.bs, I.env0.bsz, I.env0.funs, I.env0.frf, I.env0.hok, I.env0.bare⟩
  have hl : (us ++ []).length = ps.length := by rw [List.append_nil, ← r.length]; exact z
  have hb' := hb s us I.kIn hl
  rw [List.append_nil] at hb'
  refine wpAny_call (codeAny_mono (F.run A X.stack s H ⟨us, []⟩ us vs Q E0 sb.room e0 hb' r h) fun q s' hq => ?_)
  match q, hq with
  | .error e, hq => exact (hq : False).elim
  | .ok (.ret u), hq => exact I.after hq
  | .ok .next, hq => exact (hq : False).elim
  | .ok .brk, hq => exact (hq : False).elim
  | .ok .cont, hq => exact (hq : False).elim
/-- what stands while the keys are told -/
structure Kys (X : Cx) (pins : List (Addr × Obj)) (σ : L2.St) (H : Hp) (a kS : Addr) (e1 : Nat) (kz : List (Int × Int)) (ks : List V) (Hi : Hp) (s' : Shared) : Prop where
  inv : Inv X pins σ Hi s'
  same : Same H Hi
  at_ : Hi a = some (LsO a #[] e1)
  kst : Hi kS = some (.lst ks)
  tell : ∀ (j : Nat) (v : V), ks[j]? = some v → ∃ (q : Addr) (pr : Int × Int), v = .ref q ∧ kz[j]? = some pr ∧ Hi q = some (.tup [.int pr.1, .int pr.2])
theorem vals_snoc {xs : List V} {us : List Value} (r : Vals xs us) {v : V} {u : Value} (q : RelV v u) : Vals (xs ++ [v]) (us ++ [u]) := r.append (.cons q .nil)
theorem keys_turn {e1 : Nat} {kz : List (Int × Int)} {ks : List V} {Hi : Hp} {s' : Shared} {xs : List V} {v : V} {u : Value} {pr : Int × Int} {Q : Shared → Prop} (T : KeyFn X k f KeyOf) (sb : Sub X k A) (hne : a ≠ kS) (h0 : H kS = none)
    (L : Kys X pins σ H a kS e1 kz ks Hi s') (hk : kz[ks.length]? = some pr) (hv : KeyOf H v pr) (r : RelV v u) (hz : ks.length + 1 ≤ sizeLine)
    (q : ∀ (ks' : List V) (Hn : Hp) (s2 : Shared), ks'.length = ks.length + 1 → Kys X pins σ H a kS e1 kz ks' Hn s2 → Q s2) :
    wpAny (model X.prog X.w) A (call (.ref f) [u]) (fun z s2 => wpAny (model X.prog X.w) A (Builtin.List.listUpdate (.ref kS) (·.push z)) (fun _ s3 => Q s3) E s2) (fun _ _ => False) s' := by
  obtain ⟨fd, ps, sp, F, hb, hs⟩ := T.ex
  have hsp : sp [v] Hi (fun z H' => ∃ q, z = .ref q ∧ Same Hi H' ∧ H' q = some (.tup [.int pr.1, .int pr.2])) E0 := hs v pr Hi _ (T.mono _ _ _ _ hv L.same) fun p H' _ sm e => ⟨p, rfl, sm, e⟩
  refine wpAny_mono (run_at' F sb hb L.inv (.cons r .nil) hsp) (fun z s2 hq => ?_) fun _ _ z => z
  obtain ⟨w, H', I', rw', p, rfl, sm, ep⟩ := hq
  cases rw'
  obtain ⟨_, its, n, rv, hl, e⟩ := I'.lstM (sm _ _ L.kst)
  have hsz : its.toArray.size = ks.length := by rw [List.size_toArray]; exact hl.symm
  refine listUpdate_at e rfl ?_ (by rw [hsz]; omega) (by rw [Array.size_push, hsz]; omega)
  have I2 := I'.lset (f := (·.push (.ref p))) (t' := s2.toks) (sm _ _ L.kst) e (its' := its ++ [.ref p]) (by simp) (vals_snoc rv (v := .ref p) (u := .ref p) (show RelV (.ref p) (.ref p) from rfl)) (by rw [List.length_append]; exact hz)
  have pk : ∀ {b : Addr} {ys : List V}, H' b = some (.tup ys) → b ≠ kS := fun {b ys} h z => by
    rw [z, sm _ _ L.kst] at h
    cases h
  refine q (ks ++ [.ref p]) _ _ (by rw [List.length_append]; rfl) ⟨I2, fun b o h => ?_, ?_, upd_same, fun j w hj => ?_⟩
  · rw [upd_ne (fun z => by rw [z, h0] at h; cases h)]
    exact sm _ _ (L.same _ _ h)
  · rw [upd_ne hne]
    exact sm _ _ L.at_
  · rcases Nat.lt_or_ge j ks.length with hlt | hge
    · rw [List.getElem?_append_left hlt] at hj
      obtain ⟨q, pr', h1, h2, h3⟩ := L.tell j w hj
      exact ⟨q, pr', h1, h2, by rw [upd_ne (pk (sm _ _ h3))]; exact sm _ _ h3⟩
    · rw [List.getElem?_append_right hge] at hj
      have ej : j - ks.length = 0 := by
        have := (List.getElem?_eq_some_iff.mp hj).1
        simp at this
        omega
      rw [ej] at hj
      have ej' : j = ks.length := by omega
      subst ej'
      simp at hj
      exact ⟨p, pr, hj.symm, hk, by rw [upd_ne (pk ep)]; exact ep⟩
end
end EW
end

section
set_option maxHeartbeats 4000000
namespace EW
open PySem PySem.Spec PyProof.Rows L2
section
variable {X : Cx} {k : Nat} {f a kS : Addr} {KeyOf : Hp → V → Int × Int → Prop} {pins : List (Addr × Obj)} {σ : L2.St} {H : Hp} {s : Shared} {A : Around} {E : Value → Shared → Prop} {P : PySem.Fin → Shared → Prop}
/-- how the values stand behind the sort -/
def Out (xs : List V) (kz : List (Int × Int)) (ys : List V) : Prop := ∃ ps : List (V × (Int × Int)), ps.Perm (xs.zip kz) ∧ ps.Pairwise (fun x y => SrtO.lexB y.2 x.2 = false) ∧ ys = ps.map (·.1)
theorem keys_pairs {e1 : Nat} {kz : List (Int × Int)} {ks : List V} {Hi : Hp} {s' : Shared} {us : List Value} (L : Kys X pins σ H a kS e1 kz ks Hi s') (rv : Vals ks us) : ∀ (j : Nat) (u : Value), us[j]? = some u → ∃ pr : Int × Int, kz[j]? = some pr ∧ Srt.IsPair s'.heap u pr.1 pr.2 := by
  intro j u hu
  have hj : j < ks.length := by rw [rv.length]; exact (List.getElem?_eq_some_iff.mp hu).1
  obtain ⟨q, pr, h1, h2, h3⟩ := L.tell j _ (List.getElem?_eq_getElem hj)
  obtain ⟨u', hu', ru⟩ := rv.get (List.getElem?_eq_getElem hj)
  rw [hu] at hu'
  obtain rfl := Option.some.inj hu'
  rw [h1] at ru
  cases ru
  obtain ⟨_, its2, r2, o, ho, hc, n, hd⟩ := L.inv.hok _ _ h3
  obtain ⟨u1, u2, rfl, ri, rj⟩ := vals2 r2
  obtain ⟨t1, rfl⟩ := ri
  obtain ⟨t2, rfl⟩ := rj
  exact ⟨pr, h2, q, o, t1, t2, n, rfl, ho, hc, hd⟩
theorem zip_out {h : Heap} : ∀ {us vs : List Value} {kz : List (Int × Int)}, us.length = vs.length → kz.length = vs.length → (∀ (j : Nat) (u : Value), us[j]? = some u → ∃ pr : Int × Int, kz[j]? = some pr ∧ Srt.IsPair h u pr.1 pr.2) →
    (us.zip vs).map (fun p => (backV p.2, pairAt h p.1)) = (vs.map backV).zip kz
  | [], [], [], _, _, _ => rfl
  | u :: us, v :: vs, pr :: kz, h1, h2, hp => by
    obtain ⟨pr', e, hu⟩ := hp 0 u rfl
    cases e
    rw [List.zip_cons_cons, List.map_cons, List.map_cons, List.zip_cons_cons, zip_out (us := us) (vs := vs) (kz := kz) (by simpa using h1) (by simpa using h2) fun j w hw => by simpa using hp (j + 1) w (by simpa using hw)]
    rw [pairAt_of hu]
  | [], _ :: _, _, h1, _, _ => by simp at h1
  | _ :: _, [], _, h1, _, _ => by simp at h1
  | _, [], _ :: _, _, h2, _ => by simp at h2
  | _, _ :: _, [], _, h2, _ => by simp at h2
/-- the end: the keys go, the list is filled again -/
theorem sort_tail {e1 : Nat} {kz : List (Int × Int)} {ks xs : List V} {Hi : Hp} {vs us : List Value} {st : SortSt} (hne : a ≠ kS) (ha : H a = none) (h0 : H kS = none) (L : Kys X pins σ H a kS e1 kz ks Hi s) (rv : Vals ks us) (r : Vals xs vs) (hx : ∀ x ∈ xs, ∃ b, x = V.ref b)
    (hl : us.length = vs.length) (hk : kz.length = vs.length) (hp : (arrOf st).toList.Perm (us.zip vs)) (hs : SrtO.Srtd (SrtO.lt2 fun v u => SrtO.lexB (pairAt s.heap v) (pairAt s.heap u)) (arrOf st).toList) (hf : failedOf st = none) (hz : xs.length ≤ sizeLine)
    (q : ∀ ys Hn s', Out xs kz ys → Inv X pins σ Hn s' → Same H Hn → Hn a = some (.lst ys) → P (.done (.ret .none)) s') : wpAny (model X.prog X.w) A (ksk_tail a false e1 (.ref kS) st) P E s := by
  obtain ⟨ex, hr⟩ := refs_back r hx
  have hlen : (arrOf st).size = vs.length := by
    have h1 := hp.length_eq
    rw [Array.length_toList, List.length_zip, hl, Nat.min_self] at h1
    exact h1
  obtain ⟨zk, its, n, rk, hkl, e⟩ := L.inv.lstM L.kst
  have ea : s.heap.get? a = some (seqObj "list" #[] e1) := (L.inv.hok a _ L.at_).1
  unfold ksk_tail
  try dsimp only
  refine wpAny_bind (listUpdate_at e rfl ?_ (by rw [List.size_toArray, ← hkl]; exact zk) (Nat.zero_le _))
  have I1 := L.inv.lset (f := fun _ => #[]) (ys := []) (t' := s.toks) L.kst e (its' := []) rfl .nil (Nat.zero_le _)
  have ea1 : (s.heap.update kS (Obj.mapSeq fun _ => (#[] : Array Value))).get? a = some (seqObj "list" #[] e1) := (Heap.get?_update_other s.heap _ (Ne.symm hne)).trans ea
  refine wpAny_bind (wpAny_letGo ?_)
  refine wpAny_bind (seqEpoch_at ea1 rfl ?_)
  have hout : ((arrOf st).map (·.2)).size = vs.length := by rw [Array.size_map]; exact hlen
  have hvx : vs.length ≤ sizeLine := by rw [← r.length]; exact hz
  refine wpAny_bind (listUpdate_at ea1 rfl ?_ (Nat.zero_le _) (by simp only [Bool.false_eq_true, if_false]; rw [hout]; omega))
  rw [hf]
  simp only [bne_self_eq_false, Bool.false_eq_true, if_false]
  have en : ((s.heap.update kS (Obj.mapSeq fun _ => (#[] : Array Value))).update a (Obj.mapSeq fun _ => (arrOf st).map (·.2))).get? a = some (seqObj "list" ((arrOf st).map (·.2)) _) := get?_update_seq ea1 fun _ => (arrOf st).map (·.2)
  have hrefs : ∀ u ∈ ((arrOf st).map (·.2)).toList, ∃ b, u = Value.ref b := fun u hu => by
    rw [Array.toList_map, List.mem_map] at hu
    obtain ⟨p, hm, rfl⟩ := hu
    exact hr _ (List.of_mem_zip (hp.mem_iff.mp hm)).2
  have hI : (upd Hi kS (.lst [])) a = some (LsO a #[] e1) := by rw [upd_ne hne]; exact L.at_
  refine wpAny_pure (q (((arrOf st).map (·.2)).toList.map backV) _ _ ?_ (I1.write (o := .lst (((arrOf st).map (·.2)).toList.map backV)) (t' := s.toks) (by rw [hI]; exact True.intro) (.inl rfl) (fun b u hb hu => (Heap.get?_update_other _ _ (Ne.symm hb)).trans hu) ⟨_, en⟩ ⟨?_, _, _, vals_back hrefs, by rw [Array.toArray_toList]; exact en⟩) ?_ upd_same)
  · refine ⟨(arrOf st).toList.map (fun p => (backV p.2, pairAt s.heap p.1)), ?_, ?_, ?_⟩
    · have z := hp.map (fun p : Keyed => (backV p.2, pairAt s.heap p.1))
      rw [zip_out hl hk (keys_pairs L rv), ← ex] at z
      exact z
    · rw [List.pairwise_map]
      exact hs
    · rw [List.map_map, Array.toList_map, List.map_map]
      rfl
  · rw [List.length_map, Array.length_toList, hout]
    exact hvx
  · intro b o h
    rw [upd_ne (fun z => by rw [z, ha] at h; cases h), upd_ne (fun z => by rw [z, h0] at h; cases h)]
    exact L.same _ _ h
end
end EW
end

section
set_option maxHeartbeats 4000000
namespace EW
open PySem PySem.Spec PyProof.Rows L2
section
variable {X : Cx} {k : Nat} {f a kS : Addr} {KeyOf : Hp → V → Int × Int → Prop} {pins : List (Addr × Obj)} {σ : L2.St} {H : Hp} {s : Shared} {A : Around} {E : Value → Shared → Prop} {P : PySem.Fin → Shared → Prop}
theorem sort_end {e1 : Nat} {kz : List (Int × Int)} {ks xs : List V} {Hi : Hp} {vs us : List Value} (hne : a ≠ kS) (ha : H a = none) (h0 : H kS = none) (L : Kys X pins σ H a kS e1 kz ks Hi s) (rv : Vals ks us) (r : Vals xs vs) (hx : ∀ x ∈ xs, ∃ b, x = V.ref b)
    (hl : us.length = vs.length) (hk : kz.length = vs.length) (hz : xs.length ≤ sizeLine)
    (q : ∀ ys Hn s', Out xs kz ys → Inv X pins σ Hn s' → Same H Hn → Hn a = some (.lst ys) → P (.done (.ret .none)) s') : wpAny (model X.prog X.w) A (ksk_end a false vs.toArray e1 (.ref kS) us.toArray) P E s := by
  have ez : (us.toArray.zip vs.toArray).toList = us.zip vs := by simp
  have hsz : vs.toArray.size = vs.length := List.size_toArray
  have hps : ∀ u ∈ us, Srt.IsPair s.heap u (pairAt s.heap u).1 (pairAt s.heap u).2 := fun u hu => by
    obtain ⟨j, hj⟩ := List.getElem?_of_mem hu
    obtain ⟨pr, _, hp⟩ := keys_pairs L rv j u hj
    rw [pairAt_of hp]
    exact hp
  have ea : s.heap.get? a = some (seqObj "list" #[] e1) := (L.inv.hok a _ L.at_).1
  unfold ksk_end
  try dsimp only
  simp only [Bool.false_eq_true, if_false]
  by_cases h2 : vs.toArray.size < 2
  · rw [if_pos h2, if_pos h2]
    refine wpAny_bind (wpAny_pure ?_)
    rw [StateT.run_pure]
    refine wpAny_bind (wpAny_pure ?_)
    try dsimp only
    refine sort_tail (st := SortSt.mk' general' (us.toArray.zip vs.toArray) #[] 7 none) hne ha h0 L rv r hx hl hk (List.Perm.of_eq ez) ?_ rfl hz q
    show SrtO.Srtd _ (us.toArray.zip vs.toArray).toList
    rw [ez]
    match us, vs, hl, h2 with
    | [], [], _, _ => exact List.Pairwise.nil
    | [u], [v], _, _ => exact List.pairwise_singleton _ _
    | _, _ :: _ :: l, _, h2 => exact absurd h2 (by simp)
    | _ :: _ :: _, [], hl, _ => simp at hl
    | _ :: _ :: _, [_], hl, _ => simp at hl
    | [], [_], hl, _ => simp at hl
    | [_], [], hl, _ => simp at hl
  · rw [if_neg h2, if_neg h2]
    have hS := SrtO.pairs_sortableO (prog := X.prog) (w := X.w) (A := A) (s := s) (a := a) (vs := us) (k := pairAt s.heap) (by omega) hps fun o e => by
      rw [ea] at e
      cases e
      intro c
      exact absurd (Value.type.inj c) (by decide)
    obtain ⟨κ, hkind, hT⟩ := hS s.heap fun _ _ _ e => e
    refine wpAny_bind (hkind _ _ ?_)
    have hall : SrtO.AllL (fun p : Keyed => p.1 ∈ us) (us.toArray.zip vs.toArray).toList := fun p hm => by
      rw [ez] at hm
      exact (List.of_mem_zip hm).1
    refine wpAny_bind (wpAny_mono (SrtO.wpS_sortO (st0 := SortSt.mk' κ (us.toArray.zip vs.toArray) #[] 7 none)
      (Q := fun _ st' => SrtO.Srtd (SrtO.lt2 fun v u => SrtO.lexB (pairAt s.heap v) (pairAt s.heap u)) (arrOf st').toList ∧ (arrOf st').toList.Perm (us.zip vs) ∧ failedOf st' = none) (SrtO.swo2 (SrtO.swo_lex (pairAt s.heap))) hT rfl hall rfl rfl fun st' b1 b2 b3 => ⟨b1, by rw [← ez]; exact b2.perm, b3⟩) ?_ fun _ _ z => z)
    rintro ⟨⟨⟩, st'⟩ s' ⟨rfl, b1, b2, b3⟩
    try dsimp only
    exact sort_tail hne ha h0 L rv r hx hl hk b2 b1 b3 hz q
theorem sort_rest {e1 : Nat} {kz : List (Int × Int)} {xs : List V} {Hi : Hp} {vs : List Value} (T : KeyFn X k f KeyOf) (sb : Sub X k A) (hne : a ≠ kS) (ha : H a = none) (h0 : H kS = none) (L : Kys X pins σ H a kS e1 kz [] Hi s) (r : Vals xs vs) (hx : ∀ x ∈ xs, ∃ b, x = V.ref b)
    (hk : kz.length = xs.length) (hz : xs.length ≤ sizeLine) (hK : ∀ (j : Nat) (x : V) (pr : Int × Int), xs[j]? = some x → kz[j]? = some pr → KeyOf H x pr)
    (q : ∀ ys Hn s', Out xs kz ys → Inv X pins σ Hn s' → Same H Hn → Hn a = some (.lst ys) → P (.done (.ret .none)) s') : wpAny (model X.prog X.w) A (ksk_rest a (.ref f) false vs.toArray e1 (.ref kS)) P E s := by
  have hlv := r.length
  unfold ksk_rest
  refine wpAny_bind (wpAny_rule ?_)
  first
    | rw [List.forIn_toArray]
    | (rw [← Array.forIn_toList]; simp only [List.toList_toArray])
    | rw [← Array.forIn_toList]
  refine wpAny_bind (ksk_fold (fun i s' => ∃ ks Hn, ks.length = i ∧ Kys X pins σ H a kS e1 kz ks Hn s') vs 0 s ⟨[], Hi, rfl, L⟩ ?step ?done)
  case step =>
    rintro j x s' hxj ⟨ks, Hn, hj, L'⟩
    simp only [Nat.zero_add] at hj ⊢
    have hjv : j < vs.length := (List.getElem?_eq_some_iff.mp hxj).1
    obtain ⟨v, hv⟩ : ∃ v, xs[j]? = some v := ⟨_, List.getElem?_eq_getElem (by omega)⟩
    obtain ⟨pr, hpr⟩ : ∃ pr, kz[j]? = some pr := ⟨_, List.getElem?_eq_getElem (by omega)⟩
    obtain ⟨u, hu, ru⟩ := r.get hv
    rw [hxj] at hu
    obtain rfl := Option.some.inj hu
    refine wpAny_bind (wpAny_attempt ?_)
    refine wpAny_mono (keys_turn (E := E) (xs := xs) (Q := fun s2 => ∃ ks' Hn', ks'.length = j + 1 ∧ Kys X pins σ H a kS e1 kz ks' Hn' s2) T sb hne h0 L' (by rw [hj]; exact hpr) (hK j v pr hv hpr) ru (by omega) fun ks' Hn' s2 h1 h2 => ⟨ks', Hn', by omega, h2⟩) (fun z s2 hq => ?_) fun _ _ z => z.elim
    try dsimp only
    refine wpAny_bind (wpAny_mono hq (fun _ s3 h3 => ?_) fun _ _ z => z)
    exact wpAny_pure ⟨rfl, h3⟩
  case done =>
    rintro s' ⟨ks, Hn, hj, L'⟩
    simp only [Nat.zero_add] at hj
    obtain ⟨_, us, n, rk, hkl, e⟩ := L'.inv.lstM L'.kst
    try dsimp only
    refine wpAny_bind (listItems_at e rfl ?_)
    exact sort_end hne ha h0 L' rk r hx (by omega) (by omega) hz q
end
end EW
end

section
set_option maxHeartbeats 4000000
namespace EW
open PySem PySem.Spec PyProof.Rows L2
section
variable {X : Cx} {k : Nat} {f a kS : Addr} {KeyOf : Hp → V → Int × Int → Prop} {pins : List (Addr × Obj)} {σ : L2.St} {H : Hp} {s : Shared} {A : Around} {E : Value → Shared → Prop} {P : PySem.Fin → Shared → Prop}
theorem sort_tree {kz : List (Int × Int)} {xs : List V} {vs : List Value} {n : Nat} (T : KeyFn X k f KeyOf) (sb : Sub X k A) (ha : H a = none) (I : Inv X pins σ (upd H a (.lst xs)) s) (ho : s.heap.get? a = some (seqObj "list" vs.toArray n)) (r : Vals xs vs) (hx : ∀ x ∈ xs, ∃ b, x = V.ref b)
    (hk : kz.length = xs.length) (hK : ∀ (j : Nat) (x : V) (pr : Int × Int), xs[j]? = some x → kz[j]? = some pr → KeyOf H x pr)
    (q : ∀ ys Hn s', Out xs kz ys → Inv X pins σ Hn s' → Same H Hn → Hn a = some (.lst ys) → P (.done (.ret .none)) s') : wpAny (model X.prog X.w) A (ksk_tree a (.ref f) false) P E s := by
  have hz : xs.length ≤ sizeLine := (I.lstM upd_same).1
  have hv : vs.length ≤ sizeLine := by rw [← r.length]; exact hz
  obtain ⟨e1, ho1⟩ : ∃ e1, (s.heap.update a (Obj.mapSeq fun _ => (#[] : Array Value))).get? a = some (seqObj "list" #[] e1) := ⟨_, get?_update_seq ho fun _ => #[]⟩
  unfold ksk_tree
  refine wpAny_bind (listItems_at ho rfl ?_)
  refine wpAny_bind (listUpdate_at ho rfl ?_ (by rw [List.size_toArray]; exact hv) (Nat.zero_le _))
  refine wpAny_bind (seqEpoch_at ho1 rfl ?_)
  refine wpAny_bind (wpAny_newTuple ?_ hv)
  refine wpAny_bind (wpAny_newList ?_ (Nat.zero_le _))
  refine wpAny_holding ?_
  have I1 : Inv X pins σ (upd (upd H a (.lst xs)) a (LsO a #[] e1)) { s with heap := s.heap.update a (Obj.mapSeq fun _ => (#[] : Array Value)), toks := s.toks } :=
    I.write (by rw [upd_same]; exact True.intro) (.inl rfl) (fun b u hb hu => (Heap.get?_update_other _ _ (Ne.symm hb)).trans hu) ⟨_, ho1⟩ (lsO_ok ho1)
  have I2 := I1.kept (h' := (s.heap.update a (Obj.mapSeq fun _ => (#[] : Array Value))).push (seqObj "tuple" vs.toArray 0)) (t' := s.toks) fun b u e => Heap.get?_push_of_some _ e
  have I3 := I2.lnew (ys := []) (its := []) (t' := s.toks) .nil (Nat.zero_le _)
  have hf := I2.fresh
  have hne : a ≠ ((s.heap.update a (Obj.mapSeq fun _ => (#[] : Array Value))).push (seqObj "tuple" vs.toArray 0)).objs.size := fun z => by
    rw [← z, upd_same] at hf
    cases hf
  refine sort_rest T sb hne ha ?_ ⟨I3, fun b o h => ?_, ?_, upd_same, fun j v hj => by simp at hj⟩ r hx hk hz hK q
  · rw [upd_ne (Ne.symm hne), upd_ne (Ne.symm hne)] at hf
    exact hf
  · have h1 : b ≠ a := fun z => by rw [z, ha] at h; cases h
    rw [upd_ne (fun z => by rw [← z, upd_ne h1, upd_ne h1, h] at hf; cases hf), upd_ne h1, upd_ne h1]
    exact h
  · rw [upd_ne hne]
    exact upd_same
def rSortBy (K : W.Frag) (f : Addr) (KeyOf : Hp → V → Int × Int → Prop) : List V → List V → Hp → VK → Prop := fun vs zs H Q => ∃ (a : Addr) (xs : List V) (kz : List (Int × Int)), vs = [.ref a] ∧ zs = [.ref f] ∧ SqL K H a xs ∧ (∀ x ∈ xs, ∃ b, x = V.ref b) ∧ kz.length = xs.length ∧
  (∀ (j : Nat) (x : V) (pr : Int × Int), xs[j]? = some x → kz[j]? = some pr → KeyOf H x pr) ∧ ∀ ys, Out xs kz ys → New H (fun _ => .lst ys) Q
/-- sorted(l, key=f) -/
theorem cr_sortedBy (T : KeyFn X k f KeyOf) (hr : Room (k + 2) X.A) : CallRK X (.builtin "sorted") [Str.ofString "key"] (rSortBy X.K f KeyOf) := by
  intro pins s σ H vs zs us ws Q I r rz h
  obtain ⟨l, xs, kz, rfl, rfl, hS, hx, hk, hK, q⟩ := h
  obtain rfl := Vals.ref1 r
  obtain rfl := Vals.ref1 rz
  obtain ⟨its, rv, hl, hz⟩ := I.list hS
  have hz' : its.length ≤ sizeLine := by rw [← rv.length]; exact hz
  show wpAny _ _ (call (.builtin "sorted") [.ref l] [(Str.ofString "key", .ref f)]) _ _ _
  refine call_function_entry_kw kind_sorted plain_sorted entry_sorted (ksk_s1 _ _) ?_
  unfold Builtin.«sorted»
  refine wpAny_bind (m := checkCount "sorted" 1 1 _) (wpAny_pure ?_)
  refine wpAny_bind (collect_list hl.isList ?_ hz')
  refine wpAny_bind (wpAny_newList ?_ hz')
  have hsz : ((s.heap.push (seqObj "list" #[] 0)).update s.heap.objs.size (Obj.mapSeq (· ++ its.toArray))).objs.size = s.heap.objs.size + 1 := by
    rw [Heap.size_update, size_push']
  have hoL : (((s.heap.push (seqObj "list" #[] 0)).update s.heap.objs.size (Obj.mapSeq (· ++ its.toArray))).push (seqObj "list" its.toArray 0)).get? (s.heap.objs.size + 1) = some (seqObj "list" its.toArray 0) := by
    rw [← hsz]; exact Heap.get?_push_size _ rfl
  have keep : ∀ b o, s.heap.get? b = some o → (((s.heap.push (seqObj "list" #[] 0)).update s.heap.objs.size (Obj.mapSeq (· ++ its.toArray))).push (seqObj "list" its.toArray 0)).get? b = some o := fun b o e => by
    refine Heap.get?_push_of_some _ ?_
    rw [Heap.get?_update_ne _ _ _ _ (Nat.ne_of_lt (Heap.lt_size e))]
    exact Heap.get?_push_of_some _ e
  show wpAny _ _ _ _ _ { s with heap := ((s.heap.push (seqObj "list" #[] 0)).update s.heap.objs.size (Obj.mapSeq (· ++ its.toArray))).push (seqObj "list" its.toArray 0) }
  rw [hsz]
  have hfr : H (s.heap.objs.size + 1) = none := I.hok.fresh (Nat.le_succ _)
  have I1 := I.laid (h' := ((s.heap.push (seqObj "list" #[] 0)).update s.heap.objs.size (Obj.mapSeq (· ++ its.toArray))).push (seqObj "list" its.toArray 0)) (a := s.heap.objs.size + 1) (o := .lst xs) (t' := s.toks) keep (Nat.le_succ _) ⟨hz, its, 0, rv, hoL⟩
  refine wpAny_bind (wpAny_holding (wpAny_call_entry_kw slot_list_sort ⟨_, hoL, rfl⟩ entry_list_sort ?_ (ksk_l1 _ _)))
  rw [ksk_t1]
  refine sort_tree T (Sub.in1 (Sub.in1 ⟨hr, rfl⟩)) hfr I1 hoL rv hx hk hK fun ys Hn s' o I' sm ea => ⟨_, rfl, ?_⟩
  exact wpAny_pure ⟨_, rfl, .ref _, Hn, I', rfl, q ys o _ Hn hfr sm ea⟩
end
end EW
end

section

/-! Sets of times by runs: the mathematics, no program in sight -/
namespace Rn
/-- a span: residue or none, least, most -/
structure Sp3 where
  res : Option Int
  lo : Option Int
  hi : Option Int
  deriving DecidableEq
/-- a run -/
structure Run where
  r : Int
  lo : Option Int
  hi : Option Int
  deriving DecidableEq
def Run.span (x : Run) : Sp3 := ⟨some x.r, x.lo, x.hi⟩
def geLo (lo : Option Int) (t : Int) : Prop := ∀ l, lo = some l → l ≤ t
def leHi (hi : Option Int) (t : Int) : Prop := ∀ m, hi = some m → t ≤ m
def inRun (p : Int) (x : Run) (t : Int) : Prop := t % p = x.r ∧ geLo x.lo t ∧ leHi x.hi t
def inRuns (p : Int) (xs : List Run) (t : Int) : Prop := ∃ x ∈ xs, inRun p x t
def inSpan (p : Int) (s : Sp3) (t : Int) : Prop := (∀ r, s.res = some r → t % p = r) ∧ geLo s.lo t ∧ leHi s.hi t
def inSpans (p : Int) (ss : List Sp3) (t : Int) : Prop := ∃ s ∈ ss, inSpan p s t
/-- rounded up to the residue, rounded down -/
def upTo (p r l : Int) : Int := l + (r - l) % p
def downTo (p r m : Int) : Int := m - (m - r) % p
def runOf (p r : Int) (lo hi : Option Int) : Option Run :=
  match lo.map (upTo p r), hi.map (downTo p r) with
  | some l, some m => if l > m then none else some ⟨r, some l, some m⟩
  | l, m => some ⟨r, l, m⟩
/-- what a run must be -/
structure Good (p : Int) (x : Run) : Prop where
  r0 : 0 ≤ x.r
  r1 : x.r < p
  lo : ∀ l, x.lo = some l → l % p = x.r
  hi : ∀ m, x.hi = some m → m % p = x.r
  le : ∀ l m, x.lo = some l → x.hi = some m → l ≤ m
section
variable {p r t : Int}
theorem dvd_of_mods {a b : Int} (h : a % p = b % p) : ∃ k, a - b = p * k := by
  have h1 : (a - b) % p = 0 := by
    rw [Int.sub_emod, h, Int.sub_self]
    exact Int.zero_emod _
  exact ⟨(a - b) / p, by
    have := Int.mul_ediv_add_emod (a - b) p
    omega⟩
/-- two numbers of one remainder: less means less by a period at least -/
theorem step_of {a b : Int} (hp : 0 < p) (h : a % p = b % p) (l : a < b) : a + p ≤ b := by
  obtain ⟨k, hk⟩ := dvd_of_mods (p := p) h.symm
  have k0 : 0 < k := by
    rcases Int.lt_or_le 0 k with z | z
    · exact z
    · have : p * k ≤ p * 0 := Int.mul_le_mul_of_nonneg_left z (Int.le_of_lt hp)
      omega
  have : p * 1 ≤ p * k := Int.mul_le_mul_of_nonneg_left (by omega) (Int.le_of_lt hp)
  omega
theorem upTo_mod (h0 : 0 ≤ r) (h1 : r < p) (l : Int) : upTo p r l % p = r := by
  unfold upTo
  rw [Int.add_emod, Int.emod_emod, ← Int.add_emod]
  have : l + (r - l) = r := by omega
  rw [this]
  exact Int.emod_eq_of_lt h0 h1
theorem downTo_mod (h0 : 0 ≤ r) (h1 : r < p) (m : Int) : downTo p r m % p = r := by
  unfold downTo
  rw [Int.sub_emod, Int.emod_emod, ← Int.sub_emod]
  have : m - (m - r) = r := by omega
  rw [this]
  exact Int.emod_eq_of_lt h0 h1
theorem upTo_le (hp : 0 < p) (l : Int) : l ≤ upTo p r l ∧ upTo p r l < l + p := by
  unfold upTo
  have h1 := Int.emod_nonneg (r - l) (Int.ne_of_gt hp)
  have h2 := Int.emod_lt_of_pos (r - l) hp
  omega
theorem downTo_le (hp : 0 < p) (m : Int) : downTo p r m ≤ m ∧ m - p < downTo p r m := by
  unfold downTo
  have h1 := Int.emod_nonneg (m - r) (Int.ne_of_gt hp)
  have h2 := Int.emod_lt_of_pos (m - r) hp
  omega
theorem upTo_iff (h0 : 0 ≤ r) (h1 : r < p) (ht : t % p = r) (l : Int) : upTo p r l ≤ t ↔ l ≤ t := by
  have hp : 0 < p := by omega
  have a := upTo_le (r := r) hp l
  constructor
  · intro h
    omega
  · intro h
    rcases Int.lt_or_le t (upTo p r l) with z | z
    · have := step_of hp (by rw [ht, upTo_mod h0 h1]) z
      omega
    · exact z
theorem downTo_iff (h0 : 0 ≤ r) (h1 : r < p) (ht : t % p = r) (m : Int) : t ≤ downTo p r m ↔ t ≤ m := by
  have hp : 0 < p := by omega
  have a := downTo_le (r := r) hp m
  constructor
  · intro h
    omega
  · intro h
    rcases Int.lt_or_le (downTo p r m) t with z | z
    · have := step_of hp (by rw [ht, downTo_mod h0 h1]) z
      omega
    · exact z
/-- what the run of a residue between bounds has -/
theorem runOf_some {lo hi : Option Int} {x : Run} (h0 : 0 ≤ r) (h1 : r < p) (h : runOf p r lo hi = some x) : Good p x ∧ x.r = r ∧ ∀ t, inRun p x t ↔ (t % p = r ∧ geLo lo t ∧ leHi hi t) := by
  have key : x.r = r ∧ x.lo = lo.map (upTo p r) ∧ x.hi = hi.map (downTo p r) ∧ (∀ l m, x.lo = some l → x.hi = some m → l ≤ m) := by
    unfold runOf at h
    cases lo with
    | none =>
      cases hi with
      | none => cases h; exact ⟨rfl, rfl, rfl, fun l m z _ => nomatch z⟩
      | some m => cases h; exact ⟨rfl, rfl, rfl, fun l m z _ => nomatch z⟩
    | some l =>
      cases hi with
      | none => cases h; exact ⟨rfl, rfl, rfl, fun l m _ z => nomatch z⟩
      | some m =>
        have h' : (if upTo p r l > downTo p r m then none else some (⟨r, some (upTo p r l), some (downTo p r m)⟩ : Run)) = some x := h
        split at h'
        · cases h'
        · rename_i z
          cases h'
          refine ⟨rfl, rfl, rfl, fun a b ha hb => ?_⟩
          cases ha
          cases hb
          omega
  obtain ⟨e1, e2, e3, e4⟩ := key
  refine ⟨⟨by omega, by omega, fun l z => ?_, fun m z => ?_, e4⟩, e1, fun t => ?_⟩
  · rw [e2] at z
    cases lo with
    | none => cases z
    | some l' =>
      cases z
      rw [e1]
      exact upTo_mod h0 h1 l'
  · rw [e3] at z
    cases hi with
    | none => cases z
    | some m' =>
      cases z
      rw [e1]
      exact downTo_mod h0 h1 m'
  · unfold inRun
    rw [e1, e2, e3]
    constructor
    · rintro ⟨a, b, c⟩
      refine ⟨a, fun l z => ?_, fun m z => ?_⟩
      · subst z
        exact (upTo_iff h0 h1 a l).mp (b _ rfl)
      · subst z
        exact (downTo_iff h0 h1 a m).mp (c _ rfl)
    · rintro ⟨a, b, c⟩
      refine ⟨a, fun l z => ?_, fun m z => ?_⟩
      · cases lo with
        | none => cases z
        | some l' =>
          cases z
          exact (upTo_iff h0 h1 a l').mpr (b _ rfl)
      · cases hi with
        | none => cases z
        | some m' =>
          cases z
          exact (downTo_iff h0 h1 a m').mpr (c _ rfl)
theorem runOf_none {lo hi : Option Int} (h0 : 0 ≤ r) (h1 : r < p) (h : runOf p r lo hi = none) (t : Int) : ¬ (t % p = r ∧ geLo lo t ∧ leHi hi t) := by
  rintro ⟨a, b, c⟩
  unfold runOf at h
  cases lo with
  | none => cases hi <;> cases h
  | some l =>
    cases hi with
    | none => cases h
    | some m =>
      have h' : (if upTo p r l > downTo p r m then none else some (⟨r, some (upTo p r l), some (downTo p r m)⟩ : Run)) = none := h
      split at h'
      · have b1 := (upTo_iff h0 h1 a l).mpr (b _ rfl)
        have c1 := (downTo_iff h0 h1 a m).mpr (c _ rfl)
        omega
      · cases h'
end
end Rn
end

section

namespace Rn
/-! ### the one list of runs of a set -/
/-- x comes ahead of y, and they don't touch -/
def Lt (p : Int) (x y : Run) : Prop := x.r < y.r ∨ (x.r = y.r ∧ ∃ h l, x.hi = some h ∧ y.lo = some l ∧ h + p < l)
structure Canon (p : Int) (xs : List Run) : Prop where
  good : ∀ x ∈ xs, Good p x
  pw : xs.Pairwise (Lt p)
section
variable {p : Int}
theorem Canon.tail {x : Run} {xs : List Run} (h : Canon p (x :: xs)) : Canon p xs := ⟨fun y hy => h.good y (List.mem_cons_of_mem _ hy), (List.pairwise_cons.mp h.pw).2⟩
theorem Canon.head {x : Run} {xs : List Run} (h : Canon p (x :: xs)) : Good p x := h.good x List.mem_cons_self
theorem Canon.lt {x : Run} {xs : List Run} (h : Canon p (x :: xs)) : ∀ y ∈ xs, Lt p x y := (List.pairwise_cons.mp h.pw).1
/-- a run has a member: its least one, its greatest one, or its residue -/
theorem Good.some {x : Run} (g : Good p x) : ∃ t, inRun p x t := by
  have hp : 0 < p := by have := g.r0; have := g.r1; omega
  cases el : x.lo with
  | some l =>
    refine ⟨l, g.lo l el, fun l' z => ?_, fun m z => ?_⟩
    · rw [el] at z
      cases z
      exact Int.le_refl _
    · exact g.le l m el z
  | none =>
    cases eh : x.hi with
    | some m =>
      refine ⟨m, g.hi m eh, fun l' z => ?_, fun m' z => ?_⟩
      · rw [el] at z
        cases z
      · rw [eh] at z
        cases z
        exact Int.le_refl _
    | none =>
      refine ⟨x.r, Int.emod_eq_of_lt g.r0 g.r1, fun l' z => ?_, fun m' z => ?_⟩
      · rw [el] at z
        cases z
      · rw [eh] at z
        cases z
/-- runs one ahead of the other have no common member -/
theorem Lt.apart {x y : Run} {t : Int} (hp : 0 < p) (h : Lt p x y) (hx : inRun p x t) (hy : inRun p y t) : False := by
  rcases h with h | ⟨_, a, b, e1, e2, h⟩
  · have := hx.1
    have := hy.1
    omega
  · have := hx.2.2 a e1
    have := hy.2.1 b e2
    omega
theorem tail_iff {x : Run} {xs : List Run} (hp : 0 < p) (h : Canon p (x :: xs)) (t : Int) : inRuns p xs t ↔ inRuns p (x :: xs) t ∧ ¬ inRun p x t := by
  constructor
  · rintro ⟨y, hy, m⟩
    exact ⟨⟨y, List.mem_cons_of_mem _ hy, m⟩, fun hx => (h.lt y hy).apart hp hx m⟩
  · rintro ⟨⟨y, hy, m⟩, n⟩
    rcases List.mem_cons.mp hy with rfl | hy
    · exact absurd m n
    · exact ⟨y, hy, m⟩
/-- of one residue: members of later runs come behind -/
theorem later {x y : Run} {xs : List Run} {t h : Int} (c : Canon p (x :: xs)) (hy : y ∈ xs) (m : inRun p y t) (er : t % p = x.r) (eh : x.hi = some h) : h + p < t := by
  rcases c.lt y hy with z | ⟨_, a, b, e1, e2, z⟩
  · have := m.1
    omega
  · rw [eh] at e1
    cases e1
    have := m.2.1 b e2
    omega
theorem later_none {x y : Run} {xs : List Run} {t : Int} (c : Canon p (x :: xs)) (hy : y ∈ xs) (m : inRun p y t) (er : t % p = x.r) (eh : x.hi = none) : False := by
  rcases c.lt y hy with z | ⟨_, a, b, e1, e2, z⟩
  · have := m.1
    omega
  · rw [eh] at e1
    cases e1
/-- the first run's least time is the least of its residue -/
theorem first_le {x : Run} {xs : List Run} {t l : Int} (hp : 0 < p) (c : Canon p (x :: xs)) (m : inRuns p (x :: xs) t) (er : t % p = x.r) (el : x.lo = some l) : l ≤ t := by
  obtain ⟨y, hy, m⟩ := m
  rcases List.mem_cons.mp hy with rfl | hy
  · exact m.2.1 l el
  · cases eh : x.hi with
    | none => exact (later_none c hy m er eh).elim
    | some h =>
      have := later c hy m er eh
      have := c.head.le l h el eh
      omega
theorem res_le {x : Run} {xs : List Run} {t : Int} (c : Canon p (x :: xs)) (m : inRuns p (x :: xs) t) : x.r ≤ t % p := by
  obtain ⟨y, hy, m⟩ := m
  rcases List.mem_cons.mp hy with rfl | hy
  · rw [m.1]
    exact Int.le_refl _
  · rcases c.lt y hy with z | ⟨z, _⟩
    · have := m.1
      omega
    · have := m.1
      omega
/-- less than any number, with a remainder -/
theorem below (hp : 0 < p) {r : Int} (h0 : 0 ≤ r) (h1 : r < p) (b : Int) : ∃ t, t % p = r ∧ t < b := by
  have h := downTo_le (p := p) (r := r) hp (b - 1)
  exact ⟨downTo p r (b - 1), downTo_mod h0 h1 _, by omega⟩
theorem above (hp : 0 < p) {r : Int} (h0 : 0 ≤ r) (h1 : r < p) (b : Int) : ∃ t, t % p = r ∧ b < t := by
  have h := upTo_le (p := p) (r := r) hp (b + 1)
  exact ⟨upTo p r (b + 1), upTo_mod h0 h1 _, by omega⟩
theorem in_lo {x : Run} (g : Good p x) {l : Int} (el : x.lo = some l) : inRun p x l := by
  refine ⟨g.lo l el, fun l' z => ?_, fun m z => g.le l m el z⟩
  rw [el] at z
  cases z
  exact Int.le_refl _
theorem in_hi {x : Run} (g : Good p x) {m : Int} (eh : x.hi = some m) : inRun p x m := by
  refine ⟨g.hi m eh, fun l z => g.le l m z eh, fun m' z => ?_⟩
  rw [eh] at z
  cases z
  exact Int.le_refl _
theorem res_eq {x y : Run} {xs ys : List Run} (c : Canon p (x :: xs)) (d : Canon p (y :: ys)) (h : ∀ t, inRuns p (x :: xs) t → inRuns p (y :: ys) t) : y.r ≤ x.r := by
  obtain ⟨t, m⟩ := c.head.some
  have := res_le d (h t ⟨x, List.mem_cons_self, m⟩)
  rw [m.1] at this
  exact this
theorem lo_le {x y : Run} {xs ys : List Run} (hp : 0 < p) (c : Canon p (x :: xs)) (d : Canon p (y :: ys)) (h : ∀ t, inRuns p (x :: xs) t → inRuns p (y :: ys) t) (e : x.r = y.r) {l : Int} (el : y.lo = some l) : ∃ l', x.lo = some l' ∧ l ≤ l' := by
  cases ex : x.lo with
  | some l' =>
    have m := in_lo c.head ex
    exact ⟨l', rfl, first_le hp d (h l' ⟨x, List.mem_cons_self, m⟩) (by rw [m.1, e]) el⟩
  | none =>
    exfalso
    have b : ∃ b : Int, b ≤ l ∧ leHi x.hi b := by
      cases eh : x.hi with
      | none => exact ⟨l, Int.le_refl _, fun m z => nomatch z⟩
      | some m =>
        refine ⟨min l m, by omega, fun m' z => ?_⟩
        cases z
        omega
    obtain ⟨b, b1, b2⟩ := b
    obtain ⟨t, t1, t2⟩ := below hp c.head.r0 c.head.r1 b
    have m : inRun p x t := ⟨t1, (fun l' z => by rw [ex] at z; cases z), (fun m z => by have := b2 m z; omega)⟩
    have := first_le hp d (h t ⟨x, List.mem_cons_self, m⟩) (by rw [t1, e]) el
    omega
theorem hi_le {x y : Run} {xs ys : List Run} (hp : 0 < p) (c : Canon p (x :: xs)) (d : Canon p (y :: ys)) (h : ∀ t, inRuns p (x :: xs) t → inRuns p (y :: ys) t) (e : x.r = y.r) (elo : x.lo = y.lo) {m : Int} (eh : y.hi = some m) : ∃ m', x.hi = some m' ∧ m' ≤ m := by
  have out : ∀ t, inRun p x t → t ≤ m + p → t ≤ m := fun t mt lt => by
    obtain ⟨z, hz, mz⟩ := h t ⟨x, List.mem_cons_self, mt⟩
    rcases List.mem_cons.mp hz with rfl | hz
    · exact mz.2.2 m eh
    · have := later d hz mz (by rw [mt.1, e]) eh
      omega
  have my := in_hi d.head eh
  have key : ∀ t, inRun p x t → t ≤ m := fun t mt => by
    rcases Int.lt_or_le m t with z | z
    · exfalso
      have mp : m + p ≤ t := step_of hp (by rw [my.1, mt.1, e]) z
      have m2 : inRun p x (m + p) := by
        refine ⟨by rw [Int.add_emod_right, my.1, e], fun l el => ?_, fun u eu => ?_⟩
        · have := d.head.le l m (by rw [← elo]; exact el) eh
          omega
        · have := mt.2.2 u eu
          omega
      have := out (m + p) m2 (Int.le_refl _)
      omega
    · exact z
  cases ex : x.hi with
  | some m' => exact ⟨m', rfl, key m' (in_hi c.head ex)⟩
  | none =>
    exfalso
    have b : ∃ b : Int, m ≤ b ∧ geLo x.lo b := by
      cases el : x.lo with
      | none => exact ⟨m, Int.le_refl _, fun l z => nomatch z⟩
      | some l =>
        refine ⟨max l m, by omega, fun l' z => ?_⟩
        cases z
        omega
    obtain ⟨b, b1, b2⟩ := b
    obtain ⟨t, t1, t2⟩ := above hp c.head.r0 c.head.r1 b
    have mt : inRun p x t := ⟨t1, (fun l z => by have := b2 l z; omega), (fun u z => by rw [ex] at z; cases z)⟩
    have := key t mt
    omega
/-- THE UNIQUENESS: equal members, equal runs -/
theorem canon_unique (hp : 0 < p) : ∀ {xs ys : List Run}, Canon p xs → Canon p ys → (∀ t, inRuns p xs t ↔ inRuns p ys t) → xs = ys
  | [], [], _, _, _ => rfl
  | [], y :: ys, _, d, h => by
    obtain ⟨t, m⟩ := d.head.some
    obtain ⟨z, hz, _⟩ := (h t).mpr ⟨y, List.mem_cons_self, m⟩
    cases hz
  | x :: xs, [], c, _, h => by
    obtain ⟨t, m⟩ := c.head.some
    obtain ⟨z, hz, _⟩ := (h t).mp ⟨x, List.mem_cons_self, m⟩
    cases hz
  | x :: xs, y :: ys, c, d, h => by
    have h1 : ∀ t, inRuns p (x :: xs) t → inRuns p (y :: ys) t := fun t => (h t).mp
    have h2 : ∀ t, inRuns p (y :: ys) t → inRuns p (x :: xs) t := fun t => (h t).mpr
    have er : x.r = y.r := by
      have := res_eq c d h1
      have := res_eq d c h2
      omega
    have el : x.lo = y.lo := by
      cases e1 : x.lo with
      | none =>
        cases e2 : y.lo with
        | none => rfl
        | some l =>
          obtain ⟨l', z, _⟩ := lo_le hp c d h1 er e2
          rw [e1] at z
          cases z
      | some a =>
        obtain ⟨b, z, q⟩ := lo_le hp d c h2 er.symm e1
        obtain ⟨a', z', q'⟩ := lo_le hp c d h1 er z
        rw [e1] at z'
        cases z'
        rw [z]
        congr 1
        omega
    have eh : x.hi = y.hi := by
      cases e1 : x.hi with
      | none =>
        cases e2 : y.hi with
        | none => rfl
        | some l =>
          obtain ⟨l', z, _⟩ := hi_le hp c d h1 er el e2
          rw [e1] at z
          cases z
      | some a =>
        obtain ⟨b, z, q⟩ := hi_le hp d c h2 er.symm el.symm e1
        obtain ⟨a', z', q'⟩ := hi_le hp c d h1 er el z
        rw [e1] at z'
        cases z'
        rw [z]
        congr 1
        omega
    have exy : x = y := by
      obtain ⟨a, b, c⟩ := x
      obtain ⟨a', b', c'⟩ := y
      cases er
      cases el
      cases eh
      rfl
    subst exy
    have := canon_unique hp c.tail d.tail fun t => by rw [tail_iff hp c, tail_iff hp d, h t]
    rw [this]
end
end Rn
end

section

namespace Rn
/-! ### runs of one residue, put together -/
def goesOn (p : Int) (x y : Run) : Bool := match x.hi, y.lo with
  | some h, some l => decide (l ≤ h + p)
  | _, _ => true
def hiMax (a b : Option Int) : Option Int := match a, b with
  | some u, some v => some (max u v)
  | _, _ => none
def merge (x y : Run) : Run := ⟨x.r, x.lo, hiMax x.hi y.hi⟩
/-- none comes ahead of all bounds -/
def loLe (a b : Option Int) : Prop := match a, b with
  | none, _ => True
  | some _, none => False
  | some u, some v => u ≤ v
theorem loLe.trans {a b c : Option Int} (h : loLe a b) (g : loLe b c) : loLe a c := by
  cases a with
  | none => trivial
  | some u =>
    cases b with
    | none => exact h.elim
    | some v =>
      cases c with
      | none => exact g.elim
      | some w => exact Int.le_trans (show u ≤ v from h) g
/-- what stands of the runs so far: found, of which the last one may still grow -/
structure Grow (p r : Int) (found done : List Run) : Prop where
  good : ∀ z ∈ found, Good p z ∧ z.r = r
  pw : found.Pairwise (Lt p)
  mem : ∀ t, inRuns p found t ↔ inRuns p done t
section
variable {p r : Int}
theorem Grow.nil : Grow p r [] [] := ⟨(fun _ h => nomatch h), List.Pairwise.nil, fun _ => Iff.rfl⟩
theorem inRuns_append {xs ys : List Run} {t : Int} : inRuns p (xs ++ ys) t ↔ inRuns p xs t ∨ inRuns p ys t := by
  constructor
  · rintro ⟨x, hx, m⟩
    rcases List.mem_append.mp hx with h | h
    · exact .inl ⟨x, h, m⟩
    · exact .inr ⟨x, h, m⟩
  · rintro (⟨x, hx, m⟩ | ⟨x, hx, m⟩)
    · exact ⟨x, List.mem_append_left _ hx, m⟩
    · exact ⟨x, List.mem_append_right _ hx, m⟩
theorem inRuns_one {x : Run} {t : Int} : inRuns p [x] t ↔ inRun p x t := by
  constructor
  · rintro ⟨y, hy, m⟩
    rw [List.mem_singleton] at hy
    subst hy
    exact m
  · exact fun m => ⟨x, List.mem_singleton.mpr rfl, m⟩
theorem merge_good {x y : Run} (gx : Good p x) (gy : Good p y) (e : x.r = y.r) : Good p (merge x y) := by
  refine ⟨gx.r0, gx.r1, gx.lo, fun m z => ?_, fun l m zl z => ?_⟩
  · have z' : hiMax x.hi y.hi = some m := z
    cases ex : x.hi with
    | none =>
      rw [ex] at z'
      cases z'
    | some a =>
      cases ey : y.hi with
      | none =>
        rw [ex, ey] at z'
        cases z'
      | some b =>
        rw [ex, ey] at z'
        have z2 : max a b = m := Option.some.inj z'
        have h1 := gx.hi a ex
        have h2 := gy.hi b ey
        show m % p = x.r
        rcases Int.le_total a b with q | q
        · rw [← z2, Int.max_eq_right q, h2, e]
        · rw [← z2, Int.max_eq_left q, h1]
  · have z' : hiMax x.hi y.hi = some m := z
    cases ex : x.hi with
    | none =>
      rw [ex] at z'
      cases z'
    | some a =>
      cases ey : y.hi with
      | none =>
        rw [ex, ey] at z'
        cases z'
      | some b =>
        rw [ex, ey] at z'
        have z2 : max a b = m := Option.some.inj z'
        have := gx.le l a zl ex
        omega
theorem merge_mem {x y : Run} (gx : Good p x) (gy : Good p y) (e : x.r = y.r) (lo : loLe x.lo y.lo) (g : goesOn p x y = true) (t : Int) : inRun p (merge x y) t ↔ inRun p x t ∨ inRun p y t := by
  have hp : 0 < p := by have := gx.r0; have := gx.r1; omega
  constructor
  · rintro ⟨m1, m2, m3⟩
    have m3' : leHi (hiMax x.hi y.hi) t := m3
    have m2' : geLo x.lo t := m2
    have m1' : t % p = x.r := m1
    cases ex : x.hi with
    | none => exact .inl ⟨m1, m2, fun m z => by rw [ex] at z; cases z⟩
    | some a =>
      rcases Int.lt_or_le a t with q | q
      · right
        have ap : a + p ≤ t := step_of hp (by rw [gx.hi a ex, m1']) q
        refine ⟨by rw [m1', e], fun l z => ?_, fun m z => ?_⟩
        · have g' : decide (l ≤ a + p) = true := by
            unfold goesOn at g
            rw [ex, z] at g
            exact g
          have := of_decide_eq_true g'
          omega
        · have h := m3' (max a m) (by rw [ex, z]; rfl)
          omega
      · exact .inl ⟨m1, m2, fun m z => by rw [ex] at z; cases z; exact q⟩
  · rintro (⟨m1, m2, m3⟩ | ⟨m1, m2, m3⟩)
    · refine ⟨m1, m2, fun m z => ?_⟩
      have z' : hiMax x.hi y.hi = some m := z
      cases ex : x.hi with
      | none =>
        rw [ex] at z'
        cases z'
      | some a =>
        cases ey : y.hi with
        | none =>
          rw [ex, ey] at z'
          cases z'
        | some b =>
          rw [ex, ey] at z'
          have z2 : max a b = m := Option.some.inj z'
          have := m3 a ex
          omega
    · refine ⟨by show t % p = x.r; rw [m1, e], fun l z => ?_, fun m z => ?_⟩
      · have z' : x.lo = some l := z
        rw [z'] at lo
        cases ey : y.lo with
        | none =>
          rw [ey] at lo
          exact lo.elim
        | some b =>
          rw [ey] at lo
          have := m2 b ey
          have q : l ≤ b := lo
          omega
      · have z' : hiMax x.hi y.hi = some m := z
        cases ex : x.hi with
        | none =>
          rw [ex] at z'
          cases z'
        | some a =>
          cases ey : y.hi with
          | none =>
            rw [ex, ey] at z'
            cases z'
          | some b =>
            rw [ex, ey] at z'
            have z2 : max a b = m := Option.some.inj z'
            have := m3 b ey
            omega
/-- the next run meets or touches the last one -/
theorem Grow.merge {pre done : List Run} {x y : Run} (h : Grow p r (pre ++ [x]) done) (gy : Good p y) (ey : y.r = r) (lo : loLe x.lo y.lo) (g : goesOn p x y = true) : Grow p r (pre ++ [Rn.merge x y]) (done ++ [y]) := by
  obtain ⟨gx, ex⟩ := h.good x (List.mem_append_right _ (List.mem_singleton.mpr rfl))
  have e : x.r = y.r := by omega
  refine ⟨fun z hz => ?_, ?_, fun t => ?_⟩
  · rcases List.mem_append.mp hz with hz | hz
    · exact h.good z (List.mem_append_left _ hz)
    · rw [List.mem_singleton] at hz
      subst hz
      exact ⟨merge_good gx gy e, ex⟩
  · have hpw := List.pairwise_append.mp h.pw
    refine List.pairwise_append.mpr ⟨hpw.1, List.pairwise_singleton _ _, fun a ha b hb => ?_⟩
    rw [List.mem_singleton] at hb
    subst hb
    exact hpw.2.2 a ha x (List.mem_singleton.mpr rfl)
  · have m := h.mem t
    rw [inRuns_append, inRuns_one] at m
    rw [inRuns_append, inRuns_one, inRuns_append, inRuns_one, merge_mem gx gy e lo g, ← m]
    constructor
    · rintro (q | q | q)
      · exact .inl (.inl q)
      · exact .inl (.inr q)
      · exact .inr q
    · rintro ((q | q) | q)
      · exact .inl q
      · exact .inr (.inl q)
      · exact .inr (.inr q)
/-- .. or comes behind a gap -/
theorem Grow.next {found done : List Run} {y : Run} (h : Grow p r found done) (gy : Good p y) (ey : y.r = r) (g : ∀ x pre, found = pre ++ [x] → goesOn p x y = false) : Grow p r (found ++ [y]) (done ++ [y]) := by
  refine ⟨fun z hz => ?_, ?_, fun t => ?_⟩
  · rcases List.mem_append.mp hz with hz | hz
    · exact h.good z hz
    · rw [List.mem_singleton] at hz
      subst hz
      exact ⟨gy, ey⟩
  · refine List.pairwise_append.mpr ⟨h.pw, List.pairwise_singleton _ _, fun a ha b hb => ?_⟩
    rw [List.mem_singleton] at hb
    subst hb
    rcases List.eq_nil_or_concat found with e | ⟨pre, x, e⟩
    · rw [e] at ha
      cases ha
    · rw [List.concat_eq_append] at e
      have gf := g x pre e
      subst e
      obtain ⟨gx, ex⟩ := h.good x (List.mem_append_right _ (List.mem_singleton.mpr rfl))
      unfold goesOn at gf
      cases exh : x.hi with
      | none =>
        rw [exh] at gf
        cases gf
      | some hx =>
        cases eyl : b.lo with
        | none =>
          rw [exh, eyl] at gf
          cases gf
        | some l =>
          rw [exh, eyl] at gf
          have q : ¬ l ≤ hx + p := of_decide_eq_false gf
          have xb : Lt p x b := .inr ⟨by omega, hx, l, exh, eyl, by omega⟩
          rcases List.mem_append.mp ha with ha | ha
          · have ax := (List.pairwise_append.mp h.pw).2.2 a ha x (List.mem_singleton.mpr rfl)
            obtain ⟨ga, ea⟩ := h.good a (List.mem_append_left _ ha)
            rcases ax with z | ⟨_, h1, l1, e1, e2, z⟩
            · omega
            · have := gx.le l1 hx e2 exh
              have hp : 0 < p := by have := gx.r0; have := gx.r1; omega
              exact .inr ⟨by omega, h1, l, e1, eyl, by omega⟩
          · rw [List.mem_singleton] at ha
            subst ha
            exact xb
  · rw [inRuns_append, inRuns_append, h.mem t]
/-- lists of runs of ascending residues, one behind the other -/
theorem canon_join : ∀ {ps : List (Int × List Run)}, (ps.map (·.1)).Pairwise (· < ·) → (∀ q ∈ ps, Canon p q.2 ∧ ∀ z ∈ q.2, z.r = q.1) → Canon p (ps.flatMap (·.2))
  | [], _, _ => ⟨(fun _ h => nomatch h), List.Pairwise.nil⟩
  | q :: ps, h, c => by
    rw [List.map_cons, List.pairwise_cons] at h
    have ih := canon_join h.2 fun q' hq => c q' (List.mem_cons_of_mem _ hq)
    obtain ⟨cq, rq⟩ := c q List.mem_cons_self
    rw [List.flatMap_cons]
    refine ⟨fun z hz => ?_, List.pairwise_append.mpr ⟨cq.pw, ih.pw, fun a ha b hb => ?_⟩⟩
    · rcases List.mem_append.mp hz with hz | hz
      · exact cq.good z hz
      · exact ih.good z hz
    · obtain ⟨q', hq', hb⟩ := List.mem_flatMap.mp hb
      have e1 := rq a ha
      have e2 := (c q' (List.mem_cons_of_mem _ hq')).2 b hb
      have := h.1 q'.1 (List.mem_map_of_mem hq')
      exact .inl (by omega)
theorem Grow.canon {found done : List Run} (h : Grow p r found done) : Canon p found := ⟨fun z hz => (h.good z hz).1, h.pw⟩
/-! ### the runs of spans -/
def residues (p : Int) (s : Sp3) : List Int := match s.res with
  | none => (List.range p.toNat).map fun (i : Nat) => (i : Int)
  | some r => [r]
def foundOf (p : Int) (s : Sp3) : List Run := (residues p s).filterMap fun one => runOf p one s.lo s.hi
/-- a span by p -/
def SpOk (p : Int) (s : Sp3) : Prop := ∀ r, s.res = some r → 0 ≤ r ∧ r < p
theorem residues_ok (hp : 0 < p) {s : Sp3} (h : SpOk p s) : ∀ one ∈ residues p s, 0 ≤ one ∧ one < p := by
  intro one h1
  unfold residues at h1
  cases e : s.res with
  | none =>
    rw [e] at h1
    obtain ⟨i, hi, rfl⟩ := List.mem_map.mp h1
    have := List.mem_range.mp hi
    omega
  | some r' =>
    rw [e] at h1
    rw [List.mem_singleton] at h1
    subst h1
    exact h _ e
theorem foundOf_good (hp : 0 < p) {s : Sp3} (h : SpOk p s) : ∀ z ∈ foundOf p s, Good p z := by
  intro z hz
  obtain ⟨one, h1, h2⟩ := List.mem_filterMap.mp hz
  obtain ⟨o0, o1⟩ := residues_ok hp h one h1
  exact (runOf_some o0 o1 h2).1
theorem foundOf_mem (hp : 0 < p) {s : Sp3} (h : SpOk p s) (t : Int) : inRuns p (foundOf p s) t ↔ inSpan p s t := by
  constructor
  · rintro ⟨z, hz, m⟩
    obtain ⟨one, h1, h2⟩ := List.mem_filterMap.mp hz
    obtain ⟨o0, o1⟩ := residues_ok hp h one h1
    have m' := ((runOf_some o0 o1 h2).2.2 t).mp m
    refine ⟨fun r' er => ?_, m'.2.1, m'.2.2⟩
    unfold residues at h1
    rw [er] at h1
    rw [List.mem_singleton] at h1
    rw [m'.1, h1]
  · rintro ⟨m1, m2, m3⟩
    have key : t % p ∈ residues p s := by
      unfold residues
      cases e : s.res with
      | none =>
        have h0 := Int.emod_nonneg t (Int.ne_of_gt hp)
        have h1 := Int.emod_lt_of_pos t hp
        exact List.mem_map.mpr ⟨(t % p).toNat, List.mem_range.mpr (by omega), by omega⟩
      | some r' => exact List.mem_singleton.mpr (m1 r' e)
    obtain ⟨o0, o1⟩ := residues_ok hp h _ key
    cases e : runOf p (t % p) s.lo s.hi with
    | none => exact (runOf_none o0 o1 e t ⟨rfl, m2, m3⟩).elim
    | some x => exact ⟨x, List.mem_filterMap.mpr ⟨_, key, e⟩, ((runOf_some o0 o1 e).2.2 t).mpr ⟨rfl, m2, m3⟩⟩
theorem found_all (hp : 0 < p) {ss : List Sp3} (h : ∀ s ∈ ss, SpOk p s) : (∀ z ∈ ss.flatMap (foundOf p), Good p z) ∧ ∀ t, inRuns p (ss.flatMap (foundOf p)) t ↔ inSpans p ss t := by
  refine ⟨fun z hz => ?_, fun t => ?_⟩
  · obtain ⟨s, hs, hz⟩ := List.mem_flatMap.mp hz
    exact foundOf_good hp (h s hs) z hz
  · constructor
    · rintro ⟨z, hz, m⟩
      obtain ⟨s, hs, hz⟩ := List.mem_flatMap.mp hz
      exact ⟨s, hs, (foundOf_mem hp (h s hs) t).mp ⟨z, hz, m⟩⟩
    · rintro ⟨s, hs, m⟩
      obtain ⟨z, hz, m⟩ := (foundOf_mem hp (h s hs) t).mpr m
      exact ⟨z, List.mem_flatMap.mpr ⟨s, hs, hz⟩, m⟩
end
end Rn
end

section
set_option maxHeartbeats 4000000
namespace EW
open PySem PySem.Spec PyProof.Rows L2
/-! ### spans and runs as values -/
def ob : Option Int → V
  | none => .non
  | some i => .int i
/-- a tuple of these -/
def Tp (K : W.Frag) (H : Hp) (v : V) (xs : List V) : Prop := ∃ a, v = .ref a ∧ SqT K H a xs
abbrev Sn (K : W.Frag) (H : Hp) (v : V) (s : Rn.Sp3) : Prop := Tp K H v [ob s.res, ob s.lo, ob s.hi]
abbrev Sns (K : W.Frag) (H : Hp) (vs : List V) (ss : List Rn.Sp3) : Prop := Paired (Sn K H) vs ss
abbrev Rns (K : W.Frag) (H : Hp) (vs : List V) (zs : List Rn.Run) : Prop := Paired (fun v z => Sn K H v z.span) vs zs
section
variable {K : W.Frag} {H H' : Hp} {v : V} {xs vs : List V} {a l : Addr}
theorem Tp.of (h : H a = some (.tup xs)) : Tp K H (.ref a) xs := ⟨a, rfl, SqT.of h⟩
theorem SqT.stay (h : SqT K H a xs) (t : ∀ b ys, H b = some (.tup ys) → H' b = some (.tup ys)) (f : ∀ b o u, H b = some (.frz o u) → H' b = some (.frz o u)) : SqT K H' a xs := by
  rcases h with (h | ⟨o, h⟩) | h
  · exact .inl (.inl (t _ _ h))
  · exact .inl (.inr ⟨o, f _ _ _ h⟩)
  · exact .inr h
theorem SqT.same (h : SqT K H a xs) (s : Same H H') : SqT K H' a xs := SqT.stay h (fun b ys e => s b _ e) fun b o u e => s b _ e
/-- all but lists stands -/
theorem SqT.kept {ys : List V} (h : SqT K H a xs) (hl : H l = some (.lst ys)) (k : Kept l H H') : SqT K H' a xs :=
  SqT.stay h (fun b zs e => k b _ (fun z => by rw [z, hl] at e; cases e) e) fun b o u e => k b _ (fun z => by rw [z, hl] at e; cases e) e
theorem Tp.same (h : Tp K H v xs) (s : Same H H') : Tp K H' v xs := let ⟨a, e, q⟩ := h; ⟨a, e, SqT.same q s⟩
theorem Tp.kept {ys : List V} (h : Tp K H v xs) (hl : H l = some (.lst ys)) (k : Kept l H H') : Tp K H' v xs := let ⟨a, e, q⟩ := h; ⟨a, e, SqT.kept q hl k⟩
theorem Sns.same {ss : List Rn.Sp3} (h : Sns K H vs ss) (s : Same H H') : Sns K H' vs ss := Paired.mono (fun _ _ q => Tp.same q s) h
theorem Sns.kept {ss : List Rn.Sp3} {ys : List V} (h : Sns K H vs ss) (hl : H l = some (.lst ys)) (k : Kept l H H') : Sns K H' vs ss := Paired.mono (fun _ _ q => Tp.kept q hl k) h
theorem Rns.same {zs : List Rn.Run} (h : Rns K H vs zs) (s : Same H H') : Rns K H' vs zs := Paired.mono (fun _ _ q => Tp.same q s) h
theorem Rns.kept {zs : List Rn.Run} {ys : List V} (h : Rns K H vs zs) (hl : H l = some (.lst ys)) (k : Kept l H H') : Rns K H' vs zs := Paired.mono (fun _ _ q => Tp.kept q hl k) h
theorem Rns.spans : ∀ {vs : List V} {zs : List Rn.Run}, Rns K H vs zs → Sns K H vs (zs.map Rn.Run.span)
  | _, _, .nil => .nil
  | _, _, .cons h t => .cons h (Rns.spans t)
theorem pr_append {α β : Type} {F : α → β → Prop} : ∀ {a c : List α} {b d : List β}, Paired F a b → Paired F c d → Paired F (a ++ c) (b ++ d)
  | _, _, _, _, .nil, r => r
  | _, _, _, _, .cons h t, r => .cons h (pr_append t r)
theorem pr_get {α β : Type} {F : α → β → Prop} : ∀ {a : List α} {b : List β} {i : Nat} {x : α}, Paired F a b → a[i]? = some x → ∃ y, b[i]? = some y ∧ F x y
  | _, _, _, _, .nil, e => by simp at e
  | _, _, 0, _, .cons h t, e => by
    simp at e
    subst e
    exact ⟨_, rfl, h⟩
  | _, _, i + 1, x, .cons h t, e => by
    obtain ⟨y, h1, h2⟩ := pr_get (i := i) (x := x) t (by simpa using e)
    exact ⟨y, by simpa using h1, h2⟩
theorem pr_take {α β : Type} {F : α → β → Prop} : ∀ {a : List α} {b : List β} (i : Nat), Paired F a b → Paired F (a.take i) (b.take i)
  | _, _, 0, _ => by
    rw [List.take_zero, List.take_zero]
    exact .nil
  | _, _, _ + 1, .nil => by
    rw [List.take_nil, List.take_nil]
    exact .nil
  | _, _, i + 1, .cons h t => by
    rw [List.take_succ_cons, List.take_succ_cons]
    exact .cons h (pr_take i t)
/-- a list or a tuple -/
def Sq (K : W.Frag) (H : Hp) (a : Addr) (xs : List V) : Prop := SqL K H a xs ∨ SqT K H a xs
theorem Sq.same (h : Sq K H a xs) (s : Same H H') : Sq K H' a xs := h.elim (fun h => .inl (s.seq h)) fun h => .inr (SqT.same h s)
end
/-! ### readings by either of two rules -/
section
variable {X : Cx} {K : W.Frag}
def iSeq (K : W.Frag) (tl : TE) : TI := fun σ H R => iList K tl σ H R ∨ iTup K tl σ H R
theorem pi_seq {tg l : Expr} {tl : TE} (hl : PE X l tl) : PI X tg l (iSeq X.K tl) := ⟨fun pins s σ H R I h => h.elim ((pi_list hl).run pins s σ H R I) ((pi_tup hl).run pins s σ H R I)⟩
theorem pi_seqK (h : X.K = K) {tg l : Expr} {tl : TE} (hl : PE X l tl) : PI X tg l (iSeq K tl) := by
  subst h
  exact pi_seq hl
theorem pi_listK (h : X.K = K) {tg l : Expr} {tl : TE} (hl : PE X l tl) : PI X tg l (iList K tl) := by
  subst h
  exact pi_list hl
theorem pi_tupK (h : X.K = K) {tg l : Expr} {tl : TE} (hl : PE X l tl) : PI X tg l (iTup K tl) := by
  subst h
  exact pi_tup hl
theorem call_isiE (K : W.Frag) (h : X.K = K) : CallR X (.builtin "isinstance") (rIsi K) := by
  subst h
  exact call_isi
theorem ix_tupK (K : W.Frag) (h : X.K = K) : IxR X (rIxT K) := by
  subst h
  exact ix_tup
theorem cr_anyK (K : W.Frag) (h : X.K = K) (hc : X.calm = true) : CallR X (.builtin "any") (rAny K) := by
  subst h
  exact cr_any hc
theorem cr_allK (K : W.Frag) (h : X.K = K) (hc : X.calm = true) : CallR X (.builtin "all") (rAll K) := by
  subst h
  exact cr_all hc
/-- tuple(l), sealed -/
theorem call_tupS (K : W.Frag) (h : X.K = K) : CallR X (.type "tuple") (fun xs H Q => ∃ p ys, xs = [.ref p] ∧ SqL K H p ys ∧ New H (fun _ => .tup ys) Q) := by
  subst h
  intro pins s σ H xs us Q I r h
  obtain ⟨p, ys, e, hq, q⟩ := h
  exact call_tuple_of pins s σ H xs us Q I r ⟨p, ys, e, .inl ⟨hq, fun l hl => q.at hl⟩⟩
end
theorem boot_any : bootBuiltins "any" = some (.builtin "any") := by decide +kernel
theorem boot_all : bootBuiltins "all" = some (.builtin "all") := by decide +kernel
theorem boot_sorted : bootBuiltins "sorted" = some (.builtin "sorted") := by decide +kernel
theorem boot_bool : bootBuiltins "bool" = some (.type "bool") := by decide +kernel
theorem boot_tuple : bootBuiltins "tuple" = some (.type "tuple") := by decide +kernel
theorem boot_set : bootBuiltins "set" = some (.type "set") := by decide +kernel
end EW
end

section
set_option maxHeartbeats 4000000
namespace EW
open PySem PySem.Spec PyProof.Rows L2
/-! ### runs as data -/
def od : Option Int → PyData
  | none => .none
  | some i => .int i
def runD (z : Rn.Run) : PyData := .tuple [.int z.r, od z.lo, od z.hi]
theorem od_dp {K : W.Frag} {H : Hp} (o : Option Int) : Dp K H (ob o) (od o) := by
  cases o with
  | none => exact .non
  | some i => exact .int i
theorem run_dp {K : W.Frag} {H : Hp} {v : V} {z : Rn.Run} (h : Sn K H v z.span) : Dp K H v (runD z) := by
  obtain ⟨a, rfl, q⟩ := h
  exact .tup q (.cons (.int z.r) (.cons (od_dp _) (.cons (od_dp _) .nil)))
theorem runs_dp {K : W.Frag} {H : Hp} : ∀ {vs : List V} {zs : List Rn.Run}, Rns K H vs zs → DpAll K H vs (zs.map runD)
  | _, _, .nil => .nil
  | _, _, .cons h t => .cons (run_dp h) (runs_dp t)
theorem od_lay (o : Option Int) : (od o).canLay0 = true := by cases o <;> rfl
theorem od_depth (o : Option Int) : (od o).depth = 0 := by cases o <;> simp [od, PyData.depth]
theorem run_lay (z : Rn.Run) : (runD z).canLay0 = true := by simp [runD, PyData.canLay0, PyData.canLayAll0, od_lay]
theorem runs_lay : ∀ zs : List Rn.Run, PyData.canLayAll0 (zs.map runD) = true
  | [] => by simp [PyData.canLayAll0]
  | z :: zs => by simp [PyData.canLayAll0, run_lay, runs_lay zs]
theorem run_depth (z : Rn.Run) : (runD z).depth = 1 := by simp [runD, PyData.depth, PyData.depthAll, od_depth]
theorem runs_depth : ∀ zs : List Rn.Run, PyData.depthAll (zs.map runD) ≤ 1
  | [] => by simp [PyData.depthAll]
  | z :: zs => by
    have h := runs_depth zs
    simp [PyData.depthAll, run_depth]
    omega
theorem shaped_list (zs : List Rn.Run) : SeqAt.shaped (.list (zs.map runD)) = true := by
  have h := runs_depth zs
  simp [SeqAt.shaped, PyData.canLay0, PyData.depth, runs_lay]
  omega
theorem shaped_tuple (zs : List Rn.Run) : SeqAt.shaped (.tuple (zs.map runD)) = true := by
  have h := runs_depth zs
  simp [SeqAt.shaped, PyData.canLay0, PyData.depth, runs_lay]
  omega
theorem od_eqv (a b : Option Int) : PyData.eqv (od a) (od b) = decide (a = b) := by
  cases a <;> cases b <;> simp [od, PyData.eqv]
  rfl
theorem run_eqv (x y : Rn.Run) : PyData.eqv (runD x) (runD y) = decide (x = y) := by
  obtain ⟨a, b, c⟩ := x
  obtain ⟨d, e, f⟩ := y
  simp only [runD, PyData.eqv, PyData.eqvAll, od_eqv, Bool.and_true]
  by_cases h : (⟨a, b, c⟩ : Rn.Run) = ⟨d, e, f⟩
  · rw [decide_eq_true h]
    injection h with h1 h2 h3
    simp [h1, h2, h3]
  · rw [decide_eq_false h]
    by_cases h1 : a = d
    · by_cases h2 : b = e
      · have h3 : c ≠ f := fun z => h (by rw [h1, h2, z])
        simp [h1, h2, h3]
      · simp [h2]
    · simp [h1]
theorem runs_eqv : ∀ xs ys : List Rn.Run, PyData.eqvAll (xs.map runD) (ys.map runD) = decide (xs = ys)
  | [], [] => by simp [PyData.eqvAll]
  | [], y :: ys => by simp [PyData.eqvAll]
  | x :: xs, [] => by simp [PyData.eqvAll]
  | x :: xs, y :: ys => by
    rw [List.map_cons, List.map_cons, PyData.eqvAll, run_eqv, runs_eqv xs ys]
    by_cases h1 : x = y
    · by_cases h2 : xs = ys
      · simp [h1, h2]
      · simp [h1, h2]
    · simp [h1]
theorem list_eqv (xs ys : List Rn.Run) : PyData.eqv (.list (xs.map runD)) (.list (ys.map runD)) = decide (xs = ys) := by
  rw [PyData.eqv]
  exact runs_eqv xs ys
theorem tuple_eqv (xs ys : List Rn.Run) : PyData.eqv (.tuple (xs.map runD)) (.tuple (ys.map runD)) = decide (xs = ys) := by
  rw [PyData.eqv]
  exact runs_eqv xs ys
end EW
end

section
set_option maxHeartbeats 4000000
namespace EW
open PySem PySem.Spec PyProof.Rows L2
theorem _root_.L2.Room.u1 {k : Nat} {A : Around} (r : Room k A) : A.units + 1 < cLine := by
  have := r.un
  omega
section
variable {X : Cx} {K : W.Frag} {H H' : Hp} {a d : Addr} {o : HO} {xs vs : List V} {v : V}
theorem SqT.keptO (h : SqT K H a xs) (hd : H d = some o) (n1 : ∀ ys, o ≠ .tup ys) (n2 : ∀ b u, o ≠ .frz b u) (k : Kept d H H') : SqT K H' a xs :=
  SqT.stay h (fun b zs e => k b _ (fun z => by rw [z, hd] at e; exact n1 _ (Option.some.inj e)) e) fun b p u e => k b _ (fun z => by rw [z, hd] at e; exact n2 _ _ (Option.some.inj e)) e
theorem SqT.keptD {kvs : List (Key × V)} (h : SqT K H a xs) (hd : H d = some (.dK kvs)) (k : Kept d H H') : SqT K H' a xs := SqT.keptO h hd (fun _ z => nomatch z) (fun _ _ z => nomatch z) k
theorem Rns.keptD {zs : List Rn.Run} {kvs : List (Key × V)} (h : Rns K H vs zs) (hd : H d = some (.dK kvs)) (k : Kept d H H') : Rns K H' vs zs :=
  Paired.mono (fun _ _ q => let ⟨a, e, t⟩ := q; ⟨a, e, SqT.keptD t hd k⟩) h
/-- {} -/
theorem pe_dnewS {pos : Pos} : PE X (.Dict [] [] pos) (fun σ H Q => New H (fun _ => .dK []) Q) :=
  PE.imp pe_dnewK fun σ H Q q p hp => q.at hp
/-- runs by their residues -/
structure Grp (K : W.Frag) (H : Hp) (kvs : List (Key × V)) (zs : List Rn.Run) : Prop where
  itg : ∀ q ∈ kvs, ∃ r : Int, q.1 = Sum.inl r
  nd : (kvs.map (·.1)).Nodup
  len : kvs.length ≤ zs.length
  no : ∀ r : Int, valV kvs (Sum.inl r : Key) = none → ∀ z ∈ zs, z.r ≠ r
  yes : ∀ (r : Int) (v : V), valV kvs (Sum.inl r : Key) = some v → (∃ (l : Addr) (ys : List V), v = .ref l ∧ H l = some (.lst ys) ∧ Rns K H ys (zs.filter fun z => decide (z.r = r))) ∧ ∃ z ∈ zs, z.r = r
theorem Grp.nil : Grp K H [] [] := ⟨(fun _ h => nomatch h), List.nodup_nil, Nat.le_refl _, (fun _ _ _ h => nomatch h), fun r v h => by cases h⟩
theorem Grp.same {kvs : List (Key × V)} {zs : List Rn.Run} (g : Grp K H kvs zs) (s : Same H H') : Grp K H' kvs zs := ⟨g.itg, g.nd, g.len, g.no, fun r v h => by
  obtain ⟨⟨l, ys, e, hl, R⟩, z⟩ := g.yes r v h
  exact ⟨⟨l, ys, e, s _ _ hl, Rns.same R s⟩, z⟩⟩
theorem Grp.keptD {kvs kvs' : List (Key × V)} {zs : List Rn.Run} (g : Grp K H kvs zs) (hd : H d = some (.dK kvs')) (k : Kept d H H') : Grp K H' kvs zs := ⟨g.itg, g.nd, g.len, g.no, fun r v h => by
  obtain ⟨⟨l, ys, e, hl, R⟩, z⟩ := g.yes r v h
  exact ⟨⟨l, ys, e, k _ _ (fun z => by rw [z, hd] at hl; cases hl) hl, Rns.keptD R hd k⟩, z⟩⟩
theorem put_keys {kvs : List (Key × V)} {k : Key} {v : V} (nd : (kvs.map (·.1)).Nodup) : ((putK kvs k v).map (·.1)).Nodup ∧ (putK kvs k v).length ≤ kvs.length + 1 ∧ ∀ q ∈ putK kvs k v, q.1 = k ∨ ∃ q' ∈ kvs, q'.1 = q.1 := by
  cases h : valV kvs k with
  | none =>
    rw [putK_new v h]
    refine ⟨?_, by rw [List.length_append]; exact Nat.le_refl _, fun q hq => ?_⟩
    · rw [List.map_append, List.nodup_append]
      refine ⟨nd, by simp, ?_⟩
      intro x hx y hy e
      have hy' : y = k := by simpa using hy
      rw [hy'] at e
      obtain ⟨q, hq, rfl⟩ := List.mem_map.mp hx
      have z := valV_any k kvs
      rw [h] at z
      have z2 := List.any_eq_false.mp z q hq
      exact z2 (decide_eq_true e)
    · rcases List.mem_append.mp hq with hq | hq
      · exact .inr ⟨q, hq, rfl⟩
      · exact .inl (by rw [List.mem_singleton.mp hq])
  | some u =>
    have z := valV_any k kvs
    rw [h] at z
    have e : putK kvs k v = kvs.map (fun kv => if kv.1 = k then (kv.1, v) else kv) := by
      unfold putK
      exact if_pos z
    have em : (putK kvs k v).map (·.1) = kvs.map (·.1) := by
      rw [e, List.map_map]
      refine List.map_congr_left fun q _ => ?_
      show (if q.1 = k then (q.1, v) else q).1 = q.1
      split <;> rfl
    refine ⟨by rw [em]; exact nd, by rw [e, List.length_map]; exact Nat.le_succ _, fun q hq => ?_⟩
    have hm : q.1 ∈ (putK kvs k v).map (·.1) := List.mem_map.mpr ⟨q, hq, rfl⟩
    rw [em] at hm
    obtain ⟨q', h1, h2⟩ := List.mem_map.mp hm
    exact .inr ⟨q', h1, h2⟩
theorem Grp.put {kvs : List (Key × V)} {zs : List Rn.Run} {y : Rn.Run} {l : Addr} {ys : List V} (g : Grp K H kvs zs) (hl : H l = some (.lst ys)) (R : Rns K H ys ((zs ++ [y]).filter fun z => decide (z.r = y.r))) : Grp K H (putK kvs (Sum.inl y.r) (.ref l)) (zs ++ [y]) := by
  obtain ⟨p1, p2, p3⟩ := put_keys (k := (Sum.inl y.r : Key)) (v := .ref l) g.nd
  have gl := g.len
  refine ⟨fun q hq => ?_, p1, by rw [List.length_append]; exact Nat.le_trans p2 (Nat.succ_le_succ gl), fun r hn z hz => ?_, fun r v hv => ?_⟩
  · rcases p3 q hq with e | ⟨q', h1, h2⟩
    · exact ⟨_, e⟩
    · rw [← h2]
      exact g.itg q' h1
  · rw [valV_put] at hn
    by_cases e : (Sum.inl r : Key) = Sum.inl y.r
    · rw [if_pos e] at hn
      cases hn
    · rw [if_neg e] at hn
      rcases List.mem_append.mp hz with hz | hz
      · exact g.no r hn z hz
      · rw [List.mem_singleton.mp hz]
        exact fun c => e (by rw [c])
  · rw [valV_put] at hv
    by_cases e : (Sum.inl r : Key) = Sum.inl y.r
    · rw [if_pos e] at hv
      cases hv
      obtain rfl : r = y.r := Sum.inl.inj e
      exact ⟨⟨l, ys, rfl, hl, R⟩, y, List.mem_append_right _ List.mem_cons_self, rfl⟩
    · rw [if_neg e] at hv
      obtain ⟨⟨l', ys', e1, e2, R'⟩, z, hz, ez⟩ := g.yes r v hv
      refine ⟨⟨l', ys', e1, e2, ?_⟩, z, List.mem_append_left _ hz, ez⟩
      have e3 : [y].filter (fun z => decide (z.r = r)) = [] := by
        rw [List.filter_cons, if_neg (by simpa using fun c => e (by rw [c]))]
        rfl
      rw [List.filter_append, e3, List.append_nil]
      exact R'
end
end EW
end

section
set_option maxHeartbeats 4000000
namespace EW
open PySem PySem.Spec PyProof.Rows L2
/-- a walk over a list, what is done at an item said as it is -/
theorem loop_list {K : W.Frag} {a : Addr} {xs : List V} {H0 : Hp} {Qd : Hp → Prop} {B : V → Hp → (Hp → Prop) → Prop} (Pv : Nat → Hp → Prop) (h0 : Pv 0 H0) (hl : ∀ i H, i ≤ xs.length → Pv i H → SqL K H a xs)
    (hs : ∀ i x H, xs[i]? = some x → Pv i H → B x H (Pv (i + 1))) (hd : ∀ H, Pv xs.length H → Qd H) :
    ∃ W : Nat → Nat → Hp → Prop, (∃ m, W 0 m H0) ∧ ∀ i m H, W i m H → ((Itl K a).stop i H ∧ Qd H) ∨ ((Itl K a).go i H ∧ ∃ Nx : Hp → Prop, (∀ H', Nx H' → ∃ m', m' < m ∧ W (i + 1) m' H') ∧ ∀ x H', (Itl K a).yld i H x H' → B x H' Nx) := by
  refine ⟨fun i m H => m = xs.length - i ∧ i ≤ xs.length ∧ Pv i H, ⟨xs.length, rfl, Nat.zero_le _, h0⟩, ?_⟩
  rintro i m H ⟨rfl, hi, p⟩
  have q := hl i H hi p
  rcases Nat.lt_or_ge i xs.length with hlt | hge
  · refine .inr ⟨⟨xs, xs[i], q, List.getElem?_eq_getElem hlt⟩, Pv (i + 1), fun H' p' => ⟨xs.length - (i + 1), by omega, rfl, hlt, p'⟩, fun x H' y => ?_⟩
    obtain ⟨rfl, y⟩ := y
    exact hs i x _ (y xs q) p
  · obtain rfl : i = xs.length := by omega
    exact .inl ⟨⟨xs, q, Nat.le_refl _⟩, hd H p⟩
theorem loop_tup {K : W.Frag} {a : Addr} {xs : List V} {H0 : Hp} {Qd : Hp → Prop} {B : V → Hp → (Hp → Prop) → Prop} (Pv : Nat → Hp → Prop) (h0 : Pv 0 H0) (hl : ∀ i H, i ≤ xs.length → Pv i H → SqT K H a xs)
    (hs : ∀ i x H, xs[i]? = some x → Pv i H → B x H (Pv (i + 1))) (hd : ∀ H, Pv xs.length H → Qd H) :
    ∃ W : Nat → Nat → Hp → Prop, (∃ m, W 0 m H0) ∧ ∀ i m H, W i m H → ((Itt K a).stop i H ∧ Qd H) ∨ ((Itt K a).go i H ∧ ∃ Nx : Hp → Prop, (∀ H', Nx H' → ∃ m', m' < m ∧ W (i + 1) m' H') ∧ ∀ x H', (Itt K a).yld i H x H' → B x H' Nx) := by
  refine ⟨fun i m H => m = xs.length - i ∧ i ≤ xs.length ∧ Pv i H, ⟨xs.length, rfl, Nat.zero_le _, h0⟩, ?_⟩
  rintro i m H ⟨rfl, hi, p⟩
  have q := hl i H hi p
  rcases Nat.lt_or_ge i xs.length with hlt | hge
  · refine .inr ⟨⟨xs, xs[i], q, List.getElem?_eq_getElem hlt⟩, Pv (i + 1), fun H' p' => ⟨xs.length - (i + 1), by omega, rfl, hlt, p'⟩, fun x H' y => ?_⟩
    obtain ⟨rfl, y⟩ := y
    exact hs i x _ (y xs q) p
  · obtain rfl : i = xs.length := by omega
    exact .inl ⟨⟨xs, q, Nat.le_refl _⟩, hd H p⟩
theorem loop_rg {lo : Int} {n : Nat} {H0 : Hp} {Qd : Hp → Prop} {B : V → Hp → (Hp → Prop) → Prop} (Pv : Nat → Hp → Prop) (h0 : Pv 0 H0)
    (hs : ∀ i H, i < n → Pv i H → B (.int (lo + i)) H (Pv (i + 1))) (hd : ∀ H, Pv n H → Qd H) :
    ∃ W : Nat → Nat → Hp → Prop, (∃ m, W 0 m H0) ∧ ∀ i m H, W i m H → ((Itr lo n).stop i H ∧ Qd H) ∨ ((Itr lo n).go i H ∧ ∃ Nx : Hp → Prop, (∀ H', Nx H' → ∃ m', m' < m ∧ W (i + 1) m' H') ∧ ∀ x H', (Itr lo n).yld i H x H' → B x H' Nx) := by
  refine ⟨fun i m H => m = n - i ∧ i ≤ n ∧ Pv i H, ⟨n, rfl, Nat.zero_le _, h0⟩, ?_⟩
  rintro i m H ⟨rfl, hi, p⟩
  rcases Nat.lt_or_ge i n with hlt | hge
  · refine .inr ⟨hlt, Pv (i + 1), fun H' p' => ⟨n - (i + 1), by omega, rfl, hlt, p'⟩, fun x H' y => ?_⟩
    obtain ⟨rfl, rfl⟩ := y
    exact hs i _ hlt p
  · obtain rfl : i = n := by omega
    exact .inl ⟨Nat.le_refl _, hd H p⟩
section
variable {X : Cx}
theorem boot_list : bootBuiltins "list" = some (.type "list") := by decide +kernel
/-- list(range(..)), sealed -/
theorem pe_listRg1S {a : Expr} {ta : TE} {p pos p' pos' : Pos} (hc : X.calm = true) (hg : Gl X "list") (hm : X.mg "list" = none) (hg' : Gl X "range") (hm' : X.mg "range" = none) (ha : PE X a ta) (na' : starEach [a] X.env = (false, eval a X.env) :: starEach [] X.env := by rfl)
    (na : starEach [.Call (.Name "range" p') [a] [] pos'] X.env = (false, eval (.Call (.Name "range" p') [a] [] pos') X.env) :: starEach [] X.env := by rfl) :
    PE X (.Call (.Name "list" p) [.Call (.Name "range" p') [a] [] pos'] [] pos) (fun σ H Q => ta σ H fun x H1 => ∃ n, x = .int n ∧ RgOk 0 n ∧ New H1 (fun _ => .lst (rgV 0 n)) Q) := by
  refine PE.imp (pe_listRg hc hg hm (prg_1 hg' hm' (PE.cl ha) na') na) fun σ H Q q => ⟨_, q, fun v H1 z => ?_⟩
  obtain ⟨n, e, ok, nw⟩ := z
  exact ⟨n, e, ok, fun q hq => nw.at hq⟩
theorem pe_listRg2S {a b : Expr} {ta tb : TE} {p pos p' pos' : Pos} (hc : X.calm = true) (hg : Gl X "list") (hm : X.mg "list" = none) (hg' : Gl X "range") (hm' : X.mg "range" = none) (ha : PE X a ta) (hb : PE X b tb) (na1 : starEach [a, b] X.env = (false, eval a X.env) :: starEach [b] X.env := by rfl) (nb : starEach [b] X.env = (false, eval b X.env) :: starEach [] X.env := by rfl) (hp : (backTo pos' (starEach [b] X.env)).any (·.1) = false := by rfl)
    (na : starEach [.Call (.Name "range" p') [a, b] [] pos'] X.env = (false, eval (.Call (.Name "range" p') [a, b] [] pos') X.env) :: starEach [] X.env := by rfl) :
    PE X (.Call (.Name "list" p) [.Call (.Name "range" p') [a, b] [] pos'] [] pos) (fun σ H Q => ta σ H fun x H1 => tb σ H1 fun y H2 => ∃ i j, x = .int i ∧ y = .int j ∧ RgOk i j ∧ New H2 (fun _ => .lst (rgV i j)) Q) := by
  refine PE.imp (pe_listRg hc hg hm (prg_2 hg' hm' (PE.cl ha) (PE.cl hb) na1 nb hp) na) fun σ H Q q => ⟨_, q, fun v H1 z => ⟨_, z, fun y H2 z => ?_⟩⟩
  obtain ⟨i, j, e, e', ok, nw⟩ := z
  exact ⟨i, j, e, e', ok, fun q hq => nw.at hq⟩
theorem cr_sortedIS (K : W.Frag) (h : X.K = K) : CallR X (.builtin "sorted") (fun vs H Q => ∃ (a : Addr) (ns : List Int), vs = [V.ref a] ∧ SqL K H a (ns.map V.int) ∧ ∀ ns' : List Int, ns'.Perm ns → ns'.Pairwise (· ≤ ·) → New H (fun _ => .lst (ns'.map V.int)) Q) := by
  subst h
  intro pins s σ H xs us Q I r h
  obtain ⟨a, ns, e, hS, q⟩ := h
  exact cr_sortedI pins s σ H xs us Q I r ⟨a, ns, e, hS, fun ns' p h1 h2 hp => (q ns' h1 h2).at hp⟩
theorem call_listDS (hc : X.calm = true) : CallR X (.type "list") (fun xs H Q => ∃ (a : Addr) (kvs : List (Key × V)), xs = [.ref a] ∧ H a = some (.dK kvs) ∧ New H (fun _ => .lst (kvs.map fun kv => kV kv.1)) Q) := by
  intro pins s σ H xs us Q I r h
  obtain ⟨a, kvs, e, hd, q⟩ := h
  exact call_listD hc pins s σ H xs us Q I r ⟨a, kvs, e, .inl hd, fun p hp => q.at hp⟩
theorem call_listS (K : W.Frag) (h : X.K = K) : CallR X (.type "list") (fun xs H Q => ∃ (p : Addr) (ys : List V), xs = [.ref p] ∧ Sq K H p ys ∧ New H (fun _ => .lst ys) Q) := by
  subst h
  intro pins s σ H xs us Q I r h
  obtain ⟨p, ys, e, hS, q⟩ := h
  exact call_list_of pins s σ H xs us Q I r ⟨p, ys, e, hS, fun l hl => q.at hl⟩
end
end EW
end

section
set_option maxHeartbeats 4000000
namespace EW
open PySem PySem.Spec PyProof.Rows L2
/-! ### set(l), sorted(s): ints, some thousands of them -/
section
variable {P : Program} {w : World} {A : Around} {E : Value → Shared → Prop} {s : Shared}
/-- an empty set as it is made -/
abbrev eset (w : World) : Obj := { cls := .type "set", dict := none, data := .set #[] 0 (.fresh 0 0 (!w.params.followText "set-order")) }
/-- what set.__init__ leaves behind -/
def Full (w : World) (s : Shared) (ns : List Int) (r : Value) (s₂ : Shared) : Prop := r = .none ∧ ∃ h' tk c, s₂ = { s with heap := h', toks := tk } ∧ SetR w h' s.heap.objs.size (fun j => decide (j ∈ ns)) c ∧ c ≤ ns.length ∧ ∀ b o, s.heap.get? b = some o → h'.get? b = some o
theorem ints_get {items : Array Value} {ns : List Int} (hit : IntsAre items.toList ns) (i : Nat) (v : Value) (hv : items[i]? = some v) : ∃ k t, ns[i]? = some k ∧ v = .int k t := by
  have hl := IntsAre.length hit
  rw [Array.length_toList] at hl
  have hi : i < ns.length := by rw [← hl]; exact (Array.getElem?_eq_some_iff.mp hv).1
  obtain ⟨t, e⟩ := IntsAre.int_at hit i v (by rw [Array.getElem?_toList]; exact hv)
  rw [List.getD_eq_getElem?_getD, List.getElem?_eq_getElem hi] at e
  exact ⟨ns[i], t, List.getElem?_eq_getElem hi, e⟩
theorem init_list {l : Addr} {items : Array Value} {ns : List Int} (hh : A.handled = none) (hl : s.heap.IsList l items) (hit : IntsAre items.toList ns) (hb : ns.length + 1 < scanBound) :
    codeAny (model P w) A (.call (.builtin "set.__init__") ⟨[.ref s.heap.objs.size, .ref l], []⟩) (wants (Full w s ns) E) { s with heap := s.heap.push (eset w) } := by
  have hsz : items.size = ns.length := by
    have q := IntsAre.length hit
    rw [Array.length_toList] at q
    exact q
  have hS : (s.heap.push (eset w)).get? s.heap.objs.size = some (eset w) := Heap.get?_push_size _ rfl
  refine codeAny_call_builtin F.called_set.init.plain F.entry_set_init (check_set_init_1 ⟨_, hS, rfl⟩ ?_)
  obtain ⟨o, ho, hc, n, hd⟩ := id hl
  obtain ⟨oc, od, dt, osl⟩ := o
  simp only at hc hd
  subst hc hd
  have ho' : (s.heap.push (eset w)).get? l = some { cls := .type "list", dict := od, data := .seq items n, slots := osl } := Heap.get?_push_of_some _ ho
  have hl' : (s.heap.push (eset w)).IsList l items := ⟨_, ho', rfl, n, rfl⟩
  have f1 := F.sub_list_set
  have f2 := F.sub_list_frozenset
  have f3 : (Value.type "list" == Value.type "dict") = false := by decide
  unfold Builtin.«set.__init__» noKeywords Builtin.Frozenset.updateFrom
  generalize hPI : pyIter = PI
  wp_walk
  subst hPI
  refine wpAny_pyIter_list hl' ?_
  refine wpAny_bind (wpAny_runValue ?_)
  have hlt : l < s.heap.objs.size := Heap.lt_size ho
  have h3 : A.in1.in1.handled = none := by simp [hh]
  have hz : (s.heap.push (eset w)).objs.size = s.heap.objs.size + 1 := Heap.size_push ..
  have ne1 : l ≠ (s.heap.push (eset w)).objs.size := by rw [hz]; exact Nat.ne_of_lt (Nat.lt_succ_of_lt hlt)
  have ne2 : s.heap.objs.size ∉ [(s.heap.push (eset w)).objs.size, l] := by
    rw [hz]
    simp only [List.mem_cons, List.not_mem_nil, or_false, not_or]
    exact ⟨Nat.ne_of_lt (Nat.lt_succ_self _), Nat.ne_of_gt hlt⟩
  refine set_update_ints ((Walks.list h3 _ l ne1 items).toS) s.heap.objs.size ne2 ns hsz hb (ints_get hit) (items.size - 0) 0 _ (by omega) (Nat.zero_le _) ?_ ?_ ?_
  · exact ⟨⟨_, Heap.get?_push_size _ rfl, rfl, rfl⟩, (hl'.push _)⟩
  · exact ⟨0, Nat.le_refl 0, setR_new_at (w := w) (Heap.get?_push_of_some _ hS)⟩
  intro s' c' hm hc' hS'
  obtain ⟨h', g2, d', tk', os'⟩ := s'
  obtain rfl : g2 = s.gens := hm.gens
  obtain rfl : d' = s.drawn := hm.drawn
  obtain rfl : os' = s.os := hm.os
  rw [hsz] at hc'
  refine wpAny_pure (wpAny_pure ⟨rfl, h', tk', c', rfl, hS', hc', fun b o e => ?_⟩)
  have hb0 : b < s.heap.objs.size := Heap.lt_size e
  refine hm.heap b o ?_ (Heap.get?_push_of_some _ (Heap.get?_push_of_some _ e))
  simp only [List.mem_cons, List.not_mem_nil, or_false, not_or]
  rw [hz]
  exact ⟨Nat.ne_of_lt hb0, Nat.ne_of_lt (Nat.lt_succ_of_lt hb0)⟩
theorem call_setL {l : Addr} {items : Array Value} {ns : List Int} {Q : Value → Shared → Prop} (hh : A.handled = none) (hl : s.heap.IsList l items) (hit : IntsAre items.toList ns) (hb : ns.length + 1 < scanBound)
    (h : ∀ (h' : Heap) (tk c : Nat), SetR w h' s.heap.objs.size (fun j => decide (j ∈ ns)) c → c ≤ ns.length → (∀ b o, s.heap.get? b = some o → h'.get? b = some o) → Q (.ref s.heap.objs.size) { s with heap := h', toks := tk }) :
    wpAny (model P w) A (call (.type "set") [.ref l]) Q E s := by
  have hct := F.typeCall_set_1 (.ref l)
  have h1 := F.called_set.notType
  have h2 := F.called_set.canCreate
  have h3 := F.called_set.made
  have h4 := F.called_set.sub
  obtain ⟨c0, tl, h5⟩ := F.called_set.mro
  refine wpAny_call (codeAny_of_tree ?_)
  show wpAny _ _ (callAny (.type "set") _) _ _ _
  refine wpAny_pure ⟨Code.quiet_builtin _ (by decide +kernel), codeAny_builtin F.entry_type_call ?_⟩
  rw [Around.under_plain (weight_type_call_type "set" [.ref l] []) rfl]
  repeat (any_goals (first | assumption | wp_step))
  refine codeAny_mono (code_set_led1 (.ref l) (E := E) (Q₁ := fun obj s₁ => obj = .ref s.heap.objs.size ∧ s₁ = { s with heap := s.heap.push (eset w) }) ⟨rfl, rfl⟩) fun r s₁ hr => ?_
  match r, hr with
  | .error e, hr => exact hr
  | .ok (.ret obj), hr =>
    obtain ⟨rfl, rfl⟩ := hr
    have hT : Shared.TypeIs { s with heap := s.heap.push (eset w) } (.ref s.heap.objs.size) "set" := ⟨_, Heap.get?_push_size _ rfl, rfl⟩
    have h6 := F.called_set.init.lookup
    have h7 := F.called_set.init.bind (.ref s.heap.objs.size)
    repeat (any_goals (first | assumption | wp_step))
    refine codeAny_mono (init_list (E := E) (by simp [hh]) hl hit hb) fun r₂ s₂ hr₂ => ?_
    match r₂, hr₂ with
    | .error e, hr₂ => exact hr₂
    | .ok (.ret r), hr₂ =>
      obtain ⟨rfl, h', tk, c', rfl, k1, k2, k3⟩ := hr₂
      repeat (any_goals (first | assumption | wp_step))
      exact h _ _ _ k1 k2 k3
    | .ok .next, hr₂ => exact hr₂.elim
    | .ok .brk, hr₂ => exact hr₂.elim
    | .ok .cont, hr₂ => exact hr₂.elim
  | .ok .next, hr => exact hr.elim
  | .ok .brk, hr => exact hr.elim
  | .ok .cont, hr => exact hr.elim
end
end EW
end

section
set_option maxHeartbeats 4000000
namespace EW
open PySem PySem.Spec PyProof.Rows L2
section
variable {P : Program} {w : World} {A : Around} {E : Value → Shared → Prop} {s : Shared} {a : Addr}
/-- sorted(s), any number of members: a new list of ints -/
theorem sorted_setA {S : Int → Bool} {n : Nat} {Q : Value → Shared → Prop} (R : SetR w s.heap a S n) (hh : A.handled = none)
    (hQ : ∀ (s' : Shared) (p : Addr) (out : List Value) (c : Nat) (ns : List Int), (∀ b o, s.heap.get? b = some o → s'.heap.get? b = some o) → s'.gens = s.gens → s'.os = s.os → s.heap.objs.size ≤ p → s'.heap.get? p = some (seqObj "list" out.toArray c) → IntsAre out ns → ns.length = n → Q (.ref p) s') :
    wpAny (model P w) A (call (.builtin "sorted") [.ref a]) Q E s := by
  obtain ⟨o, es, ep, t, ho, hex, hd, g, nd, hm, hb, hf, hn, hr, hl⟩ := R
  refine Calls.call_function_entry kind_sorted plain_sorted entry_sorted (args_sorted1 _) ?_
  unfold Builtin.«sorted»
  refine wpAny_bind (m := checkCount "sorted" 1 1 _) (wpAny_pure ?_)
  refine wpAny_bind (collect_set (A := A.in1) hh ⟨o, ho, hex.1, hd⟩ hf hb hr hl fun s1 vs k1 hz g1 o1 pm => ?_)
  have hvl : vs.length = n := by rw [pm.length_eq, List.length_map, Array.length_toList]; exact hn
  have hsc : scanBound ≤ sizeLine := by decide
  have hvz : vs.length ≤ sizeLine := by omega
  have hI : IntsAre vs (vs.map Builtin.Re.reRawOf) := ints_of vs fun v hv => by
    obtain ⟨e, he, q⟩ := List.mem_map.mp (pm.mem_iff.mp hv)
    obtain ⟨k, tk, z, _⟩ := g e he
    exact ⟨k, tk, q ▸ z⟩
  refine wpAny_bind (wpAny_newList ?_ hvz)
  have hoL : (s1.heap.push (seqObj "list" vs.toArray 0)).get? s1.heap.objs.size = some (seqObj "list" vs.toArray 0) := Heap.get?_push_size _ rfl
  refine wpAny_bind (wpAny_holding (wpAny_call_entry slot_list_sort ⟨_, hoL, rfl⟩ entry_list_sort (SrtO.list_sort_ord SrtO.swo_int hoL hvz (fun h2 => SrtO.ints_sortable hI h2) fun out b1 b2 => ⟨_, rfl, ?_⟩) (args_list_sort _)))
  obtain ⟨c, hc⟩ := sortedHeap_at (vs := vs) (out := out.toArray) hoL
  obtain ⟨i1, i2, _⟩ := SrtO.ints_out hI b1 b2
  refine wpAny_pure ⟨_, rfl, hQ _ s1.heap.objs.size out c _ (fun b u e => ?_) g1 o1 hz hc i1 ?_⟩
  · have q := k1 b u e
    have hlt := Heap.lt_size q
    show (sortedHeap (s1.heap.push (seqObj "list" vs.toArray 0)) s1.heap.objs.size vs out.toArray).get? b = some u
    rw [sortedHeap_old (Nat.ne_of_lt hlt) (by rw [size_push']; exact Nat.lt_succ_of_lt hlt)]
    exact Heap.get?_push_of_some _ q
  · rw [i2.length_eq, List.length_map]
    exact hvl
end
section
variable {X : Cx}
/-- set(l) -/
theorem cr_setL (hc : X.calm = true) : CallR X (.type "set") (fun vs H Q => ∃ (a : Addr) (ns : List Int), vs = [V.ref a] ∧ SqL X.K H a (ns.map V.int) ∧ ns.length + 1 < scanBound ∧ ∀ (p : Addr) (S : Int → Bool) (c : Nat) (H' : Hp), H p = none → Same H H' → H' p = some (SetO X.w p S c) → c ≤ ns.length → Q (.ref p) H') := by
  intro pins s σ H vs us Q I r h
  obtain ⟨a, ns, rfl, hS, hb, q⟩ := h
  obtain rfl := Vals.ref1 r
  obtain ⟨its, rv, hl, hz⟩ := I.list hS
  refine call_setL (I.ok.hd hc) hl.isList (show IntsAre its.toArray.toList ns from rv.ints) hb fun h' tk c R hcn kp => ?_
  have hf := I.hok.fresh (Nat.le_refl s.heap.objs.size)
  exact ⟨.ref _, upd H s.heap.objs.size (SetO X.w s.heap.objs.size (fun j => decide (j ∈ ns)) c), I.laid (t' := tk) kp (Nat.le_refl _) (setO_new R), rfl, q _ _ c _ hf (sameN hf) upd_same hcn⟩
/-- sorted(s) -/
theorem cr_sortedSetA (hc : X.calm = true) : CallR X (.builtin "sorted") (fun vs H Q => ∃ (a : Addr) (S : Int → Bool) (n : Nat), vs = [V.ref a] ∧ H a = some (SetO X.w a S n) ∧ ∀ ns : List Int, ns.length = n → New H (fun _ => .lst (ns.map V.int)) Q) := by
  intro pins s σ H vs us Q I r h
  obtain ⟨a, S, n, rfl, ha, q⟩ := h
  have R := setO_get I ha
  have hn := R
  obtain rfl := Vals.ref1 r
  refine sorted_setA R (I.ok.hd hc) fun s' p out c ns k g o hp hg hi hl => ?_
  have hlen : (ns.map V.int).length ≤ sizeLine := by
    obtain ⟨_, es, _, _, _, _, _, _, _, _, hb, _, hen, _⟩ := hn
    have hsc : scanBound ≤ sizeLine := by decide
    rw [List.length_map, hl]
    omega
  have hf : H p = none := I.hok.fresh hp
  have J : Inv X pins σ (upd H p (.lst (ns.map V.int))) { s with heap := s'.heap, gens := s'.gens, drawn := s'.drawn, toks := s'.toks } :=
    I.call (ch := []) (Un.laid k hp hf) (I.hok.laid k hp ⟨hlen, out, c, vals_of_ints hi, hg⟩) (by rw [g]; exact I.bare) (fun _ z => nomatch z)
  have e : s' = { s with heap := s'.heap, gens := s'.gens, drawn := s'.drawn, toks := s'.toks } := by
    cases s'
    cases s
    cases o
    rfl
  rw [e]
  exact ⟨.ref p, _, J, rfl, (q ns hl).at hf⟩
end
end EW
end

section
set_option maxHeartbeats 4000000
namespace EW
open PySem PySem.Spec PyProof.Rows L2
/-! ### slices, sealed -/
section
variable {X : Cx}
theorem sl_tupS (K : W.Frag) (h : X.K = K) : SlR X (fun x lo hi H Q => ∃ a xs, x = .ref a ∧ SqT K H a xs ∧ ¬ (HT.sIx xs.length 0 lo = 0 ∧ HT.sIx xs.length xs.length hi = xs.length) ∧ New H (fun _ => .tup (cutV xs lo hi)) Q) := by
  subst h
  intro pins s σ H x v vl vu lo hi sl Q I rx hs pl pu h
  obtain ⟨a, xs, e, hS, n, q⟩ := h
  exact sl_tup pins s σ H x v vl vu lo hi sl Q I rx hs pl pu ⟨a, xs, e, hS, n, fun p hp => q.at hp⟩
theorem sl_listS (K : W.Frag) (h : X.K = K) : SlR X (fun x lo hi H Q => ∃ a xs, x = .ref a ∧ SqL K H a xs ∧ New H (fun _ => .lst (cutV xs lo hi)) Q) := by
  subst h
  intro pins s σ H x v vl vu lo hi sl Q I rx hs pl pu h
  obtain ⟨a, xs, e, hS, q⟩ := h
  exact sl_list pins s σ H x v vl vu lo hi sl Q I rx hs pl pu ⟨a, xs, e, hS, fun p hp => q.at hp⟩
end
end EW
end

section

namespace Rn
variable {p : Int}
theorem join_mem {all : List Run} {gs : List (Int × List Run)} (hk : ∀ z ∈ all, z.r ∈ gs.map (·.1)) (hg : ∀ q ∈ gs, ∀ t, inRuns p q.2 t ↔ inRuns p (all.filter fun z => decide (z.r = q.1)) t) (t : Int) : inRuns p (gs.flatMap (·.2)) t ↔ inRuns p all t := by
  constructor
  · rintro ⟨z, hz, m⟩
    obtain ⟨q, hq, hz⟩ := List.mem_flatMap.mp hz
    obtain ⟨y, hy, m'⟩ := (hg q hq t).mp ⟨z, hz, m⟩
    exact ⟨y, (List.mem_filter.mp hy).1, m'⟩
  · rintro ⟨z, hz, m⟩
    obtain ⟨q, hq, e⟩ := List.mem_map.mp (hk z hz)
    obtain ⟨y, hy, m'⟩ := (hg q hq t).mpr ⟨z, List.mem_filter.mpr ⟨hz, decide_eq_true e.symm⟩, m⟩
    exact ⟨y, List.mem_flatMap.mpr ⟨q, hq, hy⟩, m'⟩
theorem len_parts (f : Run → Bool) : ∀ all : List Run, (all.filter f).length + (all.filter fun z => !f z).length = all.length
  | [] => rfl
  | z :: all => by
    have ih := len_parts f all
    rw [List.filter_cons, List.filter_cons]
    cases f z with
    | true =>
      simp
      omega
    | false =>
      simp
      omega
theorem join_len : ∀ {gs : List (Int × List Run)} {all : List Run}, (gs.map (·.1)).Nodup → (∀ q ∈ gs, q.2.length ≤ (all.filter fun z => decide (z.r = q.1)).length) → (gs.flatMap (·.2)).length ≤ all.length
  | [], _, _, _ => Nat.zero_le _
  | q :: gs, all, nd, h => by
    rw [List.map_cons, List.nodup_cons] at nd
    have h1 := h q List.mem_cons_self
    have ih := join_len (gs := gs) (all := all.filter fun z => !decide (z.r = q.1)) nd.2 fun q' hq' => by
      have h2 := h q' (List.mem_cons_of_mem _ hq')
      have ne : q'.1 ≠ q.1 := fun e => nd.1 (List.mem_map.mpr ⟨q', hq', e⟩)
      have e : (all.filter fun z => !decide (z.r = q.1)).filter (fun z => decide (z.r = q'.1)) = all.filter fun z => decide (z.r = q'.1) := by
        rw [List.filter_filter]
        refine List.filter_congr fun z _ => ?_
        by_cases c : z.r = q'.1
        · have c2 : z.r ≠ q.1 := fun x => ne (c.symm.trans x)
          simp [c, c2, ne]
        · simp [c]
      rw [e]
      exact h2
    have e2 : (all.filter fun z => decide (z.r = q.1)).length + (all.filter fun z => !decide (z.r = q.1)).length = all.length := by
      exact len_parts _ all
    rw [List.flatMap_cons, List.length_append]
    omega
theorem sorted_lt : ∀ {ns : List Int}, ns.Pairwise (· ≤ ·) → ns.Nodup → ns.Pairwise (· < ·)
  | [], _, _ => List.Pairwise.nil
  | n :: ns, h, nd => by
    rw [List.pairwise_cons] at h ⊢
    rw [List.nodup_cons] at nd
    refine ⟨fun m hm => ?_, sorted_lt h.2 nd.2⟩
    have h1 := h.1 m hm
    have h2 : n ≠ m := fun e => nd.1 (e ▸ hm)
    omega
end Rn
end

section

namespace Rn
variable {p r : Int}
/-- what lies between begin and a run's least time -/
def ahead (p r : Int) (b lo : Option Int) : List Sp3 := match lo with
  | none => []
  | some l => match b with
    | none => [⟨some r, none, some (l - p)⟩]
    | some c => if c < l then [⟨some r, some c, some (l - p)⟩] else []
/-- what lies between runs of one residue and behind them, from begin on -/
def outs (p r : Int) : Option Int → List Run → List Sp3
  | b, [] => [⟨some r, b, none⟩]
  | b, x :: xs => ahead p r b x.lo ++ match x.hi with
    | none => []
    | some h => outs p r (some (h + p)) xs
theorem ahead_res {b lo : Option Int} : ∀ s ∈ ahead p r b lo, s.res = some r := by
  intro s hs
  unfold ahead at hs
  cases lo with
  | none => cases hs
  | some l =>
    cases b with
    | none => exact (List.mem_singleton.mp hs) ▸ rfl
    | some c =>
      simp only at hs
      split at hs
      · exact (List.mem_singleton.mp hs) ▸ rfl
      · cases hs
theorem ahead_len {b lo : Option Int} : (ahead p r b lo).length ≤ 1 := by
  unfold ahead
  split
  · exact Nat.zero_le _
  · split
    · exact Nat.le_refl _
    · split
      · exact Nat.le_refl _
      · exact Nat.zero_le _
theorem outs_res : ∀ {xs : List Run} {b : Option Int}, ∀ s ∈ outs p r b xs, s.res = some r
  | [], b => fun s hs => by rw [outs, List.mem_singleton] at hs; rw [hs]
  | x :: xs, b => fun s hs => by
    rw [outs] at hs
    rcases List.mem_append.mp hs with hs | hs
    · exact ahead_res s hs
    · cases hh : x.hi with
      | none => rw [hh] at hs; cases hs
      | some h =>
        rw [hh] at hs
        exact outs_res s hs
theorem outs_len : ∀ {xs : List Run} {b : Option Int}, (outs p r b xs).length ≤ xs.length + 1
  | [], b => by rw [outs]; exact Nat.le_refl _
  | x :: xs, b => by
    rw [outs, List.length_append, List.length_cons]
    have h1 := ahead_len (p := p) (r := r) (b := b) (lo := x.lo)
    have h2 : (match x.hi with
      | none => ([] : List Sp3)
      | some h => outs p r (some (h + p)) xs).length ≤ xs.length + 1 := by
      split
      · exact Nat.zero_le _
      · exact outs_len
    omega
/-- begin fits the runs that follow -/
def Fits (p r : Int) (b : Option Int) (xs : List Run) : Prop := ∀ c, b = some c → c % p = r ∧ ∀ x ∈ xs, ∃ l, x.lo = some l ∧ c < l
theorem outs_mem (hp : 0 < p) (r0 : 0 ≤ r) (r1 : r < p) : ∀ {xs : List Run} {b : Option Int}, Canon p xs → (∀ x ∈ xs, x.r = r) → Fits p r b xs → ∀ t, t % p = r → (inSpans p (outs p r b xs) t ↔ geLo b t ∧ ¬ inRuns p xs t)
  | [], b, c, hr, hf, t, ht => by
    rw [outs]
    constructor
    · rintro ⟨s, hs, h1, h2, h3⟩
      rw [List.mem_singleton] at hs
      subst hs
      exact ⟨h2, fun ⟨x, hx, _⟩ => nomatch hx⟩
    · rintro ⟨h1, _⟩
      exact ⟨_, List.mem_singleton.mpr rfl, fun q e => by cases e; exact ht, h1, fun m e => nomatch e⟩
  | x :: xs, b, c, hr, hf, t, ht => by
    have gx := c.head
    have xr : x.r = r := hr x List.mem_cons_self
    have inx : inRun p x t ↔ geLo x.lo t ∧ leHi x.hi t := ⟨fun h => h.2, fun h => ⟨ht.trans xr.symm, h⟩⟩
    have tl : inRuns p (x :: xs) t ↔ inRun p x t ∨ inRuns p xs t := by
      constructor
      · rintro ⟨y, hy, m⟩
        rcases List.mem_cons.mp hy with rfl | hy
        · exact .inl m
        · exact .inr ⟨y, hy, m⟩
      · rintro (m | ⟨y, hy, m⟩)
        · exact ⟨x, List.mem_cons_self, m⟩
        · exact ⟨y, List.mem_cons_of_mem _ hy, m⟩
    rw [outs]
    -- the part ahead of x
    have hA : inSpans p (ahead p r b x.lo) t ↔ geLo b t ∧ ∃ l, x.lo = some l ∧ t < l := by
      unfold ahead
      cases hl : x.lo with
      | none =>
        constructor
        · rintro ⟨s, hs, _⟩
          cases hs
        · rintro ⟨_, l, e, _⟩
          cases e
      | some l =>
        have lm : l % p = t % p := (gx.lo l hl).trans (xr.trans ht.symm)
        have key : t ≤ l - p ↔ t < l := by
          constructor
          · intro h
            omega
          · intro h
            have := step_of hp lm.symm h
            omega
        cases b with
        | none =>
          constructor
          · rintro ⟨s, hs, h1, h2, h3⟩
            rw [List.mem_singleton] at hs
            subst hs
            exact ⟨h2, l, rfl, key.mp (h3 _ rfl)⟩
          · rintro ⟨h1, l', e, h2⟩
            cases e
            exact ⟨_, List.mem_singleton.mpr rfl, fun q e => by cases e; exact ht, h1, fun m e => by cases e; exact key.mpr h2⟩
        | some d =>
          obtain ⟨l', e, hlt⟩ := (hf d rfl).2 x List.mem_cons_self
          rw [hl] at e
          cases e
          simp only
          rw [if_pos hlt]
          constructor
          · rintro ⟨s, hs, h1, h2, h3⟩
            rw [List.mem_singleton] at hs
            subst hs
            exact ⟨h2, l, rfl, key.mp (h3 _ rfl)⟩
          · rintro ⟨h1, l', e, h2⟩
            cases e
            exact ⟨_, List.mem_singleton.mpr rfl, fun q e => by cases e; exact ht, h1, fun m e => by cases e; exact key.mpr h2⟩
    have app : ∀ {as bs : List Sp3}, inSpans p (as ++ bs) t ↔ inSpans p as t ∨ inSpans p bs t := by
      intro as bs
      constructor
      · rintro ⟨s, hs, m⟩
        rcases List.mem_append.mp hs with hs | hs
        · exact .inl ⟨s, hs, m⟩
        · exact .inr ⟨s, hs, m⟩
      · rintro (⟨s, hs, m⟩ | ⟨s, hs, m⟩)
        · exact ⟨s, List.mem_append_left _ hs, m⟩
        · exact ⟨s, List.mem_append_right _ hs, m⟩
    rw [app, hA, tl, inx]
    -- begin lies at or ahead of x
    have bx : ∀ l, x.lo = some l → l ≤ t → geLo b t := fun l hl h d e => by
      obtain ⟨l', e', hlt⟩ := (hf d e).2 x List.mem_cons_self
      rw [hl] at e'
      cases e'
      omega
    have bn : x.lo = none → b = none := fun hl => by
      cases b with
      | none => rfl
      | some d =>
        obtain ⟨l', e', _⟩ := (hf d rfl).2 x List.mem_cons_self
        rw [hl] at e'
        cases e'
    have notx : ¬ geLo x.lo t ↔ ∃ l, x.lo = some l ∧ t < l := by
      constructor
      · intro h
        cases hl : x.lo with
        | none => exact absurd (fun l e => by rw [hl] at e; cases e) h
        | some l =>
          rcases Int.lt_or_le t l with z | z
          · exact ⟨l, rfl, z⟩
          · exact absurd (fun l' e => by rw [hl] at e; cases e; exact z) h
      · rintro ⟨l, hl, h⟩ g
        have := g l hl
        omega
    cases hh : x.hi with
    | none =>
      have e0 : inSpans p ([] : List Sp3) t ↔ False := ⟨(fun ⟨s, hs, _⟩ => nomatch hs), False.elim⟩
      have nxs : inRuns p xs t → False := fun ⟨y, hy, m⟩ => later_none c hy m (ht.trans xr.symm) hh
      simp only
      rw [e0]
      constructor
      · rintro (⟨h1, l, hl, h2⟩ | h)
        · refine ⟨h1, ?_⟩
          rintro (⟨g, _⟩ | h)
          · have := g l hl
            omega
          · exact nxs h
        · exact h.elim
      · rintro ⟨h1, h2⟩
        refine .inl ⟨h1, notx.mp fun g => h2 (.inl ⟨g, fun m e => nomatch e⟩)⟩
    | some h =>
      have hm : h % p = r := (gx.hi h hh).trans xr
      have hf' : Fits p r (some (h + p)) xs := fun d e => by
        cases e
        refine ⟨by rw [Int.add_emod_right]; exact hm, fun y hy => ?_⟩
        rcases c.lt y hy with z | ⟨_, h', l, e1, e2, e3⟩
        · have := hr y (List.mem_cons_of_mem _ hy)
          omega
        · rw [hh] at e1
          cases e1
          exact ⟨l, e2, e3⟩
      have ih := outs_mem hp r0 r1 c.tail (fun y hy => hr y (List.mem_cons_of_mem _ hy)) hf' t ht
      simp only
      rw [ih]
      have key : h + p ≤ t ↔ h < t := by
        constructor
        · intro z
          omega
        · intro z
          exact step_of hp (hm.trans ht.symm) z
      have gl : geLo (some (h + p)) t ↔ h < t := by
        constructor
        · intro g
          exact key.mp (g _ rfl)
        · intro z d e
          cases e
          exact key.mpr z
      rw [gl]
      have le : leHi (some h) t ↔ t ≤ h := ⟨fun g => g _ rfl, fun z d e => by cases e; exact z⟩
      rw [le]
      have late : inRuns p xs t → h < t := fun ⟨y, hy, m⟩ => by
        have := later c hy m (ht.trans xr.symm) hh
        omega
      have lolh : ∀ l, x.lo = some l → l ≤ h := fun l hl => gx.le l h hl hh
      constructor
      · rintro (⟨h1, l, hl, h2⟩ | ⟨h1, h2⟩)
        · refine ⟨h1, ?_⟩
          rintro (⟨g, _⟩ | z)
          · have := g l hl
            omega
          · have := late z
            have := lolh l hl
            omega
        · refine ⟨?_, ?_⟩
          · cases hl : x.lo with
            | none =>
              rw [bn hl]
              exact fun _ e => nomatch e
            | some l =>
              have := lolh l hl
              exact bx l hl (by omega)
          · rintro (⟨_, z⟩ | z)
            · omega
            · exact h2 z
      · rintro ⟨h1, h2⟩
        rcases Int.lt_or_le h t with z | z
        · exact .inr ⟨z, fun q => h2 (.inr q)⟩
        · exact .inl ⟨h1, notx.mp fun g => h2 (.inl ⟨g, z⟩)⟩
end Rn
end

section
set_option maxHeartbeats 4000000
namespace EW
open PySem PySem.Spec PyProof.Rows L2
/-! ### instances with a period and runs -/
abbrev FS (p : Int) (l : Addr) : List (Str × V) := [("own_period", .int p), ("own_runs", .ref l)]
/-- the runs at l -/
def RunsAt (K : W.Frag) (H : Hp) (l : Addr) (p : Int) (zs : List Rn.Run) : Prop := ∃ ys, SqT K H l ys ∧ Rns K H ys zs ∧ Rn.Canon p zs ∧ zs.length ≤ 10000000
/-- an instance of the class at C with these runs -/
def Ob (K : W.Frag) (C : Addr) (H : Hp) (v : V) (p : Int) (zs : List Rn.Run) : Prop := ∃ a dx l, v = .ref a ∧ H a = some (.ins C dx (FS p l)) ∧ RunsAt K H l p zs ∧ 1 ≤ p ∧ p ≤ 400
section
variable {K : W.Frag} {C a l d : Addr} {H H' : Hp} {v : V} {p : Int} {zs : List Rn.Run}
theorem RunsAt.same (h : RunsAt K H l p zs) (s : Same H H') : RunsAt K H' l p zs := by
  obtain ⟨ys, h1, h2, h3⟩ := h
  exact ⟨ys, SqT.same h1 s, Rns.same h2 s, h3⟩
theorem RunsAt.kept {ys : List V} (h : RunsAt K H l p zs) (hd : H d = some (.lst ys)) (k : Kept d H H') : RunsAt K H' l p zs := by
  obtain ⟨ys, h1, h2, h3⟩ := h
  exact ⟨ys, SqT.kept h1 hd k, Rns.kept h2 hd k, h3⟩
theorem Rns.keptO {o : HO} {vs : List V} (h : Rns K H vs zs) (hd : H d = some o) (n1 : ∀ ys, o ≠ .tup ys) (n2 : ∀ b u, o ≠ .frz b u) (k : Kept d H H') : Rns K H' vs zs := Paired.mono (fun _ _ q => let ⟨a, e, t⟩ := q; ⟨a, e, SqT.keptO t hd n1 n2 k⟩) h
theorem RunsAt.keptI {x dx : Addr} {fs : List (Str × V)} (h : RunsAt K H l p zs) (hd : H x = some (.ins C dx fs)) (k : Kept x H H') : RunsAt K H' l p zs := by
  obtain ⟨ys, h1, h2, h3⟩ := h
  exact ⟨ys, SqT.keptO h1 hd (fun _ z => nomatch z) (fun _ _ z => nomatch z) k, Rns.keptO h2 hd (fun _ z => nomatch z) (fun _ _ z => nomatch z) k, h3⟩
theorem Ob.same (h : Ob K C H v p zs) (s : Same H H') : Ob K C H' v p zs := by
  obtain ⟨a, dx, l, e, h1, h2, h3⟩ := h
  exact ⟨a, dx, l, e, s _ _ h1, h2.same s, h3⟩
theorem Ob.kept {ys : List V} (h : Ob K C H v p zs) (hd : H d = some (.lst ys)) (k : Kept d H H') : Ob K C H' v p zs := by
  obtain ⟨a, dx, l, e, h1, h2, h3⟩ := h
  exact ⟨a, dx, l, e, k _ _ (fun z => by rw [z, hd] at h1; cases h1) h1, h2.kept hd k, h3⟩
theorem Ob.isC (h : Ob K C H v p zs) : IsC H C v := by
  obtain ⟨a, dx, l, e, h1, _⟩ := h
  exact ⟨a, dx, _, e, h1⟩
end
/-! ### what of the text a class must have -/
structure Kl (K : W.Frag) (mg : Str → Option Value) (x : Str) : Prop where
  g : mg x = some (.ref (He.ga K x))
  mkr : Mk K (He.ga K x) (He.ma K (He.ga K x) "__init__")
  cl : Cls K (He.ga K x)
  np : NoAttr K (He.ga K x) "own_period"
  nr : NoAttr K (He.ga K x) "own_runs"
  cls : W.findIn K (.ref (He.ga K x)) "__class__" = some (some (.builtin "object.__class__"))
  cg : W.specialIn K (.builtin "object.__class__") "__get__" = some (some (.builtin "getset_descriptor.__get__"))
  ct : W.takesIn K (.builtin "object.__class__") = some true
  ob : W.mroIn K (He.ga K x) (.type "object") = some true
  sf : W.selfFirst K (He.ga K x) = true
theorem Kl.ty {K : W.Frag} {mg : Str → Option Value} {x : Str} {H : Hp} {a dx : Addr} {fs : List (Str × V)} (k : Kl K mg x) (e : H a = some (.ins (He.ga K x) dx fs)) : TyX K H (.ref a) (.ref (He.ga K x)) := .base (.ins e k.cl k.cls k.cg k.ct k.ob)
section
variable {X : Cx} {K : W.Frag} {k : Nat} {f C : Addr} {fd : FuncData} {ps : List Str} {sp : Sp} {x : Str} {p pos : Pos} {e o : Expr} {es : List Expr} {t : TA} {ta : TE}
theorem fnR_of {P : Program} {w : World} {mg : Str → Option Value} {base : Heap} {CX : CXT} {dvs : List V} {ds : List Value} (F : FnOk P w K mg base CX k f fd ps sp) (hb : Binds K fd ps ds) (hd : Vals dvs ds) : FnR P w K mg base CX k f (fun vs H Q E => sp (vs ++ dvs) H Q E) := by
  intro A outer s H us vs Q E hr e0 r h
  have r2 := r.append hd
  have KX : K.In s.heap := e0.mod.kin.keeps fun b o e => (e0.bs b o e).1
  have hl : (us ++ ds).length = ps.length := by rw [← r2.length]; exact F.len _ _ _ _ h
  exact F.run A outer s H ⟨us, []⟩ (us ++ ds) (vs ++ dvs) Q E hr e0 (hb s us KX hl) r2 h
theorem pe_fldK (K : W.Frag) (h : X.K = K) {f : Str} (he : PE X e ta) (hb : attributeBase e f X.env (eval e X.env) = eval e X.env := by rfl) : PE X (.Attribute e f pos) (tFld K ta f) := by
  subst h
  exact pe_fld he hb
/-- cls(e, ..), cls a local name that holds the class at C -/
theorem pe_makeL {i : Nat} {E : XK} {CX : CXT} (M : Mk X.K C f) (F : FnR X.prog X.w X.K X.mg X.base CX k f sp) (hr : Room (k + 1) X.A) (hN : X.N[i]? = some x) (hv : Vis X.env.scope x) (hx : Passes CX X E) (ha : PA X (e :: es) t)
    (hdb : (x == ("__debug__" : Str)) = false := by decide) (hcd : (x == ("__classdict__" : Str)) = false := by decide)
    (he : starEach (e :: es) X.env = (false, eval e X.env) :: starEach es X.env := by rfl) (hpl : (backTo pos (starEach es X.env)).any (·.1) = false := by rfl) : PE X (.Call (.Name x p) (e :: es) [] pos) (fun σ H Q => σ[i]? = some (some (.ref C)) ∧ StX.tMakeR C sp E t σ H Q) := by
  refine ⟨fun pins s σ H Q I h => ?_⟩
  obtain ⟨hs, ht⟩ := h
  refine wpAny_Call_Name_kw (thn ((pe_var (pos := p) hN hv hdb hcd).run pins s σ H (fun v H1 => v = .ref C ∧ H1 = H) I ⟨.ref C, hs, rfl, rfl⟩) fun u s1 z => ?_)
  obtain ⟨v, H1, I1, r1, rfl, rfl⟩ := z
  cases r1
  refine W.callWith_K (h₀ := X.base) I.ok.mod.kin M.kp (thn (ha.run pos pins s1 σ _ _ I1 ht) fun us s2 z => ?_) he hpl
  obtain ⟨vs, H2, I2, r, q⟩ := z
  exact ⟨I2.kIn, StX.run_makeR M F hr hx I2 r q⟩
end
/-- the promise of an __init__ that keeps its two values -/
def spRInit (C : Addr) : Sp := fun vs H Q _ => ∃ (x dx : Addr) (u v : V), vs = [.ref x, u, v] ∧ H x = some (.ins C dx []) ∧ ∀ H', Kept x H H' → H' x = some (.ins C dx [("own_period", u), ("own_runs", v)]) → Q .non H'
section
variable {X : Cx} {k : Nat} {C f : Addr} {fd : FuncData} {ps : List Str} {x : Str} {p pos : Pos} {e : Expr} {es : List Expr} {t : TA}
theorem pe_mk2 (M : Mk X.K C f) (F : FnOk X.prog X.w X.K X.mg X.base CX0 k f fd ps (spRInit C)) (hb : Binds X.K fd ps []) (hr : Room (k + 1) X.A) (hg : Gl X x) (hm : X.mg x = some (.ref C)) (ha : PA X (e :: es) t)
    (hdb : (x == ("__debug__" : Str)) = false := by decide) (he : starEach (e :: es) X.env = (false, eval e X.env) :: starEach es X.env := by rfl) (hpl : (backTo pos (starEach es X.env)).any (·.1) = false := by rfl) :
    PE X (.Call (.Name x p) (e :: es) [] pos) (fun σ H Q => t σ H fun vs H1 => ∃ u v, vs = [u, v] ∧ ∀ (a dx : Addr) (H' : Hp), H1 a = none → Same H1 H' → H' a = some (.ins C dx [("own_period", u), ("own_runs", v)]) → Q (.ref a) H') := by
  refine PE.imp (pe_make M F hr hg hm hb .nil pass0 (PA.cl ha) hdb he hpl) fun σ H Q q => ⟨_, q, fun vs H1 z => ?_⟩
  obtain ⟨u, v, rfl, z⟩ := z
  intro a dx n1 n2 ne
  refine ⟨a, dx, u, v, rfl, upd_same, fun H' kp e => ⟨rfl, z a dx H' n1 (fun b o h => ?_) e⟩⟩
  have h1 : b ≠ a := fun z => by rw [z, n1] at h; cases h
  have h2 : b ≠ dx := fun z => by rw [z, n2] at h; cases h
  exact kp b o h1 (by rw [upd_ne h1, upd_ne h2]; exact h)
end
end EW
end

section
set_option maxHeartbeats 4000000
namespace EW
open PySem PySem.Spec PyProof.Rows L2
/-! ### methods, properties, classmethods by what of them is known -/
structure Mtk (P : Program) (w : World) (K : W.Frag) (mg : Str → Option Value) (base : Heap) (k : Nat) (C : Addr) (m : Str) (ps : List Str) (ds : List Value) (dvs : List V) (sp : Sp) : Prop where
  ex : ∃ f fd, FnOk P w K mg base CX0 k f fd ps sp ∧ Binds K fd ps ds ∧ Vals dvs ds ∧ Meth K C m f
structure Prp (P : Program) (w : World) (K : W.Frag) (mg : Str → Option Value) (base : Heap) (k : Nat) (C : Addr) (f : Str) (sp : Sp) : Prop where
  ex : ∃ p g fd, PropOf K C f p g ∧ FnOk P w K mg base CX0 k g fd ["self"] sp ∧ Binds K fd ["self"] []
structure CMt (P : Program) (w : World) (K : W.Frag) (mg : Str → Option Value) (base : Heap) (k : Nat) (C : Addr) (m : Str) (sp : Sp) : Prop where
  ex : ∃ mc p g, ClX.CRead K C mc ∧ ClX.CMet K C mc m p g ∧ FnR P w K mg base CX0 k g sp
section
variable {X : Cx} {k : Nat} {C : Addr} {m f : Str} {ps : List Str} {ds : List Value} {dvs : List V} {sp : Sp} {o e : Expr} {es : List Expr} {ta : TE} {t : TA} {pos apos : Pos}
theorem pe_mtk {pl : Sem Bool} (he : PE X o ta) (c : Cls X.K C) (M : Mtk X.prog X.w X.K X.mg X.base k C m ps ds dvs sp) (hr : Room k X.A) (ha : PA X (e :: es) t)
    (hst : starEach (e :: es) X.env = (false, eval e X.env) :: starEach es X.env := by rfl) (hpl : (backTo pos (starEach es X.env)).any (·.1) = false := by rfl)
    (ht : eval (.Call (.Attribute o m apos) (e :: es) [] pos) X.env = (do
      let ov ← eval o X.env
      standAt apos.atName
      let (f, first) ← holding [ov] (getMethod ov m pl)
      callWith pos f first (backTo pos (starEach (e :: es) X.env)) (backToKw pos (keywordEach [] X.env))) := by rfl) :
    PE X (.Call (.Attribute o m apos) (e :: es) [] pos) (tMeth C m sp dvs E0 ta t) := by
  obtain ⟨f, fd, F, b, hd, hm⟩ := M.ex
  exact pe_meth he c hm F hr b hd pass0 ha hst hpl ht
theorem pe_mtk0 {pl : Sem Bool} (he : PE X o ta) (c : Cls X.K C) (M : Mtk X.prog X.w X.K X.mg X.base k C m ps ds dvs sp) (hr : Room k X.A)
    (ht : eval (.Call (.Attribute o m apos) [] [] pos) X.env = (do
      let ov ← eval o X.env
      standAt apos.atName
      let (f, first) ← holding [ov] (getMethod ov m pl)
      callWith pos f first (backTo pos (starEach [] X.env)) (backToKw pos (keywordEach [] X.env))) := by rfl) :
    PE X (.Call (.Attribute o m apos) [] [] pos) (tMeth C m sp dvs E0 ta tNil) := by
  obtain ⟨f, fd, F, b, hd, hm⟩ := M.ex
  exact pe_meth0 he c hm F hr b hd pass0 ht
theorem pe_prp (he : PE X e ta) (c : Cls X.K C) (R : Prp X.prog X.w X.K X.mg X.base k C f sp) (hr : Room (k + 1) X.A) (hab : attributeBase e f X.env (eval e X.env) = eval e X.env := by rfl) : PE X (.Attribute e f pos) (tProp C sp [] E0 ta) := by
  obtain ⟨p, g, fd, h1, F, b⟩ := R.ex
  exact pe_prop he c h1 F hr b .nil pass0 hab
theorem pe_cmt {pl : Sem Bool} (he : PE X o ta) (M : CMt X.prog X.w X.K X.mg X.base k C m sp) (hr : Room k X.A) (ha : PA X (e :: es) t)
    (hst : starEach (e :: es) X.env = (false, eval e X.env) :: starEach es X.env := by rfl) (hpl : (backTo pos (starEach es X.env)).any (·.1) = false := by rfl)
    (ht : eval (.Call (.Attribute o m apos) (e :: es) [] pos) X.env = (do
      let ov ← eval o X.env
      standAt apos.atName
      let (f, first) ← holding [ov] (getMethod ov m pl)
      callWith pos f first (backTo pos (starEach (e :: es) X.env)) (backToKw pos (keywordEach [] X.env))) := by rfl) :
    PE X (.Call (.Attribute o m apos) (e :: es) [] pos) (ClX.tCMeth C sp E0 ta t) := by
  obtain ⟨mc, p, g, h1, h2, F⟩ := M.ex
  exact ClX.pe_cmeth he h1 h2 F hr pass0 ha hst hpl ht
/-- a list some times, sealed -/
def rRepS : R2 := fun x y H Q => ∃ l k xs, x = .ref l ∧ y = .int k ∧ H l = some (.lst xs) ∧ -(2 ^ 63) ≤ k ∧ k < 2 ^ 63 ∧ xs.length * k.toNat ≤ sizeLine ∧ New H (fun _ => .lst (List.replicate k.toNat xs).flatten) Q
theorem op_repS : OpR X (binaryOp .Mult) rRepS := by
  intro pins s σ H x y v u Q I rx ry h
  obtain ⟨l, k, xs, h1, h2, h3, h4, h5, h6, h7⟩ := h
  exact op_rep pins s σ H x y v u Q I rx ry ⟨l, k, xs, h1, h2, h3, h4, h5, h6, fun _ hp => h7.at hp⟩
/-- is True, is False -/
def tIsB (ta : TE) (b : Bool) : TE := fun σ H Q => ta σ H fun x H1 => ∃ c, x = .bl c ∧ Q (.bl (decide (c = b))) H1
theorem is_bool {M : Model} {A : Around} {E : Value → Shared → Prop} {Q : Value → Shared → Prop} {s : Shared} {c b : Bool} (h : Q (.bool (decide (c = b))) s) : wpAny M A (compareOp .Is (.bool c) (.bool b)) Q E s := by
  cases c <;> cases b <;> exact wpAny_pure h
theorem pc_isB {a : Expr} {b : Bool} {j pos'} (ha : PE X a ta) : PC X .Is a (.Constant (.bool b) j pos') (tIsB ta b) := by
  refine ⟨fun pins s σ H Q I h => ?_⟩
  refine thn (ha.run pins s σ H _ I h) fun v s1 ⟨x, H1, I1, r1, c, ex, q1⟩ => ?_
  subst ex
  cases r1
  exact Constant_bool (is_bool ⟨.bl _, H1, I1, rfl, q1⟩)
end
end EW
end

section
set_option maxHeartbeats 4000000
namespace EW
open PySem PySem.Spec PyProof.Rows L2
/-! ### the head's facts, with one more Bool -/
def obsB (n : Nat) (fa : List He.Fa) (fn : List He5.DefA) (ex : W.Frag → Bool) (g : Addr → Option Obj) : He.AlD × Bool := (He5.obsA fa fn (He.frG g (He5.asA g n)), ex (He.frG g (He5.asA g n)))
def hookB (n : Nat) (fa : List He.Fa) (fn : List He5.DefA) (ex : W.Frag → Bool) : W.Hook where
  α := He.AlD × Bool
  obs := fun s => obsB n fa fn ex s.heap.get?
  val := fun _ => (He5.valA fn, true)
  says := fun _ h => ∃ K : W.Frag, K.In h ∧ He5.SaysA fa fn K ∧ ex K = true
  of := fun _ _ e => ⟨_, He.frG_in, congrArg (fun z : He.AlD × Bool => z.1) e, congrArg (fun z : He.AlD × Bool => z.2) e⟩
  keeps := fun _ _ _ ⟨K, hK, c⟩ k => ⟨K, W.Frag.In.keeps hK k, c⟩
theorem obsB_eq {n : Nat} {fa : List He.Fa} {fn : List He5.DefA} {ex : W.Frag → Bool} {g : Addr → Option Obj} {s : Shared} (h : ∀ a, g a = s.heap.get? a) : obsB n fa fn ex g = (hookB n fa fn ex).obs s := by
  have e : g = s.heap.get? := funext h
  rw [e] <;> rfl
section
variable {K : W.Frag} {h : Heap} {mg : Str → Option Value}
def klB (K : W.Frag) (x : Str) : Bool := (He.Fa.glo x).ok K && ((He.Fa.mkr x).ok K && ((He.Fa.cls x).ok K && ((He.Fa.noat x "own_period").ok K && ((He.Fa.noat x "own_runs").ok K &&
  (He.eqO (W.findIn K (.ref (He.ga K x)) "__class__") (some (some (.builtin "object.__class__"))) && (He.eqO (W.specialIn K (.builtin "object.__class__") "__get__") (some (some (.builtin "getset_descriptor.__get__"))) &&
  (decide (W.takesIn K (.builtin "object.__class__") = some true) && (decide (W.mroIn K (He.ga K x) (.type "object") = some true) && W.selfFirst K (He.ga K x)))))))))
theorem klB_ok (X : K.In h) (G : h.Ns mainGlobals mg) {x : Str} (c : klB K x = true) : Kl K mg x := by
  obtain ⟨c1, c⟩ := He.ba c
  obtain ⟨c2, c⟩ := He.ba c
  obtain ⟨c3, c⟩ := He.ba c
  obtain ⟨c4, c⟩ := He.ba c
  obtain ⟨c5, c⟩ := He.ba c
  obtain ⟨c6, c⟩ := He.ba c
  obtain ⟨c7, c⟩ := He.ba c
  obtain ⟨c8, c⟩ := He.ba c
  obtain ⟨c9, c10⟩ := He.ba c
  exact ⟨He.glo_ok X G c1, He.mkr_ok c2, He.cls_ok c3, He.noat_ok c4, He.noat_ok c5, He.eqO_ok c6, He.eqO_ok c7, of_decide_eq_true c8, of_decide_eq_true c9, c10⟩
def propB (K : W.Frag) (C : Addr) (f : Str) : Bool := He.eqO (W.findIn K (.ref C) f) (some (some (.ref (He.ma K C f)))) && (He.eqO (W.specialIn K (.ref (He.ma K C f)) "__get__") (some (some (.builtin "property.__get__"))) &&
  (decide (W.takesIn K (.ref (He.ma K C f)) = some true) && (match W.recIn K (He.ma K C f) "property" with
    | some (.ref _ :: _) => true
    | _ => false)))
theorem propB_ok {C : Addr} {f : Str} (c : propB K C f = true) : PropOf K C f (He.ma K C f) (He5.wf K C "property" f) := by
  obtain ⟨c1, c⟩ := He.ba c
  obtain ⟨c2, c⟩ := He.ba c
  obtain ⟨c3, c4⟩ := He.ba c
  refine ⟨He.eqO_ok c1, He.eqO_ok c2, of_decide_eq_true c3, ?_⟩
  unfold He5.wf
  split at c4
  · rename_i f r e
    exact ⟨r, by rw [e]⟩
  · cases c4
def creadB (K : W.Frag) (C : Addr) : Bool := W.readsIn K C (.type "type") && He.eqO (W.specialIn K (.ref C) "__getattribute__") (some (some (.builtin "type.__getattribute__")))
theorem creadB_ok {C : Addr} (c : creadB K C = true) : ClX.CRead K C (.type "type") := by
  obtain ⟨c1, c2⟩ := He.ba c
  exact ⟨c1, He.eqO_ok c2⟩
def cmetB (K : W.Frag) (C : Addr) (m : Str) : Bool := He5.wrapB K C "classmethod" "classmethod.__get__" m && W.fnIn K (He5.wf K C "classmethod" m)
theorem cmetB_ok {C : Addr} {m : Str} (c : cmetB K C m = true) : ClX.CMet K C (.type "type") m (He.ma K C m) (He5.wf K C "classmethod" m) := by
  obtain ⟨c1, c2⟩ := He.ba c
  exact He5.cmet_of c1 c2
def kitB1 (K : W.Frag) (t u : Value) (b : Bool) : Bool := decide (W.kitOne K t u = some b)
theorem kitB1_ok {t u : Value} {b : Bool} (c : kitB1 K t u b = true) : W.kitOne K t u = some b := of_decide_eq_true c
def findB (K : W.Frag) (C : Addr) (m : Str) (id : String) : Bool := He.eqO (W.findIn K (.ref C) m) (some (some (.builtin id)))
theorem findB_ok {C : Addr} {m : Str} {id : String} (c : findB K C m id = true) : W.findIn K (.ref C) m = some (some (.builtin id)) := He.eqO_ok c
end
end EW
end

namespace TM
open PySem PySem.Spec PyProof.Rows L2 EW
def top (i : Nat) : Stmt := PySem.Challenge.pw_everwhen_k06_whole_rows_of_operations.main.body.getD i (.Pass ⟨0, 0, 0, 0⟩)
def meth (s : Stmt) (j : Nat) : Stmt := match s with
  | .ClassDef (body := b) .. => b.getD j (.Pass ⟨0, 0, 0, 0⟩)
  | _ => .Pass ⟨0, 0, 0, 0⟩
abbrev CR (K : W.Frag) : Addr := He.ga K "Runs"
abbrev CT (K : W.Frag) : Addr := He.ga K "Times"
abbrev sIsInt : Stmt := top 8
abbrev sBetween : Stmt := top 9
abbrev sIsBound : Stmt := top 10
abbrev sReqP : Stmt := top 11
abbrev sIsSpan : Stmt := top 14
abbrev sGreater : Stmt := top 15
abbrev sLesser : Stmt := top 16
abbrev sRounded : Stmt := top 17
abbrev sEmptyP : Stmt := top 18
abbrev sRunOf : Stmt := top 21
abbrev sRunKey : Stmt := top 22
abbrev sGoesOn : Stmt := top 23
abbrev sUnited : Stmt := top 24
abbrev sGrouped : Stmt := top 25
abbrev sRunsIn : Stmt := top 26
abbrev sOutside : Stmt := top 27
abbrev sMember : Stmt := top 29
abbrev sCommon : Stmt := top 28
abbrev sRInit : Stmt := meth (top 35) 0
abbrev sChecked : Stmt := top 36
abbrev sTimesIn : Stmt := top 37
abbrev sTInit : Stmt := meth (top 38) 0
abbrev sOf : Stmt := meth (top 38) 1
abbrev sAlike : Stmt := top 39
abbrev sCon : Stmt := meth (top 38) 22
abbrev sBol : Stmt := meth (top 38) 23
abbrev sPeriod : Stmt := meth (top 38) 3
abbrev sRunsP : Stmt := meth (top 38) 4
abbrev sOrM : Stmt := meth (top 38) 18
abbrev sAndM : Stmt := meth (top 38) 19
abbrev sInvM : Stmt := meth (top 38) 21
abbrev sSubM : Stmt := meth (top 38) 20
abbrev sEqM : Stmt := meth (top 38) 24
abbrev sNextIn : Stmt := top 30
abbrev sLastIn : Stmt := top 31
abbrev sReqI : Stmt := top 12
abbrev sAfter : Stmt := meth (top 38) 10
abbrev sBefor : Stmt := meth (top 38) 11
abbrev sShift : Stmt := meth (top 38) 7
abbrev sTurn : Stmt := meth (top 38) 8
abbrev sBy : Stmt := meth (top 38) 9
abbrev sManyIn : Stmt := top 32
abbrev sFarEnd : Stmt := top 33
abbrev sKthIn : Stmt := top 34
abbrev sKth : Stmt := meth (top 38) 13
abbrev sOnw : Stmt := meth (top 38) 15
abbrev sHowM : Stmt := meth (top 38) 14
abbrev sDice : Stmt := top 41
abbrev sRoll : Stmt := top 42
abbrev sPick : Stmt := top 43
abbrev sNear : Stmt := top 44
abbrev sBound : Stmt := top 45
abbrev sPair : Stmt := top 46
abbrev sResidue : Stmt := top 47
abbrev sSpan : Stmt := top 48
abbrev sPeriodL : Stmt := top 49
abbrev sSpansL : Stmt := top 50
abbrev sBetw : Stmt := top 51
abbrev sIsIn : Stmt := top 52
abbrev sBounds : Stmt := top 53
abbrev sEdges : Stmt := top 57
abbrev sHasL : Stmt := top 55
abbrev sMadeL : Stmt := top 56
abbrev sPlainL : Stmt := top 54
abbrev sWays : Stmt := top 58
abbrev sNumb : Stmt := top 59
abbrev sRight : Stmt := top 60
abbrev sLaw : Stmt := top 61
end TM

section
set_option maxHeartbeats 0
namespace TM
open PySem PySem.Spec PyProof.Rows L2 EW
def fn : List He5.DefA := [
  ⟨fun K => He.ga K "is_integer", "is_integer", "is_integer", defArgs sIsInt, defBody sIsInt, defScope sIsInt, [], []⟩,
  ⟨fun K => He.ga K "is_between", "is_between", "is_between", defArgs sBetween, defBody sBetween, defScope sBetween, [], []⟩,
  ⟨fun K => He.ga K "is_bound", "is_bound", "is_bound", defArgs sIsBound, defBody sIsBound, defScope sIsBound, [], []⟩,
  ⟨fun K => He.ga K "require_period", "require_period", "require_period", defArgs sReqP, defBody sReqP, defScope sReqP, [], []⟩,
  ⟨fun K => He.ga K "require_integer", "require_integer", "require_integer", defArgs sReqI, defBody sReqI, defScope sReqI, [], []⟩,
  ⟨fun K => He.ga K "is_span", "is_span", "is_span", defArgs sIsSpan, defBody sIsSpan, defScope sIsSpan, [], []⟩,
  ⟨fun K => He.ga K "greater_of", "greater_of", "greater_of", defArgs sGreater, defBody sGreater, defScope sGreater, [], []⟩,
  ⟨fun K => He.ga K "lesser_of", "lesser_of", "lesser_of", defArgs sLesser, defBody sLesser, defScope sLesser, [], []⟩,
  ⟨fun K => He.ga K "rounded", "rounded", "rounded", defArgs sRounded, defBody sRounded, defScope sRounded, [], []⟩,
  ⟨fun K => He.ga K "is_empty_pair", "is_empty_pair", "is_empty_pair", defArgs sEmptyP, defBody sEmptyP, defScope sEmptyP, [], []⟩,
  ⟨fun K => He.ga K "run_of", "run_of", "run_of", defArgs sRunOf, defBody sRunOf, defScope sRunOf, [], []⟩,
  ⟨fun K => He.ga K "run_key", "run_key", "run_key", defArgs sRunKey, defBody sRunKey, defScope sRunKey, [], []⟩,
  ⟨fun K => He.ga K "goes_on", "goes_on", "goes_on", defArgs sGoesOn, defBody sGoesOn, defScope sGoesOn, [], []⟩,
  ⟨fun K => He.ga K "united", "united", "united", defArgs sUnited, defBody sUnited, defScope sUnited, [], []⟩,
  ⟨fun K => He.ga K "grouped", "grouped", "grouped", defArgs sGrouped, defBody sGrouped, defScope sGrouped, [], []⟩,
  ⟨fun K => He.ga K "runs_in", "runs_in", "runs_in", defArgs sRunsIn, defBody sRunsIn, defScope sRunsIn, [], []⟩,
  ⟨fun K => He.ga K "outside_runs", "outside_runs", "outside_runs", defArgs sOutside, defBody sOutside, defScope sOutside, [], []⟩,
  ⟨fun K => He.ga K "is_member", "is_member", "is_member", defArgs sMember, defBody sMember, defScope sMember, [], []⟩,
  ⟨fun K => He.ga K "common_runs", "common_runs", "common_runs", defArgs sCommon, defBody sCommon, defScope sCommon, [], []⟩,
  ⟨fun K => He.ga K "next_in", "next_in", "next_in", defArgs sNextIn, defBody sNextIn, defScope sNextIn, [], []⟩,
  ⟨fun K => He.ga K "last_in", "last_in", "last_in", defArgs sLastIn, defBody sLastIn, defScope sLastIn, [], []⟩,
  ⟨fun K => He.ga K "many_in", "many_in", "many_in", defArgs sManyIn, defBody sManyIn, defScope sManyIn, [], []⟩,
  ⟨fun K => He.ga K "far_end", "far_end", "far_end", defArgs sFarEnd, defBody sFarEnd, defScope sFarEnd, [], []⟩,
  ⟨fun K => He.ga K "kth_in", "kth_in", "kth_in", defArgs sKthIn, defBody sKthIn, defScope sKthIn, [], []⟩,
  ⟨fun K => He.ma K (He.ga K "Runs") "__init__", "__init__", "Runs.__init__", defArgs sRInit, defBody sRInit, defScope sRInit, [], []⟩,
  ⟨fun K => He.ga K "checked", "checked", "checked", defArgs sChecked, defBody sChecked, defScope sChecked, [], []⟩,
  ⟨fun K => He.ma K (He.ga K "Times") "__init__", "__init__", "Times.__init__", defArgs sTInit, defBody sTInit, defScope sTInit, [], []⟩,
  ⟨fun K => He.ga K "times_in_spans", "times_in_spans", "times_in_spans", defArgs sTimesIn, defBody sTimesIn, defScope sTimesIn, [], []⟩,
  ⟨fun K => He.ga K "require_alike", "require_alike", "require_alike", defArgs sAlike, defBody sAlike, defScope sAlike, [], []⟩,
  ⟨fun K => He5.wf K (He.ga K "Times") "classmethod" "of", "of", "Times.of", defArgs sOf, defBody sOf, defScope sOf, [], []⟩,
  ⟨fun K => He5.wf K (He.ga K "Times") "property" "runs", "runs", "Times.runs", defArgs sRunsP, defBody sRunsP, defScope sRunsP, [], []⟩,
  ⟨fun K => He.ma K (He.ga K "Times") "__contains__", "__contains__", "Times.__contains__", defArgs sCon, defBody sCon, defScope sCon, [], []⟩,
  ⟨fun K => He.ma K (He.ga K "Times") "__eq__", "__eq__", "Times.__eq__", defArgs sEqM, defBody sEqM, defScope sEqM, [], []⟩,
  ⟨fun K => He.ma K (He.ga K "Times") "__or__", "__or__", "Times.__or__", defArgs sOrM, defBody sOrM, defScope sOrM, [], []⟩,
  ⟨fun K => He.ma K (He.ga K "Times") "__and__", "__and__", "Times.__and__", defArgs sAndM, defBody sAndM, defScope sAndM, [], []⟩,
  ⟨fun K => He.ma K (He.ga K "Times") "__invert__", "__invert__", "Times.__invert__", defArgs sInvM, defBody sInvM, defScope sInvM, [], []⟩,
  ⟨fun K => He.ma K (He.ga K "Times") "__sub__", "__sub__", "Times.__sub__", defArgs sSubM, defBody sSubM, defScope sSubM, [], []⟩,
  ⟨fun K => He.ma K (He.ga K "Times") "shifted", "shifted", "Times.shifted", defArgs sShift, defBody sShift, defScope sShift, [], []⟩,
  ⟨fun K => He.ma K (He.ga K "Times") "turned", "turned", "Times.turned", defArgs sTurn, defBody sTurn, defScope sTurn, [], []⟩,
  ⟨fun K => He.ma K (He.ga K "Times") "by", "by", "Times.by", defArgs sBy, defBody sBy, defScope sBy, [], []⟩,
  ⟨fun K => He.ma K (He.ga K "Times") "at_or_after", "at_or_after", "Times.at_or_after", defArgs sAfter, defBody sAfter, defScope sAfter, [], []⟩,
  ⟨fun K => He.ma K (He.ga K "Times") "at_or_before", "at_or_before", "Times.at_or_before", defArgs sBefor, defBody sBefor, defScope sBefor, [], []⟩,
  ⟨fun K => He.ma K (He.ga K "Times") "how_many", "how_many", "Times.how_many", defArgs sHowM, defBody sHowM, defScope sHowM, [], []⟩,
  ⟨fun K => He.ma K (He.ga K "Times") "kth", "kth", "Times.kth", defArgs sKth, defBody sKth, defScope sKth, [], [("start", .int 0)]⟩,
  ⟨fun K => He.ma K (He.ga K "Times") "onward", "onward", "Times.onward", defArgs sOnw, defBody sOnw, defScope sOnw, [.int 0], []⟩,
  ⟨fun K => He.ga K "_law_dice", "_law_dice", "_law_dice", defArgs sDice, defBody sDice, defScope sDice, [], []⟩,
  ⟨fun K => He.ga K "_law_roll", "_law_roll", "_law_roll", defArgs sRoll, defBody sRoll, defScope sRoll, [], []⟩,
  ⟨fun K => He.ga K "_law_pick", "_law_pick", "_law_pick", defArgs sPick, defBody sPick, defScope sPick, [], []⟩,
  ⟨fun K => He.ga K "_law_near", "_law_near", "_law_near", defArgs sNear, defBody sNear, defScope sNear, [], []⟩,
  ⟨fun K => He.ga K "_law_bound", "_law_bound", "_law_bound", defArgs sBound, defBody sBound, defScope sBound, [], []⟩,
  ⟨fun K => He.ga K "_law_pair", "_law_pair", "_law_pair", defArgs sPair, defBody sPair, defScope sPair, [], []⟩,
  ⟨fun K => He.ga K "_law_residue", "_law_residue", "_law_residue", defArgs sResidue, defBody sResidue, defScope sResidue, [], []⟩,
  ⟨fun K => He.ga K "_law_span", "_law_span", "_law_span", defArgs sSpan, defBody sSpan, defScope sSpan, [], []⟩,
  ⟨fun K => He.ga K "_law_period", "_law_period", "_law_period", defArgs sPeriodL, defBody sPeriodL, defScope sPeriodL, [], []⟩,
  ⟨fun K => He.ga K "_law_spans", "_law_spans", "_law_spans", defArgs sSpansL, defBody sSpansL, defScope sSpansL, [], []⟩,
  ⟨fun K => He.ga K "_law_between", "_law_between", "_law_between", defArgs sBetw, defBody sBetw, defScope sBetw, [], []⟩,
  ⟨fun K => He.ga K "_law_is_in", "_law_is_in", "_law_is_in", defArgs sIsIn, defBody sIsIn, defScope sIsIn, [], []⟩,
  ⟨fun K => He.ga K "_law_bounds", "_law_bounds", "_law_bounds", defArgs sBounds, defBody sBounds, defScope sBounds, [], []⟩,
  ⟨fun K => He.ga K "_law_plain", "_law_plain", "_law_plain", defArgs sPlainL, defBody sPlainL, defScope sPlainL, [], []⟩,
  ⟨fun K => He.ga K "_law_has", "_law_has", "_law_has", defArgs sHasL, defBody sHasL, defScope sHasL, [], []⟩,
  ⟨fun K => He.ga K "_law_made", "_law_made", "_law_made", defArgs sMadeL, defBody sMadeL, defScope sMadeL, [], []⟩,
  ⟨fun K => He.ga K "_law_edges", "_law_edges", "_law_edges", defArgs sEdges, defBody sEdges, defScope sEdges, [], []⟩,
  ⟨fun K => He.ga K "_law_ways_right", "_law_ways_right", "_law_ways_right", defArgs sWays, defBody sWays, defScope sWays, [], []⟩,
  ⟨fun K => He.ga K "_law_numbers_right", "_law_numbers_right", "_law_numbers_right", defArgs sNumb, defBody sNumb, defScope sNumb, [], []⟩,
  ⟨fun K => He.ga K "_law_right", "_law_right", "_law_right", defArgs sRight, defBody sRight, defScope sRight, [], []⟩,
  ⟨fun K => He.ga K "law", "law", "law", defArgs sLaw, defBody sLaw, defScope sLaw, [], []⟩]
def fa : List He.Fa := [.glo "is_integer", .glo "is_between", .glo "is_bound", .glo "require_period", .glo "require_integer", .glo "is_span", .glo "greater_of", .glo "lesser_of", .glo "rounded", .glo "is_empty_pair", .glo "run_of", .glo "run_key", .glo "goes_on", .glo "united", .glo "grouped", .glo "runs_in", .glo "outside_runs", .glo "is_member", .glo "common_runs", .glo "next_in", .glo "last_in", .glo "many_in", .glo "far_end", .glo "kth_in", .glo "checked", .glo "times_in_spans", .glo "require_alike", .meth "Times" "__contains__", .meth "Times" "__eq__", .meth "Times" "__or__", .meth "Times" "__and__", .meth "Times" "__invert__", .meth "Times" "__sub__", .meth "Times" "shifted", .meth "Times" "turned", .meth "Times" "by", .meth "Times" "at_or_after", .meth "Times" "at_or_before", .meth "Times" "how_many", .meth "Times" "kth", .meth "Times" "onward", .glo "_law_dice", .glo "_law_roll", .glo "_law_pick", .glo "_law_near", .glo "_law_bound", .glo "_law_pair", .glo "_law_residue", .glo "_law_span", .glo "_law_period", .glo "_law_spans", .glo "_law_between", .glo "_law_is_in", .glo "_law_bounds", .glo "_law_plain", .glo "_law_has", .glo "_law_made", .glo "_law_edges", .glo "_law_ways_right", .glo "_law_numbers_right", .glo "_law_right", .glo "law", .free "len", .free "int", .free "bool", .free "tuple", .free "list", .free "set", .free "abs", .free "max", .free "min", .free "range", .free "any", .free "all", .free "sorted", .free "isinstance", .free "sum", .free "zip", .int "MAX_PERIOD_shapes" 400, .int "MAX_PERIOD_times" 400]
def exB (K : W.Frag) : Bool := klB K "Runs" && (klB K "Times" && (kitB1 K (.ref (CR K)) (.ref (CR K)) true && (kitB1 K (.type "int") (.ref (CR K)) false && (kitB1 K (.ref (CT K)) (.ref (CT K)) true && (kitB1 K (.type "int") (.ref (CT K)) false && (findB K (CT K) "__ne__" "object.__ne__" && (propB K (CT K) "runs" && (creadB K (CT K) && (cmetB K (CT K) "of")))))))))
abbrev Rw : W.OpenRow := W.OpenLaw.row PySem.Challenge.rw_everwhen_k06_whole_rows_of_operations
abbrev hk : W.Hook := hookB 5 fa fn exB
def obz (s : W.SharedT) : He.AlD × Bool := obsB 5 fa fn exB (HandSHeadRun.getT s)
theorem ob_eq (s : W.SharedT) : obz s = hk.obs s.abs := obsB_eq (HandSHeadRun.getT_eq s)
def loose : List Str := [("_wall" : Str), ("__name__" : Str), ("EverError" : Str), ("InvalidTimes" : Str), ("InvalidOperation" : Str), ("InvalidNumber" : Str), ("MAX_PERIOD_shapes" : Str), ("is_integer" : Str), ("is_between" : Str), ("is_bound" : Str), ("require_period" : Str), ("require_integer" : Str), ("is_span" : Str), ("greater_of" : Str), ("lesser_of" : Str), ("rounded" : Str), ("is_empty_pair" : Str), ("MAX_PERIOD_times" : Str), ("run_of" : Str), ("run_key" : Str), ("goes_on" : Str), ("united" : Str), ("grouped" : Str), ("runs_in" : Str), ("outside_runs" : Str), ("common_runs" : Str), ("is_member" : Str), ("next_in" : Str), ("last_in" : Str), ("many_in" : Str), ("far_end" : Str), ("kth_in" : Str), ("Runs" : Str), ("checked" : Str), ("times_in_spans" : Str), ("Times" : Str), ("require_alike" : Str), ("_law_dice" : Str), ("_law_roll" : Str), ("_law_pick" : Str), ("_law_near" : Str), ("_law_bound" : Str), ("_law_pair" : Str), ("_law_residue" : Str), ("_law_span" : Str), ("_law_period" : Str), ("_law_spans" : Str), ("_law_between" : Str), ("_law_is_in" : Str), ("_law_bounds" : Str), ("_law_plain" : Str), ("_law_has" : Str), ("_law_made" : Str), ("_law_edges" : Str), ("_law_ways_right" : Str), ("_law_numbers_right" : Str), ("_law_right" : Str)]
theorem run (w : World) : HandSHeadRun.RunEq Rw (W.view Rw.prog [61]) hk obz 20000 loose w := by
  intro os
  kernel_rfl
end TM
end

section
set_option maxHeartbeats 4000000
namespace TM
open PySem PySem.Spec PyProof.Rows L2 EW
abbrev FnP (K : W.Frag) (x : Str) (st : Stmt) (fd : FuncData) : Prop := FunD K x x (defArgs st) (defBody st) (defScope st) [] [] (He.ga K x) fd
/-- names of the built-ins that the module doesn't bind -/
structure Fre (mg : Str → Option Value) : Prop where
  len : mg "len" = none
  int : mg "int" = none
  bool : mg "bool" = none
  tuple : mg "tuple" = none
  list : mg "list" = none
  set : mg "set" = none
  abs : mg "abs" = none
  max : mg "max" = none
  min : mg "min" = none
  range : mg "range" = none
  any : mg "any" = none
  all : mg "all" = none
  sorted : mg "sorted" = none
  isinstance : mg "isinstance" = none
/-- the greatest period, under its two names -/
structure Per (mg : Str → Option Value) : Prop where
  shapes : ∃ t, mg "MAX_PERIOD_shapes" = some (.int 400 t)
abbrev NIsInt : List Str := ["value"]
theorem IsInt : FnScope NIsInt ["value"] (defScope sIsInt) := ⟨rfl, rfl, rfl, by decide +kernel, rfl, by decide +kernel, by decide +kernel⟩
abbrev NBetween : List Str := ["value", "least", "most"]
theorem Between : FnScope NBetween ["value", "least", "most"] (defScope sBetween) := ⟨rfl, rfl, rfl, by decide +kernel, rfl, by decide +kernel, by decide +kernel⟩
abbrev NIsBound : List Str := ["value"]
theorem IsBound : FnScope NIsBound ["value"] (defScope sIsBound) := ⟨rfl, rfl, rfl, by decide +kernel, rfl, by decide +kernel, by decide +kernel⟩
abbrev NReqP : List Str := ["period"]
theorem ReqP : FnScope NReqP ["period"] (defScope sReqP) := ⟨rfl, rfl, rfl, by decide +kernel, rfl, by decide +kernel, by decide +kernel⟩
abbrev NIsSpan : List Str := ["period", "value"]
theorem IsSpan : FnScope NIsSpan ["period", "value"] (defScope sIsSpan) := ⟨rfl, rfl, rfl, by decide +kernel, rfl, by decide +kernel, by decide +kernel⟩
abbrev NGreater : List Str := ["one", "other"]
theorem Greater : FnScope NGreater ["one", "other"] (defScope sGreater) := ⟨rfl, rfl, rfl, by decide +kernel, rfl, by decide +kernel, by decide +kernel⟩
abbrev NLesser : List Str := ["one", "other"]
theorem Lesser : FnScope NLesser ["one", "other"] (defScope sLesser) := ⟨rfl, rfl, rfl, by decide +kernel, rfl, by decide +kernel, by decide +kernel⟩
abbrev NRounded : List Str := ["period", "residue", "pair", "least", "most"]
theorem Rounded : FnScope NRounded ["period", "residue", "pair"] (defScope sRounded) := ⟨rfl, rfl, rfl, by decide +kernel, rfl, by decide +kernel, by decide +kernel⟩
abbrev NEmptyP : List Str := ["pair"]
theorem EmptyP : FnScope NEmptyP ["pair"] (defScope sEmptyP) := ⟨rfl, rfl, rfl, by decide +kernel, rfl, by decide +kernel, by decide +kernel⟩
abbrev NRunOf : List Str := ["period", "residue", "least", "most", "pair"]
theorem RunOf : FnScope NRunOf ["period", "residue", "least", "most"] (defScope sRunOf) := ⟨rfl, rfl, rfl, by decide +kernel, rfl, by decide +kernel, by decide +kernel⟩
abbrev NRunKey : List Str := ["run"]
theorem RunKey : FnScope NRunKey ["run"] (defScope sRunKey) := ⟨rfl, rfl, rfl, by decide +kernel, rfl, by decide +kernel, by decide +kernel⟩
abbrev NGoesOn : List Str := ["period", "run", "other"]
theorem GoesOn : FnScope NGoesOn ["period", "run", "other"] (defScope sGoesOn) := ⟨rfl, rfl, rfl, by decide +kernel, rfl, by decide +kernel, by decide +kernel⟩
def spIsInt (K : W.Frag) : Sp := fun vs H Q _ => ∃ (v : V) (t : Value) (b c : Bool), vs = [v] ∧ TyX K H v t ∧ W.kitOne K t (.type "int") = some b ∧ (b = true → W.kitOne K t (.type "bool") = some c) ∧ Q (.bl (b && !c)) H
theorem kb1 : kitB "int" "int" = some true := by decide +kernel
theorem kb2 : kitB "int" "bool" = some false := by decide +kernel
theorem kb3 : kitB "NoneType" "int" = some false := by decide +kernel
theorem kb4 : kitB "tuple" "tuple" = some true := by decide +kernel
theorem isInt_int {K : W.Frag} {H : Hp} {Q : VK} (i : Int) (h : Q (.bl true) H) : spIsInt K [.int i] H Q E0 := ⟨_, _, true, false, rfl, .base (.int i), kit_ty kb1, fun _ => kit_ty kb2, h⟩
theorem isInt_non {K : W.Frag} {H : Hp} {Q : VK} (h : Q (.bl false) H) : spIsInt K [.non] H Q E0 := ⟨_, _, false, false, rfl, .base .non, kit_ty kb3, (fun z => nomatch z), h⟩
def spBetween : Sp := fun vs H Q _ => ∃ v l m : Int, vs = [.int v, .int l, .int m] ∧ Q (.bl (decide (l ≤ v) && decide (v ≤ m))) H
def spBound : Sp := fun vs H Q _ => ∃ o : Option Int, vs = [ob o] ∧ Q (.bl true) H
def spReqP : Sp := fun vs H Q _ => ∃ p : Int, vs = [.int p] ∧ 1 ≤ p ∧ p ≤ 400 ∧ Q .non H
section
variable {P : Program} {w : World} {K : W.Frag} {mg : Str → Option Value} {base : Heap}
theorem ok_isInt {fd : FuncData} (F : FnP K "is_integer" sIsInt fd) (T : Fre mg) : FnOk P w K mg base CX0 1 (He.ga K "is_integer") fd ["value"] (spIsInt K) := by
  refine F.ok IsInt (fun vs H Q E h => ?_) (fun cdv A outer s H vs Q E hr h => ?_)
  · obtain ⟨v, t, b, c, rfl, _⟩ := h
    rfl
  · obtain ⟨v, t, b, c, rfl, ty, hb, hc, k⟩ := h
    refine ⟨_, PSs.nox (pss_one (ps_ret (pe_and (pe_callB (call_isiE K rfl) (by rfl) T.isinstance EW.boot_isinstance (pa_cons (pv 0) (pa_cons (pe_bltn (v := .ty "int") rfl T.int EW.boot_int rfl) pa_nil))) (pe_one (pe_not (pe_callB (call_isiE K rfl) (by rfl) T.isinstance EW.boot_isinstance (pa_cons (pv 0) (pa_cons (pe_bltn (v := .ty "bool") rfl T.bool EW.boot_bool rfl) pa_nil)))))))), ?_⟩
    refine ⟨_, rfl, v, _, t, _, b, rfl, .ty "int", ty, hb, b, rfl, ?_⟩
    cases b with
    | false => exact iteF k
    | true => exact iteT ⟨_, rfl, v, _, t, _, c, rfl, .ty "bool", ty, hc rfl, c, rfl, k⟩
theorem ok_between {fd : FuncData} (F : FnP K "is_between" sBetween fd) (Dis_integer : Df P w K mg base 1 "is_integer" ["value"] (spIsInt K)) : FnOk P w K mg base CX0 2 (He.ga K "is_between") fd ["value", "least", "most"] spBetween := by
  refine F.ok Between (fun vs H Q E h => ?_) (fun cdv A outer s H vs Q E hr h => ?_)
  · obtain ⟨v, l, m, rfl, _⟩ := h
    rfl
  · obtain ⟨v, l, m, rfl, k⟩ := h
    refine ⟨_, PSs.nox (pss_one (ps_ret (pe_and (pe_df Dis_integer (hr.mono (by decide)) rfl (pa_cons (pv 0) pa_nil)) (pe_one (pe_chain op_le op_le (pv 1) (pv 0) (pv 2)))))), ?_⟩
    refine ⟨_, rfl, _, _, true, false, rfl, .base (.int v), kit_ty kb1, (fun _ => kit_ty kb2), _, rfl, iteT ?_⟩
    refine ⟨_, rfl, _, rfl, _, _, rfl, rfl, _, rfl, ?_⟩
    by_cases c : l ≤ v
    · rw [decide_eq_true c] at k ⊢
      exact iteT ⟨_, rfl, _, _, rfl, rfl, k⟩
    · rw [decide_eq_false c] at k ⊢
      exact iteF k
theorem ok_bound {fd : FuncData} (F : FnP K "is_bound" sIsBound fd) (Dis_integer : Df P w K mg base 1 "is_integer" ["value"] (spIsInt K)) : FnOk P w K mg base CX0 2 (He.ga K "is_bound") fd ["value"] spBound := by
  refine F.ok IsBound (fun vs H Q E h => ?_) (fun cdv A outer s H vs Q E hr h => ?_)
  · obtain ⟨o, rfl, _⟩ := h
    rfl
  · obtain ⟨o, rfl, k⟩ := h
    refine ⟨_, PSs.nox (pss_one (ps_ret (pe_or (pe_cmp (pc_isN (pv 0))) (pe_one (pe_df Dis_integer (hr.mono (by decide)) rfl (pa_cons (pv 0) pa_nil)))))), ?_⟩
    cases o with
    | none => exact ⟨_, rfl, _, rfl, iteT k⟩
    | some i => exact ⟨_, rfl, _, rfl, iteF ⟨_, rfl, _, _, true, false, rfl, .base (.int i), kit_ty kb1, (fun _ => kit_ty kb2), k⟩⟩
theorem ok_reqP {fd : FuncData} (F : FnP K "require_period" sReqP fd) (GP : Per mg) (Dis_between : Df P w K mg base 2 "is_between" ["value", "least", "most"] spBetween) : FnOk P w K mg base CX0 3 (He.ga K "require_period") fd ["period"] spReqP := by
  refine F.ok ReqP (fun vs H Q E h => ?_) (fun cdv A outer s H vs Q E hr h => ?_)
  · obtain ⟨p, rfl, _⟩ := h
    rfl
  · obtain ⟨p, rfl, p1, p2, k⟩ := h
    obtain ⟨tk, gs⟩ := GP.shapes
    refine ⟨_, PSs.nox (pss_one (ps_if (pt_not (pt_val (pe_df Dis_between (hr.mono (by decide)) rfl (pa_cons (pv 0) (pa_cons pe_int (pa_cons (pe_glob (v := .int 400) rfl gs ⟨tk, rfl⟩) pa_nil)))))) (pss_one ps_never) pss_nil)), ?_⟩
    refine ⟨_, rfl, p, 1, 400, rfl, _, rfl, ?_⟩
    rw [decide_eq_true p1, decide_eq_true p2]
    exact iteF k
def spSpan (K : W.Frag) : Sp := fun vs H Q _ => ∃ (p : Int) (v : V) (s : Rn.Sp3), vs = [.int p, v] ∧ Sn K H v s ∧ Rn.SpOk p s ∧ Q (.bl true) H
theorem tyT {H : Hp} {a : Addr} {xs : List V} (h : SqT K H a xs) : TyX K H (.ref a) (.type "tuple") := by
  rcases h with (h | ⟨o, h⟩) | ⟨o, its, n, e, c, _⟩
  · exact .base (.tup h)
  · exact .fTuple h
  · exact .kTuple e c
theorem ok_span {fd : FuncData} (F : FnP K "is_span" sIsSpan fd) (T : Fre mg) (Dis_bound : Df P w K mg base 2 "is_bound" ["value"] spBound) (Dis_between : Df P w K mg base 2 "is_between" ["value", "least", "most"] spBetween) :
    FnOk P w K mg base CX0 3 (He.ga K "is_span") fd ["period", "value"] (spSpan K) := by
  refine F.ok IsSpan (fun vs H Q E h => ?_) (fun cdv A outer s H vs Q E hr h => ?_)
  · obtain ⟨p, v, s, rfl, _⟩ := h
    rfl
  · obtain ⟨p, v, s, rfl, ⟨a, rfl, hS⟩, ok, k⟩ := h
    refine ⟨_, PSs.nox (pss_cons (ps_if (PW.pt (pw_or (pt_not (pt_val (pe_callB (call_isiE K rfl) (by rfl) T.isinstance EW.boot_isinstance (pa_cons (pv 1) (pa_cons (pe_bltn (v := .ty "tuple") rfl T.tuple EW.boot_tuple rfl) pa_nil))))) (pw_or (pt_cmpR op_ne (pe_callB (call_lenK K rfl) (by rfl) T.len PySem.boot_len (pa_cons (pv 1) pa_nil)) pe_int (nomark _)) (pw_or (pt_not (pt_val (pe_df Dis_bound (hr.mono (by decide)) rfl (pa_cons (pe_ix (ix_tupK K rfl) (pv 1) pe_int (fun _ _ => rfl)) pa_nil)))) (pw_or1 (pt_not (pt_val (pe_df Dis_bound (hr.mono (by decide)) rfl (pa_cons (pe_ix (ix_tupK K rfl) (pv 1) pe_int (fun _ _ => rfl)) pa_nil))))))))) (pss_one (ps_ret pe_bl)) pss_nil)
      (pss_one (ps_ret (pe_or (pe_cmp (pc_isN (pe_ix (ix_tupK K rfl) (pv 1) pe_int (fun _ _ => rfl)))) (pe_one (pe_df Dis_between (hr.mono (by decide)) rfl (pa_cons (pe_ix (ix_tupK K rfl) (pv 1) pe_int (fun _ _ => rfl)) (pa_cons pe_int (pa_cons (pe_op op_sub (pv 0) pe_int) pa_nil))))))))), ?_⟩
    refine ⟨_, rfl, _, _, _, _, true, rfl, .ty "tuple", tyT hS, kit_ty kb4, _, rfl, iteF ?_⟩
    refine ⟨_, rfl, _, 3, rfl, ?_, rfl, _, rfl, iteF ?_⟩
    · exact Or.inr ⟨_, hS, rfl⟩
    refine ⟨_, rfl, a, _, _, _, rfl, rfl, hS, rfl, s.lo, rfl, _, rfl, iteF ?_⟩
    refine ⟨_, rfl, a, _, _, _, rfl, rfl, hS, rfl, s.hi, rfl, _, rfl, iteF ?_⟩
    refine ⟨_, rfl, a, _, _, _, rfl, rfl, hS, rfl, _, rfl, ?_⟩
    obtain ⟨r, lo, hi⟩ := s
    cases r with
    | none => exact iteT k
    | some r =>
      obtain ⟨r0, r1⟩ := ok r rfl
      refine iteF ⟨_, rfl, a, _, _, _, rfl, rfl, hS, rfl, _, rfl, _, _, rfl, rfl, r, 0, p - 1, rfl, ?_⟩
      rw [decide_eq_true r0, decide_eq_true (show r ≤ p - 1 by omega)]
      exact k
/-- the greater of two bounds from below, the lesser of two from above -/
def grt (a b : Option Int) : Option Int := match a, b with
  | none, b => b
  | some u, none => some u
  | some u, some v => some (if v > u then v else u)
def lst (a b : Option Int) : Option Int := match a, b with
  | none, b => b
  | some u, none => some u
  | some u, some v => some (if v < u then v else u)
def spTwo (f : Option Int → Option Int → Option Int) : Sp := fun vs H Q _ => ∃ a b : Option Int, vs = [ob a, ob b] ∧ Q (ob (f a b)) H
theorem ok_greater {fd : FuncData} (F : FnP K "greater_of" sGreater fd) (T : Fre mg) : FnOk P w K mg base CX0 1 (He.ga K "greater_of") fd ["one", "other"] (spTwo grt) := by
  refine F.ok Greater (fun vs H Q E h => ?_) (fun cdv A outer s H vs Q E hr h => ?_)
  · obtain ⟨a, b, rfl, _⟩ := h
    rfl
  · obtain ⟨a, b, rfl, k⟩ := h
    refine ⟨_, PSs.nox (pss_cons (ps_if (PW.pt (pw_or (pt_cmp (pc_isN (pv 0))) (pw_or1 (pt_cmp (pc_isN (pv 1)))))) (pss_one (ps_ret (pe_ifExp (pt_cmp (pc_isN (pv 0))) (pv 1) (pv 0)))) pss_nil)
      (pss_one (ps_ret (pe_callB (call_max2 rfl) (by rfl) T.max EW.boot_max (pa_cons (pv 0) (pa_cons (pv 1) pa_nil)))))), ?_⟩
    cases a with
    | none => exact ⟨_, rfl, _, rfl, iteT (iteT ⟨_, rfl, _, rfl, iteT ⟨_, rfl, k⟩⟩)⟩
    | some u =>
      cases b with
      | none => exact ⟨_, rfl, _, rfl, iteF ⟨_, rfl, _, rfl, iteT ⟨_, rfl, _, rfl, iteF ⟨_, rfl, k⟩⟩⟩⟩
      | some v => exact ⟨_, rfl, _, rfl, iteF ⟨_, rfl, _, rfl, iteF ⟨_, rfl, _, rfl, _, _, rfl, k⟩⟩⟩
theorem ok_lesser {fd : FuncData} (F : FnP K "lesser_of" sLesser fd) (T : Fre mg) : FnOk P w K mg base CX0 1 (He.ga K "lesser_of") fd ["one", "other"] (spTwo lst) := by
  refine F.ok Lesser (fun vs H Q E h => ?_) (fun cdv A outer s H vs Q E hr h => ?_)
  · obtain ⟨a, b, rfl, _⟩ := h
    rfl
  · obtain ⟨a, b, rfl, k⟩ := h
    refine ⟨_, PSs.nox (pss_cons (ps_if (PW.pt (pw_or (pt_cmp (pc_isN (pv 0))) (pw_or1 (pt_cmp (pc_isN (pv 1)))))) (pss_one (ps_ret (pe_ifExp (pt_cmp (pc_isN (pv 0))) (pv 1) (pv 0)))) pss_nil)
      (pss_one (ps_ret (pe_callB (call_min2 rfl) (by rfl) T.min EW.boot_min (pa_cons (pv 0) (pa_cons (pv 1) pa_nil)))))), ?_⟩
    cases a with
    | none => exact ⟨_, rfl, _, rfl, iteT (iteT ⟨_, rfl, _, rfl, iteT ⟨_, rfl, k⟩⟩)⟩
    | some u =>
      cases b with
      | none => exact ⟨_, rfl, _, rfl, iteF ⟨_, rfl, _, rfl, iteT ⟨_, rfl, _, rfl, iteF ⟨_, rfl, k⟩⟩⟩⟩
      | some v => exact ⟨_, rfl, _, rfl, iteF ⟨_, rfl, _, rfl, iteF ⟨_, rfl, _, rfl, _, _, rfl, k⟩⟩⟩
def spRounded (K : W.Frag) : Sp := fun vs H Q _ => ∃ (p r : Int) (v : V) (lo hi : Option Int), vs = [.int p, .int r, v] ∧ 0 < p ∧ Tp K H v [ob lo, ob hi] ∧ New H (fun _ => .tup [ob (lo.map (Rn.upTo p r)), ob (hi.map (Rn.downTo p r))]) Q
theorem ok_rounded {fd : FuncData} (F : FnP K "rounded" sRounded fd) (T : Fre mg) : FnOk P w K mg base CX0 1 (He.ga K "rounded") fd ["period", "residue", "pair"] (spRounded K) := by
  refine F.ok Rounded (fun vs H Q E h => ?_) (fun cdv A outer s H vs Q E hr h => ?_)
  · obtain ⟨p, r, v, lo, hi, rfl, _⟩ := h
    rfl
  · obtain ⟨p, r, v, lo, hi, rfl, hp, ⟨a, rfl, hS⟩, k⟩ := h
    refine ⟨_, PSs.nox (pss_cons (ps_asg (pv 2) (pg_tup rfl (pgs_cons (pg_name (i := 3) Rounded.nd rfl (Or.inl rfl)) (pgs_cons (pg_name (i := 4) Rounded.nd rfl (Or.inl rfl)) pgs_nil))))
      (pss_cons (ps_if (pt_cmp (pc_isN (pv 1))) (pss_one (ps_ret (pv 2))) pss_nil)
      (pss_cons (ps_if (pt_cmp (pc_notN (pv 3))) (pss_one (ps_set (i := 3) Rounded.nd rfl (Or.inl rfl) (pe_op op_add (pv 3) (pe_op op_mod (pe_callTy call_int1 (by rfl) T.int EW.boot_int (pa_cons (pe_op op_sub (pv 1) (pv 3)) pa_nil)) (pv 0))))) pss_nil)
      (pss_cons (ps_if (pt_cmp (pc_notN (pv 4))) (pss_one (ps_set (i := 4) Rounded.nd rfl (Or.inl rfl) (pe_op op_sub (pv 4) (pe_op op_mod (pe_callTy call_int1 (by rfl) T.int EW.boot_int (pa_cons (pe_op op_sub (pv 4) (pv 1)) pa_nil)) (pv 0))))) pss_nil)
      (pss_one (ps_ret (pe_tupS (pa_cons (pv 3) (pa_cons (pv 4) pa_nil))))))))), ?_⟩
    refine ⟨_, rfl, a, _, rfl, hS, rfl, _, _, rfl, _, _, rfl, rfl, _, rfl, _, rfl, iteF ?_⟩
    cases lo with
    | none =>
      refine ⟨_, rfl, _, rfl, iteF ?_⟩
      cases hi with
      | none => exact ⟨_, rfl, _, rfl, iteF ⟨_, rfl, _, rfl, (by show 2 ≤ sizeLine; decide), k⟩⟩
      | some m => exact ⟨_, rfl, _, rfl, iteT ⟨_, rfl, _, rfl, _, rfl, _, _, rfl, rfl, Or.inl ⟨_, rfl, _, rfl, _, _, rfl, rfl, hp, _, _, rfl, rfl, _, rfl, _, rfl, (by show 2 ≤ sizeLine; decide), k⟩⟩⟩
    | some l =>
      refine ⟨_, rfl, _, rfl, iteT ⟨_, rfl, _, rfl, _, rfl, _, _, rfl, rfl, Or.inl ⟨_, rfl, _, rfl, _, _, rfl, rfl, hp, _, _, rfl, rfl, ?_⟩⟩⟩
      cases hi with
      | none => exact ⟨_, rfl, _, rfl, iteF ⟨_, rfl, _, rfl, (by show 2 ≤ sizeLine; decide), k⟩⟩
      | some m => exact ⟨_, rfl, _, rfl, iteT ⟨_, rfl, _, rfl, _, rfl, _, _, rfl, rfl, Or.inl ⟨_, rfl, _, rfl, _, _, rfl, rfl, hp, _, _, rfl, rfl, _, rfl, _, rfl, (by show 2 ≤ sizeLine; decide), k⟩⟩⟩
end
end TM
end

section
set_option maxHeartbeats 4000000
namespace TM
open PySem PySem.Spec PyProof.Rows L2 EW
section
variable {P : Program} {w : World} {K : W.Frag} {mg : Str → Option Value} {base : Heap}
def emptyP (lo hi : Option Int) : Bool := match lo, hi with
  | some l, some m => decide (l > m)
  | _, _ => false
def spEmptyP (K : W.Frag) : Sp := fun vs H Q _ => ∃ (v : V) (lo hi : Option Int), vs = [v] ∧ Tp K H v [ob lo, ob hi] ∧ Q (.bl (emptyP lo hi)) H
theorem ok_emptyP {fd : FuncData} (F : FnP K "is_empty_pair" sEmptyP fd) : FnOk P w K mg base CX0 1 (He.ga K "is_empty_pair") fd ["pair"] (spEmptyP K) := by
  refine F.ok EmptyP (fun vs H Q E h => ?_) (fun cdv A outer s H vs Q E hr h => ?_)
  · obtain ⟨v, lo, hi, rfl, _⟩ := h
    rfl
  · obtain ⟨v, lo, hi, rfl, ⟨a, rfl, hS⟩, k⟩ := h
    refine ⟨_, PSs.nox (pss_one (ps_ret (pe_and (pe_cmp (pc_notN (pe_ix (ix_tupK K rfl) (pv 0) pe_int (fun _ _ => rfl)))) (pe_and (pe_cmp (pc_notN (pe_ix (ix_tupK K rfl) (pv 0) pe_int (fun _ _ => rfl)))) (pe_one (pe_cmpR op_gt (pe_ix (ix_tupK K rfl) (pv 0) pe_int (fun _ _ => rfl)) (pe_ix (ix_tupK K rfl) (pv 0) pe_int (fun _ _ => rfl)) (nomark _))))))), ?_⟩
    refine ⟨_, rfl, a, _, _, _, rfl, rfl, hS, rfl, _, rfl, ?_⟩
    cases lo with
    | none => exact iteF k
    | some l =>
      refine iteT ⟨_, rfl, a, _, _, _, rfl, rfl, hS, rfl, _, rfl, ?_⟩
      cases hi with
      | none => exact iteF k
      | some m => exact iteT ⟨_, rfl, a, _, _, _, rfl, rfl, hS, rfl, _, rfl, a, _, _, _, rfl, rfl, hS, rfl, _, _, rfl, rfl, k⟩
/-- a run, new, or None -/
def NewRun (H : Hp) (z : Option Rn.Run) (Q : VK) : Prop := match z with
  | none => ∀ H', Same H H' → Q .non H'
  | some x => ∀ (q : Addr) (H' : Hp), H q = none → Same H H' → H' q = some (.tup [.int x.r, ob x.lo, ob x.hi]) → Q (.ref q) H'
def spRunOf : Sp := fun vs H Q _ => ∃ (p r : Int) (lo hi : Option Int), vs = [.int p, .int r, ob lo, ob hi] ∧ 0 < p ∧ NewRun H (Rn.runOf p r lo hi) Q
theorem runOf_empty {p r : Int} {lo hi : Option Int} : Rn.runOf p r lo hi = if emptyP (lo.map (Rn.upTo p r)) (hi.map (Rn.downTo p r)) = true then none else some ⟨r, lo.map (Rn.upTo p r), hi.map (Rn.downTo p r)⟩ := by
  unfold Rn.runOf emptyP
  cases lo with
  | none => rfl
  | some l =>
    cases hi with
    | none => rfl
    | some m =>
      show (if _ > _ then _ else _) = (if decide (_ > _) = true then _ else _)
      simp only [decide_eq_true_eq]
      rfl
theorem ok_runOf {fd : FuncData} (F : FnP K "run_of" sRunOf fd) (Drounded : Df P w K mg base 1 "rounded" ["period", "residue", "pair"] (spRounded K)) (Dis_empty_pair : Df P w K mg base 1 "is_empty_pair" ["pair"] (spEmptyP K)) :
    FnOk P w K mg base CX0 2 (He.ga K "run_of") fd ["period", "residue", "least", "most"] spRunOf := by
  refine F.ok RunOf (fun vs H Q E h => ?_) (fun cdv A outer s H vs Q E hr h => ?_)
  · obtain ⟨p, r, lo, hi, rfl, _⟩ := h
    rfl
  · obtain ⟨p, r, lo, hi, rfl, hp, k⟩ := h
    refine ⟨_, PSs.nox (pss_cons (ps_set (i := 4) RunOf.nd rfl (Or.inl rfl) (pe_df Drounded (hr.mono (by decide)) rfl (pa_cons (pv 0) (pa_cons (pv 1) (pa_cons (pe_tupS (pa_cons (pv 2) (pa_cons (pv 3) pa_nil))) pa_nil)))))
      (pss_one (ps_ret (pe_ifExp (pt_val (pe_df Dis_empty_pair (hr.mono (by decide)) rfl (pa_cons (pv 4) pa_nil))) pe_non (pe_tupS (pa_cons (pv 1) (StX.pa_star (pv 4) pa_nil))))))), ?_⟩
    refine ⟨_, rfl, _, rfl, _, rfl, _, rfl, (by show 2 ≤ sizeLine; decide), fun q1 H1 n1 s1 e1 => ?_⟩
    refine ⟨p, r, _, lo, hi, rfl, hp, Tp.of e1, fun q2 H2 n2 s2 e2 => ?_⟩
    refine ⟨_, rfl, _, _, _, rfl, Tp.of e2, _, rfl, ?_⟩
    rw [runOf_empty] at k
    cases c : emptyP (lo.map (Rn.upTo p r)) (hi.map (Rn.downTo p r)) with
    | true =>
      rw [c, if_pos rfl] at k
      exact iteT (k H2 (Same.trans s1 s2))
    | false =>
      rw [c, if_neg (by decide)] at k
      refine iteF ⟨_, rfl, _, rfl, q2, _, rfl, .inl (SqT.of e2), (by show 3 ≤ sizeLine; decide), fun q3 H3 n3 s3 e3 => ?_⟩
      have s4 := Same.trans s1 s2
      exact k q3 H3 (s4.free n3) (Same.trans s4 s3) e3
/-- the key of a run -/
def keyOf (lo : Option Int) : Int × Int := match lo with
  | none => (0, 0)
  | some l => (1, l)
def KeyR (K : W.Frag) (H : Hp) (v : V) (pr : Int × Int) : Prop := ∃ z : Rn.Run, Sn K H v z.span ∧ pr = keyOf z.lo
def spKey (K : W.Frag) : Sp := fun vs H Q _ => ∃ (v : V) (pr : Int × Int), vs = [v] ∧ KeyR K H v pr ∧ New H (fun _ => .tup [.int pr.1, .int pr.2]) Q
theorem ok_key {fd : FuncData} (F : FnP K "run_key" sRunKey fd) : FnOk P w K mg base CX0 1 (He.ga K "run_key") fd ["run"] (spKey K) := by
  refine F.ok RunKey (fun vs H Q E h => ?_) (fun cdv A outer s H vs Q E hr h => ?_)
  · obtain ⟨v, pr, rfl, _⟩ := h
    rfl
  · obtain ⟨v, pr, rfl, ⟨z, ⟨a, rfl, hS⟩, rfl⟩, k⟩ := h
    obtain ⟨r, lo, hi⟩ := z
    refine ⟨_, PSs.nox (pss_one (ps_ret (pe_ifExp (pt_cmp (pc_isN (pe_ix (ix_tupK K rfl) (pv 0) pe_int (fun _ _ => rfl)))) (pe_tupS (pa_cons pe_int (pa_cons pe_int pa_nil))) (pe_tupS (pa_cons pe_int (pa_cons (pe_ix (ix_tupK K rfl) (pv 0) pe_int (fun _ _ => rfl)) pa_nil)))))), ?_⟩
    refine ⟨_, rfl, a, _, _, _, rfl, rfl, hS, rfl, _, rfl, ?_⟩
    cases lo with
    | none => exact iteT ⟨(by show 2 ≤ sizeLine; decide), k⟩
    | some l => exact iteF ⟨_, rfl, a, _, _, _, rfl, rfl, hS, rfl, (by show 2 ≤ sizeLine; decide), k⟩
def spGoesOn (K : W.Frag) : Sp := fun vs H Q _ => ∃ (p : Int) (u v : V) (x y : Rn.Run), vs = [.int p, u, v] ∧ Sn K H u x.span ∧ Sn K H v y.span ∧ Q (.bl (Rn.goesOn p x y)) H
theorem ok_goesOn {fd : FuncData} (F : FnP K "goes_on" sGoesOn fd) : FnOk P w K mg base CX0 1 (He.ga K "goes_on") fd ["period", "run", "other"] (spGoesOn K) := by
  refine F.ok GoesOn (fun vs H Q E h => ?_) (fun cdv A outer s H vs Q E hr h => ?_)
  · obtain ⟨p, u, v, x, y, rfl, _⟩ := h
    rfl
  · obtain ⟨p, u, v, ⟨xr, xl, xh⟩, ⟨yr, yl, yh⟩, rfl, ⟨a, rfl, hA⟩, ⟨b, rfl, hB⟩, k⟩ := h
    refine ⟨_, PSs.nox (pss_one (ps_ret (pe_or (pe_cmp (pc_isN (pe_ix (ix_tupK K rfl) (pv 1) pe_int (fun _ _ => rfl)))) (pe_or (pe_cmp (pc_isN (pe_ix (ix_tupK K rfl) (pv 2) pe_int (fun _ _ => rfl)))) (pe_one (pe_cmpR op_le (pe_ix (ix_tupK K rfl) (pv 2) pe_int (fun _ _ => rfl)) (pe_op op_add (pe_ix (ix_tupK K rfl) (pv 1) pe_int (fun _ _ => rfl)) (pv 0)) (nomark _))))))), ?_⟩
    refine ⟨_, rfl, a, _, _, _, rfl, rfl, hA, rfl, _, rfl, ?_⟩
    cases xh with
    | none => exact iteT k
    | some h =>
      refine iteF ⟨_, rfl, b, _, _, _, rfl, rfl, hB, rfl, _, rfl, ?_⟩
      cases yl with
      | none => exact iteT k
      | some l => exact iteF ⟨_, rfl, b, _, _, _, rfl, rfl, hB, rfl, _, rfl, a, _, _, _, rfl, rfl, hA, rfl, _, rfl, _, _, rfl, rfl, _, _, rfl, rfl, k⟩
end
end TM
end

section
set_option maxHeartbeats 4000000
namespace TM
open PySem PySem.Spec PyProof.Rows L2 EW
theorem cr_maxK {X : Cx} (K : W.Frag) (h : X.K = K) (hc : X.calm = true) : CallR X (.builtin "max") (rMax K) := by
  subst h
  exact cr_max hc
theorem keyFn_of {X : Cx} (D : Df X.prog X.w X.K X.mg X.base 1 "run_key" ["run"] (spKey X.K)) : KeyFn X 1 (He.ga X.K "run_key") (KeyR X.K) := by
  obtain ⟨fd, F, b⟩ := D.ex
  refine ⟨⟨fd, _, _, F, b, fun v p H Q h n => ⟨v, p, rfl, h, n⟩⟩, fun H H' v p h s => ?_⟩
  obtain ⟨z, h1, h2⟩ := h
  exact ⟨z, Tp.same h1 s, h2⟩
theorem perm_lift {α β : Type} {f : α → β} {ps qs : List β} (h : ps.Perm qs) : ∀ l : List α, qs = l.map f → ∃ l' : List α, l'.Perm l ∧ ps = l'.map f := by
  induction h with
  | nil => exact fun l e => ⟨l, List.Perm.refl _, e⟩
  | cons x _ ih =>
    intro l e
    cases l with
    | nil => cases e
    | cons y l =>
      injection e with e1 e2
      obtain ⟨l', h1, h2⟩ := ih l e2
      exact ⟨y :: l', h1.cons y, by rw [List.map_cons, e1, h2]⟩
  | swap x y r =>
    intro l e
    match l, e with
    | a :: b :: l, e =>
      injection e with e1 e2
      injection e2 with e2 e3
      exact ⟨b :: a :: l, List.Perm.swap _ _ _, by rw [List.map_cons, List.map_cons, e1, e2, e3]⟩
  | trans _ _ ih1 ih2 =>
    intro l e
    obtain ⟨l2, h1, h2⟩ := ih2 l e
    obtain ⟨l3, h3, h4⟩ := ih1 l2 h2
    exact ⟨l3, h3.trans h1, h4⟩
theorem zip_keys : ∀ (xs : List V) (zs : List Rn.Run), xs.zip (zs.map fun z => keyOf z.lo) = (xs.zip zs).map fun q => (q.1, keyOf q.2.lo)
  | [], _ => by simp
  | _ :: _, [] => by simp
  | x :: xs, z :: zs => by
    rw [List.map_cons, List.zip_cons_cons, List.zip_cons_cons, List.map_cons, zip_keys xs zs]
theorem key_le {x y : Option Int} (h : SrtO.lexB (keyOf y) (keyOf x) = false) : Rn.loLe x y := by
  have h := SrtO.lexB_no.mp h
  cases x with
  | none => trivial
  | some u =>
    cases y with
    | none =>
      refine (h (.inl ?_)).elim
      show (0 : Int) < 1
      omega
    | some v =>
      show u ≤ v
      rcases Int.lt_or_le v u with c | c
      · exact (h (.inr ⟨rfl, c⟩)).elim
      · exact c
theorem rns_zip {K : W.Frag} {H : Hp} : ∀ {xs : List V} {zs : List Rn.Run}, Rns K H xs zs → ∀ q ∈ xs.zip zs, Sn K H q.1 q.2.span
  | _, _, .nil => fun q h => by simp at h
  | _, _, .cons h t => fun q hq => by
    rw [List.zip_cons_cons] at hq
    rcases List.mem_cons.mp hq with rfl | hq
    · exact h
    · exact rns_zip t q hq
theorem rns_of {K : W.Frag} {H : Hp} : ∀ (l : List (V × Rn.Run)), (∀ q ∈ l, Sn K H q.1 q.2.span) → Rns K H (l.map (·.1)) (l.map (·.2))
  | [], _ => .nil
  | q :: l, h => .cons (h q List.mem_cons_self) (rns_of l fun r hr => h r (List.mem_cons_of_mem _ hr))
theorem sorted_runs {K : W.Frag} {H : Hp} {xs ys : List V} {zs : List Rn.Run} (o : Out xs (zs.map fun z => keyOf z.lo) ys) (h : Rns K H xs zs) : ∃ zs0, Rns K H ys zs0 ∧ zs0.Perm zs ∧ zs0.Pairwise fun x y => Rn.loLe x.lo y.lo := by
  obtain ⟨ps, hp, hs, rfl⟩ := o
  rw [zip_keys] at hp
  obtain ⟨l, h1, rfl⟩ := perm_lift hp _ rfl
  have hl : (xs.zip zs).map (·.2) = zs := List.map_snd_zip (Nat.le_of_eq h.length.symm)
  refine ⟨l.map (·.2), ?_, ?_, ?_⟩
  · rw [List.map_map]
    exact rns_of l fun q hq => rns_zip h q (h1.mem_iff.mp hq)
  · have z := h1.map (·.2)
    rw [hl] at z
    exact z
  · rw [List.pairwise_map] at hs ⊢
    exact hs.imp fun h => key_le h
theorem rns_ref {K : W.Frag} {H : Hp} : ∀ {xs : List V} {zs : List Rn.Run}, Rns K H xs zs → ∀ x ∈ xs, ∃ b, x = V.ref b
  | _, _, .nil => fun x h => by simp at h
  | _, _, .cons h t => fun x hx => by
    rcases List.mem_cons.mp hx with rfl | hx
    · obtain ⟨a, e, _⟩ := h
      exact ⟨a, e⟩
    · exact rns_ref t x hx
theorem rns_key {K : W.Frag} {H : Hp} {xs : List V} {zs : List Rn.Run} (h : Rns K H xs zs) : ∀ (j : Nat) (x : V) (pr : Int × Int), xs[j]? = some x → (zs.map fun z => keyOf z.lo)[j]? = some pr → KeyR K H x pr := by
  intro j x pr hx hp
  obtain ⟨z, hz, s⟩ := pr_get h hx
  rw [List.getElem?_map, hz] at hp
  exact ⟨z, s, (Option.some.inj hp).symm⟩
theorem pr_snoc {α β : Type} {F : α → β → Prop} : ∀ {as : List α} {bs : List β} {b : β}, Paired F as (bs ++ [b]) → ∃ as' a, as = as' ++ [a] ∧ Paired F as' bs ∧ F a b
  | [], [], _, h => nomatch h
  | [], _ :: _, _, h => nomatch h
  | a :: as, [], _, .cons h t => by
    cases t
    exact ⟨[], a, rfl, .nil, h⟩
  | a :: as, _ :: bs, b, .cons h t => by
    obtain ⟨as', a', e, p, q⟩ := pr_snoc (bs := bs) t
    exact ⟨a :: as', a', by rw [e]; rfl, .cons h p, q⟩
abbrev NUnited : List Str := ["period", "runs", "found", "run", "residue", "low", "high", "ends"]
theorem United : FnScope NUnited ["period", "runs"] (defScope sUnited) := ⟨rfl, rfl, rfl, by decide +kernel, rfl, by decide +kernel, by decide +kernel⟩
def spUnited (K : W.Frag) : Sp := fun vs H Q _ => ∃ (p r : Int) (a : Addr) (xs : List V) (zs : List Rn.Run), vs = [.int p, .ref a] ∧ 0 < p ∧ H a = some (.lst xs) ∧ Rns K H xs zs ∧ (∀ z ∈ zs, Rn.Good p z ∧ z.r = r) ∧ xs.length ≤ 10000000 ∧
  ∀ (l : Addr) (H' : Hp) (ys : List V) (ws : List Rn.Run), H l = none → Same H H' → H' l = some (.lst ys) → Rns K H' ys ws → Rn.Canon p ws → (∀ w ∈ ws, w.r = r) → (∀ t, Rn.inRuns p ws t ↔ Rn.inRuns p zs t) → ws.length ≤ zs.length → Q (.ref l) H'
section
variable {P : Program} {w : World} {K : W.Frag} {mg : Str → Option Value} {base : Heap}
theorem ok_united {fd : FuncData} (F : FnP K "united" sUnited fd) (T : Fre mg) (Drun_key : Df P w K mg base 1 "run_key" ["run"] (spKey K)) (Dgoes_on : Df P w K mg base 1 "goes_on" ["period", "run", "other"] (spGoesOn K)) :
    FnOk P w K mg base CX0 4 (He.ga K "united") fd ["period", "runs"] (spUnited K) := by
  refine F.ok United (fun vs H Q E h => ?_) (fun cdv A outer s H vs Q E hr h => ?_)
  · obtain ⟨p, r, a, xs, zs, rfl, _⟩ := h
    rfl
  · obtain ⟨p, r, a, xs, zs, rfl, hp, hA, hR, hG, hz, k⟩ := h
    refine ⟨_, PSs.nox (pss_cons (ps_set (i := 2) United.nd rfl (Or.inl rfl) (pe_lstS pa_nil))
      (pss_cons (ps_for PassesOwn.never rfl (pi_listK (K := K) rfl (pe_callBK (cr_sortedBy (keyFn_of Drun_key) (hr.mono (by decide))) (by rfl) T.sorted EW.boot_sorted (pa_cons (pv 1) pa_nil) (pk_cons (pe_glob (v := .ref (He.ga K "run_key")) rfl Drun_key.gl rfl) pk_nil))) (pg_name (i := 3) United.nd rfl (Or.inl rfl)) (pss_one (ps_if (PW.pt (pw_and (pt_cmpR (op_neDK K rfl hr.units) (pv 2) (pe_lstS pa_nil) (nomark _)) (pw_and1 (pt_val (pe_df Dgoes_on (hr.mono (by decide)) rfl (pa_cons (pv 0) (pa_cons (pe_ix (ix_listK K rfl) (pv 2) (pe_un un_neg pe_int) (fun _ _ => rfl)) (pa_cons (pv 3) pa_nil)))))))) (pss_cons (ps_asg (pe_bm0 PySem.F.plainAttrs_list PySem.F.slot_list_pop PySem.F.type_list_pop mt_pop (pv 2)) (pg_tup rfl (pgs_cons (pg_name (i := 4) United.nd rfl (Or.inl rfl)) (pgs_cons (pg_name (i := 5) United.nd rfl (Or.inl rfl)) (pgs_cons (pg_name (i := 6) United.nd rfl (Or.inl rfl)) pgs_nil)))))
      (pss_cons (ps_cut (ps_set (i := 7) United.nd rfl (Or.inl rfl) (pe_ifExp (PW.pt (pw_or (pt_cmp (pc_isN (pv 6))) (pw_or1 (pt_cmp (pc_isN (pe_ix (ix_tupK K rfl) (pv 3) pe_int (fun _ _ => rfl))))))) pe_non (pe_callB (cr_maxK K rfl rfl) (by rfl) T.max EW.boot_max (pa_cons (pe_lstS (pa_cons (pv 6) (pa_cons (pe_ix (ix_tupK K rfl) (pv 3) pe_int (fun _ _ => rfl)) pa_nil))) pa_nil)))))
      (pss_one (ps_expr (pe_bm PySem.F.plainAttrs_list PySem.F.slot_list_append PySem.F.type_list_append mt_append (pv 2) (pa_cons (pe_tupS (pa_cons (pv 4) (pa_cons (pv 5) (pa_cons (pv 7) pa_nil)))) pa_nil)))))) (pss_one (ps_expr (pe_bm PySem.F.plainAttrs_list PySem.F.slot_list_append PySem.F.type_list_append mt_append (pv 2) (pa_cons (pv 3) pa_nil)))))))
      (pss_one (ps_ret (pv 2))))), ?_⟩
    refine ⟨(by show 0 ≤ sizeLine; decide), fun l H1 n1 s1 e1 => ?_⟩
    have hlen := hR.length
    refine ⟨_, rfl, a, xs, _, rfl, rfl, SqL.of (s1 _ _ hA), rns_ref hR, by rw [List.length_map, hlen], rns_key (Rns.same hR s1), fun ys o b H2 n2 s2 e2 => ?_⟩
    have R2 : Rns K H2 xs zs := Rns.same hR (Same.trans s1 s2)
    obtain ⟨zs0, R0, pm, pw⟩ := sorted_runs o R2
    have hG0 : ∀ z ∈ zs0, Rn.Good p z ∧ z.r = r := fun z hz => hG z (pm.mem_iff.mp hz)
    have hl0 := R0.length
    have hl1 := pm.length_eq
    have hbl : b ≠ l := fun z => by rw [z, e1] at n2; cases n2
    have hn2 : H2 l = some (.lst []) := s2 _ _ e1
    have hbig : (10000000 : Nat) < sizeLine := by decide
    refine ⟨b, rfl, ⟨ys, SqL.of e2⟩, ?_⟩
    refine for_list (K := K) (a := b) (xs := ys) (fun i σ' H' => ∃ (u1 u2 u3 u4 u5 : Option V) (vs : List V) (ws : List Rn.Run), σ' = [some (.int p), some (.ref a), some (.ref l), u1, u2, u3, u4, u5] ∧ Same H H' ∧ H' b = some (.lst ys) ∧ H' l = some (.lst vs) ∧ Rns K H' vs ws ∧ Rns K H' ys zs0 ∧
      Rn.Grow p r ws (zs0.take i) ∧ (∀ x ∈ ws, ∀ y ∈ zs0.drop i, Rn.loLe x.lo y.lo) ∧ ws.length ≤ i) ?_ ?_ ?_ ?_
    · refine ⟨_, _, _, _, _, [], [], rfl, Same.trans s1 s2, e2, hn2, .nil, R0, ?_, (fun x hx => nomatch hx), Nat.le_refl _⟩
      rw [List.take_zero]
      exact Rn.Grow.nil
    · rintro i σ' H' _ ⟨u1, u2, u3, u4, u5, vs, ws, rfl, _, hb, _⟩
      exact SqL.of hb
    · rintro i x σ' H3 hx ⟨u1, u2, u3, u4, u5, vs, ws, rfl, s3, hb, hl, Rw, Ry, gr, lo, hwi⟩
      obtain ⟨y, hy, Sx⟩ := pr_get Ry hx
      have hyi : i < zs0.length := (List.getElem?_eq_some_iff.mp hy).1
      have ed : zs0.drop i = y :: zs0.drop (i + 1) := by
        rw [List.drop_eq_getElem_cons hyi]
        congr 1
        exact Option.some.inj ((List.getElem?_eq_getElem hyi).symm.trans hy)
      have et : zs0.take (i + 1) = zs0.take i ++ [y] := by
        rw [List.take_add_one, hy]
        rfl
      obtain ⟨gy, ry⟩ := hG0 y (List.mem_of_getElem? hy)
      have pwd : ∀ z ∈ zs0.drop (i + 1), Rn.loLe y.lo z.lo := by
        have z := List.Pairwise.sublist (List.drop_sublist i zs0) pw
        rw [ed] at z
        exact (List.pairwise_cons.mp z).1
      have hlen2 := Rw.length
      have add : ∀ (H4 : Hp) (u1 u2 u3 u4 u5 : Option V), Same H H4 → H4 b = some (.lst ys) → H4 l = some (.lst vs) → Rns K H4 vs ws → Rns K H4 ys zs0 → (∀ x pre, ws = pre ++ [x] → Rn.goesOn p x y = false) →
          ∃ (v1 v2 v3 v4 v5 : Option V) (vs' : List V) (ws' : List Rn.Run), [some (V.int p), some (.ref a), some (.ref l), u1, u2, u3, u4, u5] = [some (.int p), some (.ref a), some (.ref l), v1, v2, v3, v4, v5] ∧ Same H (upd H4 l (.lst (vs ++ [x]))) ∧ (upd H4 l (.lst (vs ++ [x]))) b = some (.lst ys) ∧ (upd H4 l (.lst (vs ++ [x]))) l = some (.lst vs') ∧ Rns K (upd H4 l (.lst (vs ++ [x]))) vs' ws' ∧ Rns K (upd H4 l (.lst (vs ++ [x]))) ys zs0 ∧
            Rn.Grow p r ws' (zs0.take (i + 1)) ∧ (∀ x ∈ ws', ∀ y ∈ zs0.drop (i + 1), Rn.loLe x.lo y.lo) ∧ ws'.length ≤ i + 1 := by
        intro H4 u1 u2 u3 u4 u5 s4 hb4 hl4 Rw4 Ry4 hno
        have kp : EW.Kept l H4 (upd H4 l (.lst (vs ++ [x]))) := Kept.upd
        obtain ⟨y', hy', Sx4⟩ := pr_get Ry4 hx
        obtain rfl : y = y' := Option.some.inj (hy.symm.trans hy')
        refine ⟨u1, u2, u3, u4, u5, vs ++ [x], ws ++ [y], rfl, (fun c o' h => kp c o' (fun z => by rw [z, n1] at h; cases h) (s4 c o' h)), by rw [upd_ne hbl]; exact hb4, upd_same, Rns.kept (pr_append Rw4 (.cons Sx4 .nil)) hl4 kp, Rns.kept Ry4 hl4 kp, ?_, ?_, ?_⟩
        · rw [et]
          exact gr.next gy ry hno
        · intro x' hx' z hz
          rcases List.mem_append.mp hx' with hx' | hx'
          · exact lo x' hx' z (by rw [ed]; exact List.mem_cons_of_mem _ hz)
          · rw [List.mem_singleton.mp hx']
            exact pwd z hz
        · rw [List.length_append]
          show ws.length + 1 ≤ i + 1
          omega
      have hvs : vs.length < sizeLine := by omega
      refine ⟨_, rfl, (by show 0 ≤ sizeLine; decide), fun q H4 n4 s4 e4 => ?_⟩
      refine ⟨.list (ws.map runD), .list (([] : List Rn.Run).map runD), .lst (SqL.of (s4 _ _ hl)) (runs_dp (Rns.same Rw s4)), .lst (SqL.of e4) .nil, shaped_list ws, shaped_list [], _, rfl, ?_⟩
      rw [list_eqv ws []]
      rcases List.eq_nil_or_concat ws with hw | ⟨pre, x0, hw⟩
      · rw [decide_eq_true hw]
        refine iteF (iteF ?_)
        refine ⟨_, rfl, Or.inl ⟨rfl, _, SqL.of (s4 _ _ hl)⟩, _, rfl, l, vs, x, rfl, rfl, s4 _ _ hl, hvs, ?_⟩
        exact add H4 _ _ _ _ _ (Same.trans s3 s4) (s4 _ _ hb) (s4 _ _ hl) (Rns.same Rw s4) (Rns.same Ry s4) fun x pre e => by rw [hw] at e; simp at e
      · rw [decide_eq_false (by rw [hw]; simp)]
        refine iteT ?_
        rw [List.concat_eq_append] at hw
        obtain ⟨vs0, v0, ev, Rp, S0⟩ := pr_snoc (hw ▸ Rw)
        refine ⟨_, rfl, _, rfl, _, rfl, l, vs, _, v0, rfl, rfl, SqL.of (s4 _ _ hl), by rw [ev]; exact atI_last vs0 v0, _, rfl, p, _, _, x0, y, rfl, Tp.same S0 s4, Tp.same Sx s4, _, rfl, ?_⟩
        cases gs : Rn.goesOn p x0 y with
        | false =>
          refine iteF ?_
          refine ⟨_, rfl, Or.inl ⟨rfl, _, SqL.of (s4 _ _ hl)⟩, _, rfl, l, vs, x, rfl, rfl, s4 _ _ hl, hvs, ?_⟩
          refine add H4 _ _ _ _ _ (Same.trans s3 s4) (s4 _ _ hb) (s4 _ _ hl) (Rns.same Rw s4) (Rns.same Ry s4) fun x1 pre1 e => ?_
          rw [hw] at e
          have e' := List.append_inj' e rfl
          obtain rfl : x0 = x1 := by simpa using e'.2
          exact gs
        | true =>
          refine iteT ?_
          have S4 : Same H H4 := Same.trans s3 s4
          obtain ⟨a0, rfl, T0⟩ := Tp.same S0 s4
          have k5 : EW.Kept l H4 (upd H4 l (.lst vs.dropLast)) := Kept.upd
          have ed0 : vs.dropLast = vs0 := by rw [ev]; exact List.dropLast_concat
          refine ⟨_, rfl, Or.inl ⟨rfl, _, SqL.of (s4 _ _ hl)⟩, l, vs, .ref a0, rfl, rfl, s4 _ _ hl, by rw [ev]; simp, ?_⟩
          rw [ed0] at k5 ⊢
          refine ⟨a0, _, rfl, SqT.kept T0 (s4 _ _ hl) k5, rfl, _, _, rfl, _, _, rfl, _, _, rfl, rfl, ?_⟩
          have Sx5 := Tp.kept (Tp.same Sx s4) (s4 _ _ hl) k5
          have hb5 : (upd H4 l (.lst vs0)) b = some (.lst ys) := by rw [upd_ne hbl]; exact s4 _ _ hb
          have s5 : Same H (upd H4 l (.lst vs0)) := fun c o' h => k5 c o' (fun z => by rw [z, n1] at h; cases h) (S4 c o' h)
          have Rp5 : Rns K (upd H4 l (.lst vs0)) vs0 pre := Rns.kept (Rns.same Rp s4) (s4 _ _ hl) k5
          have Ry5 : Rns K (upd H4 l (.lst vs0)) ys zs0 := Rns.kept (Rns.same Ry s4) (s4 _ _ hl) k5
          refine ⟨fun σ' H' => σ' = [some (.int p), some (.ref a), some (.ref l), some x, some (.int x0.r), some (ob x0.lo), some (ob x0.hi), some (ob (Rn.hiMax x0.hi y.hi))] ∧ Same (upd H4 l (.lst vs0)) H', ?_, ?_⟩
          · obtain ⟨r0, l0, h0⟩ := x0
            obtain ⟨r1, l1, h1⟩ := y
            obtain ⟨ax, rfl, hSx⟩ := Sx5
            cases h0 with
            | none => exact ⟨_, rfl, _, rfl, iteT (iteT ⟨rfl, Same.refl _⟩)⟩
            | some u =>
              refine ⟨_, rfl, _, rfl, iteF ⟨_, rfl, ax, _, _, _, rfl, rfl, hSx, rfl, _, rfl, ?_⟩⟩
              cases h1 with
              | none => exact iteT ⟨rfl, Same.refl _⟩
              | some v =>
                refine iteF ?_
                refine ⟨_, rfl, _, rfl, ax, _, _, _, rfl, rfl, hSx, rfl, (by show 2 ≤ sizeLine; decide), fun q Hq nq sq eq => ?_⟩
                refine ⟨q, [u, v], rfl, SqL.of eq, Nat.succ_pos _, fun m hm hy => ⟨?_, sq⟩⟩
                have h1 := hy u List.mem_cons_self
                have h2 := hy v (List.mem_cons_of_mem _ List.mem_cons_self)
                have em : m = max u v := by
                  rcases List.mem_cons.mp hm with e | e
                  · omega
                  · have := List.mem_singleton.mp e
                    omega
                rw [em]
                rfl
          · rintro σ' H6 ⟨rfl, s6⟩
            have hl6 : H6 l = some (.lst vs0) := s6 _ _ upd_same
            have hlv : vs0.length < sizeLine := by
              have : vs.length = vs0.length + 1 := by rw [ev, List.length_append]; rfl
              omega
            refine ⟨_, rfl, Or.inl ⟨rfl, _, SqL.of hl6⟩, _, rfl, _, rfl, _, rfl, (by show 3 ≤ sizeLine; decide), fun q H7 n7 s7 e7 => ?_⟩
            refine ⟨l, vs0, .ref q, rfl, rfl, s7 _ _ hl6, hlv, ?_⟩
            have s67 := Same.trans s6 s7
            have k8 : EW.Kept l H7 (upd H7 l (.lst (vs0 ++ [.ref q]))) := Kept.upd
            have hl7 := s7 _ _ hl6
            have Sq : Sn K H7 (.ref q) (Rn.merge x0 y).span := Tp.of e7
            have lox : Rn.loLe x0.lo y.lo := lo x0 (by rw [hw]; simp) y (by rw [ed]; exact List.mem_cons_self)
            refine ⟨_, _, _, _, _, vs0 ++ [.ref q], pre ++ [Rn.merge x0 y], rfl, (fun c o' h => k8 c o' (fun z => by rw [z, n1] at h; cases h) (s67 c o' (s5 c o' h))), by rw [upd_ne hbl]; exact s67 _ _ hb5, upd_same, Rns.kept (pr_append (Rns.same Rp5 s67) (.cons Sq .nil)) hl7 k8, Rns.kept (Rns.same Ry5 s67) hl7 k8, ?_, ?_, ?_⟩
            · rw [et]
              exact (hw ▸ gr).merge gy ry lox gs
            · intro x' hx' z hz
              rcases List.mem_append.mp hx' with hx' | hx'
              · exact lo x' (by rw [hw]; exact List.mem_append_left _ hx') z (by rw [ed]; exact List.mem_cons_of_mem _ hz)
              · rw [List.mem_singleton.mp hx']
                exact lo x0 (by rw [hw]; simp) z (by rw [ed]; exact List.mem_cons_of_mem _ hz)
            · have h1 : ws.length = pre.length + 1 := by rw [hw, List.length_append]; rfl
              have h2 : (pre ++ [Rn.merge x0 y]).length = pre.length + 1 := by rw [List.length_append]; rfl
              omega
    · rintro σ' H3 ⟨u1, u2, u3, u4, u5, vs, ws, rfl, s3, hb, hl, Rw, Ry, gr, lo, hwi⟩
      rw [hl0, List.take_length] at gr
      refine ⟨_, rfl, ?_⟩
      refine k l H3 vs ws n1 s3 hl Rw gr.canon (fun z hz => (gr.good z hz).2) (fun t => ?_) (by omega)
      rw [gr.mem t]
      constructor
      · rintro ⟨z, hz, m⟩
        exact ⟨z, pm.mem_iff.mp hz, m⟩
      · rintro ⟨z, hz, m⟩
        exact ⟨z, pm.mem_iff.mpr hz, m⟩
end
end TM
end

section
set_option maxHeartbeats 4000000
namespace TM
open PySem PySem.Spec PyProof.Rows L2 EW
theorem for_seq {K : W.Frag} {tl : TE} {a : Addr} {xs : List V} {g : TG} {tb : TS} {D : Ends} {σ : L2.St} {H H0 Hs : Hp} (ht : ∀ R : VK, R (.ref a) H → tl σ H0 R) (hS : Sq K Hs a xs) (h00 : Same Hs H) (Pv : Nat → L2.St → Hp → Prop) (h0 : Pv 0 σ H) (hl : ∀ i σ' H', i ≤ xs.length → Pv i σ' H' → Same Hs H')
    (hs : ∀ i x σ H, xs[i]? = some x → Pv i σ H → g x σ H fun σ2 H2 => tb { D with nx := Pv (i + 1), ct := Pv (i + 1), bk := D.nx } σ2 H2) (hd : ∀ σ H, Pv xs.length σ H → D.nx σ H) : tFor (iSeq K tl) g tb D σ H0 := by
  rcases hS with h | h
  · exact Or.inl (ht _ ⟨a, rfl, ⟨xs, h00.seq h⟩, for_list Pv h0 (fun i σ' H' hi p => (hl i σ' H' hi p).seq h) hs hd⟩)
  · exact Or.inr (ht _ ⟨a, rfl, ⟨xs, SqT.same h h00⟩, for_tup Pv h0 (fun i σ' H' hi p => SqT.same h (hl i σ' H' hi p)) hs hd⟩)
abbrev NGrouped : List Str := ["runs", "found", "run"]
theorem Grouped : FnScope NGrouped ["runs"] (defScope sGrouped) := ⟨rfl, rfl, rfl, by decide +kernel, rfl, by decide +kernel, by decide +kernel⟩
def spGrouped (K : W.Frag) : Sp := fun vs H Q _ => ∃ (a : Addr) (xs : List V) (zs : List Rn.Run), vs = [.ref a] ∧ Sq K H a xs ∧ Rns K H xs zs ∧ xs.length ≤ 10000000 ∧
  ∀ (d : Addr) (H' : Hp) (kvs : List (Key × V)), H d = none → Same H H' → H' d = some (.dK kvs) → Grp K H' kvs zs → Q (.ref d) H'
section
variable {P : Program} {w : World} {K : W.Frag} {mg : Str → Option Value} {base : Heap}
theorem ok_grouped {fd : FuncData} (F : FnP K "grouped" sGrouped fd) : FnOk P w K mg base CX0 1 (He.ga K "grouped") fd ["runs"] (spGrouped K) := by
  refine F.ok Grouped (fun vs H Q E h => ?_) (fun cdv A outer s H vs Q E hr h => ?_)
  · obtain ⟨a, xs, zs, rfl, _⟩ := h
    rfl
  · obtain ⟨a, xs, zs, rfl, hS, hR, hz, k⟩ := h
    have hlen := hR.length
    have hbig : (10000000 : Nat) < sizeLine := by decide
    refine ⟨_, PSs.nox (pss_cons (ps_set (i := 1) Grouped.nd rfl (Or.inl rfl) pe_dnewS)
      (pss_cons (ps_for PassesOwn.never rfl (pi_seqK (K := K) rfl (pv 0)) (pg_name (i := 2) Grouped.nd rfl (Or.inl rfl)) (pss_one (ps_dput hr.u1 (pv 1) (pe_ix (ix_tupK K rfl) (pv 2) pe_int (fun _ _ => rfl)) (pe_lstS (StX.pa_star (pe_dget2 hr.u1 (pv 1) (pe_ix (ix_tupK K rfl) (pv 2) pe_int (fun _ _ => rfl)) (pe_lstS pa_nil) ⟨rfl, rfl, rfl, rfl⟩) (pa_cons (pv 2) pa_nil))) rfl)))
      (pss_one (ps_ret (pv 1))))), ?_⟩
    refine fun d H1 n1 s1 e1 => ?_
    refine for_seq (xs := xs) (fun R h => ⟨_, rfl, h⟩) hS s1 (fun i σ' H' => ∃ (u : Option V) (kvs : List (Key × V)), σ' = [some (.ref a), some (.ref d), u] ∧ Same H H' ∧ H' d = some (.dK kvs) ∧ Grp K H' kvs (zs.take i)) ⟨_, _, rfl, s1, e1, by rw [List.take_zero]; exact Grp.nil⟩ ?_ ?_ ?_
    · rintro i σ' H' _ ⟨u, kvs, _, s2, _⟩
      exact s2
    · rintro i x σ' H2 hx ⟨u, kvs, rfl, s2, hd, G⟩
      obtain ⟨y, hy, Sx⟩ := pr_get hR hx
      have hyi : i < zs.length := (List.getElem?_eq_some_iff.mp hy).1
      obtain ⟨ax, rfl, hA⟩ := Tp.same Sx s2
      have et : zs.take (i + 1) = zs.take i ++ [y] := by
        rw [List.take_add_one, hy]
        rfl
      have hkl : kvs.length < sizeLine := by
        have := G.len
        rw [List.length_take] at this
        omega
      have fin : ∀ (v : V) (vs : List V) (l0 : Addr) (H4 : Hp), v = .ref l0 → Same H2 H4 → H4 l0 = some (.lst vs) → Rns K H4 vs ((zs.take i).filter fun z => decide (z.r = y.r)) → ∀ (l2 : Addr) (H5 : Hp), Same H4 H5 → H5 l2 = some (.lst (vs ++ [.ref ax])) →
          ∃ (u : Option V) (kvs' : List (Key × V)), [some (V.ref a), some (.ref d), some (.ref ax)] = [some (.ref a), some (.ref d), u] ∧ Same H (upd H5 d (.dK (putK kvs (Sum.inl y.r) (.ref l2)))) ∧ (upd H5 d (.dK (putK kvs (Sum.inl y.r) (.ref l2)))) d = some (.dK kvs') ∧ Grp K (upd H5 d (.dK (putK kvs (Sum.inl y.r) (.ref l2)))) kvs' (zs.take (i + 1)) := by
        intro v vs l0 H4 ev s4 hl0 R4 l2 H5 s5 e5
        have s25 := Same.trans s4 s5
        have k6 : EW.Kept d H5 (upd H5 d (.dK (putK kvs (Sum.inl y.r) (.ref l2)))) := Kept.upd
        have hd5 := s25 _ _ hd
        refine ⟨_, _, rfl, (fun c o h => k6 c o (fun z => by rw [z, n1] at h; cases h) (s25 c o (s2 c o h))), upd_same, ?_⟩
        rw [et]
        refine Grp.keptD (Grp.put (Grp.same G s25) e5 ?_) hd5 k6
        rw [List.filter_append]
        refine pr_append (Rns.same R4 s5) ?_
        rw [List.filter_cons, if_pos (decide_eq_true rfl)]
        exact .cons (Tp.same Sx (Same.trans s2 s25)) .nil
      refine ⟨_, rfl, d, rfl, .inl ⟨kvs, .inl hd⟩, _, rfl, ax, _, _, _, rfl, rfl, hA, rfl, (by show 0 ≤ sizeLine; decide), fun q H4 n4 s4 e4 => ⟨_, DGet.k (k := Sum.inl y.r) (s4 _ _ hd), ?_⟩⟩
      cases hv : valV kvs (Sum.inl y.r) with
      | none =>
        have en : (zs.take i).filter (fun z => decide (z.r = y.r)) = [] := List.filter_eq_nil_iff.mpr fun z hz c => G.no _ hv z hz (of_decide_eq_true c)
        refine ⟨q, [], rfl, .inr (SqL.of e4), _, rfl, (by show 1 ≤ sizeLine; decide), fun l2 H5 n5 s5 e5 => ?_⟩
        refine ⟨_, rfl, _, rfl, ax, _, _, _, rfl, rfl, SqT.same hA (Same.trans s4 s5), rfl, d, _, rfl, DPut.k (k := Sum.inl y.r) (s5 _ _ (s4 _ _ hd)) hkl, ?_⟩
        exact fin (.ref q) [] q H4 rfl s4 e4 (by rw [en]; exact .nil) l2 H5 s5 e5
      | some v =>
        obtain ⟨⟨l0, ys0, rfl, hl0, R0⟩, _⟩ := G.yes _ _ hv
        have hlen0 : ys0.length ≤ i := by
          have h1 := R0.length
          have h2 := List.length_filter_le (fun z : Rn.Run => decide (z.r = y.r)) (zs.take i)
          rw [List.length_take] at h2
          omega
        refine ⟨l0, ys0, rfl, .inr (SqL.of (s4 _ _ hl0)), _, rfl, ?_, fun l2 H5 n5 s5 e5 => ?_⟩
        · rw [List.length_append]
          show ys0.length + 1 ≤ sizeLine
          omega
        refine ⟨_, rfl, _, rfl, ax, _, _, _, rfl, rfl, SqT.same hA (Same.trans s4 s5), rfl, d, _, rfl, DPut.k (k := Sum.inl y.r) (s5 _ _ (s4 _ _ hd)) hkl, ?_⟩
        exact fin (.ref l0) ys0 l0 H4 rfl s4 (s4 _ _ hl0) (Rns.same R0 s4) l2 H5 s5 e5
    · rintro σ' H2 ⟨u, kvs, rfl, s2, hd, G⟩
      rw [hlen, List.take_length] at G
      exact ⟨_, rfl, k d H2 kvs n1 s2 hd G⟩
end
end TM
end

section
set_option maxHeartbeats 4000000
namespace TM
open PySem PySem.Spec PyProof.Rows L2 EW
/-- a run or None -/
def TV (K : W.Frag) (H : Hp) (v : V) (o : Option Rn.Run) : Prop := match o with
  | none => v = .non
  | some z => Sn K H v z.span
section
variable {K : W.Frag} {H H' : Hp} {v : V} {vs : List V} {l : Addr} {o : Option Rn.Run} {os : List (Option Rn.Run)}
theorem TV.same (h : TV K H v o) (s : Same H H') : TV K H' v o := by
  cases o with
  | none => exact h
  | some z => exact Tp.same h s
theorem TV.kept {ys : List V} (h : TV K H v o) (hl : H l = some (.lst ys)) (k : EW.Kept l H H') : TV K H' v o := by
  cases o with
  | none => exact h
  | some z => exact Tp.kept h hl k
theorem tvs_same (h : Paired (TV K H) vs os) (s : Same H H') : Paired (TV K H') vs os := Paired.mono (fun _ _ q => TV.same q s) h
theorem tvs_kept {ys : List V} (h : Paired (TV K H) vs os) (hl : H l = some (.lst ys)) (k : EW.Kept l H H') : Paired (TV K H') vs os := Paired.mono (fun _ _ q => TV.kept q hl k) h
end
/-- a new list at D grows: all that stood before stands -/
theorem same_upd {H H' : Hp} {D : Addr} {o : HO} (s : Same H H') (h : H D = none) : Same H (upd H' D o) := fun c u e => by
  rw [upd_ne (fun z => by rw [z, h] at e; cases e)]
  exact s c u e
theorem upd_new {H : Hp} {D : Addr} {o : HO} (h : H D = none) : Same H (upd H D o) := same_upd (Same.refl H) h
theorem rgV_res {p : Int} {s : Rn.Sp3} (e : s.res = none) : rgV 0 p = (Rn.residues p s).map V.int := by
  unfold rgV Rn.residues
  rw [e, List.map_map]
  have z : (p - 0).toNat = p.toNat := by omega
  rw [z]
  refine List.map_congr_left fun i _ => ?_
  show V.int (0 + (i : Int)) = V.int (i : Int)
  rw [Int.zero_add]
theorem res_len {p : Int} (hp : p ≤ 400) (s : Rn.Sp3) : (Rn.residues p s).length ≤ 400 := by
  unfold Rn.residues
  split
  · rw [List.length_map, List.length_range]
    omega
  · exact Nat.succ_le_succ (Nat.zero_le _)
theorem found_len {p : Int} (hp : p ≤ 400) : ∀ ss : List Rn.Sp3, (ss.flatMap (Rn.foundOf p)).length ≤ 400 * ss.length
  | [] => Nat.zero_le _
  | s :: ss => by
    have h1 := found_len hp ss
    have h2 := res_len hp s
    have h3 : (Rn.foundOf p s).length ≤ (Rn.residues p s).length := List.length_filterMap_le _ _
    rw [List.flatMap_cons, List.length_append, List.length_cons]
    omega
/-- the number of a key -/
def keyI : Key → Int
  | .inl i => i
  | .inr _ => 0
theorem keyI_nodup : ∀ {kvs : List (Key × V)}, (∀ q ∈ kvs, ∃ r : Int, q.1 = Sum.inl r) → (kvs.map (·.1)).Nodup → (kvs.map fun kv => keyI kv.1).Nodup
  | [], _, _ => List.nodup_nil
  | q :: kvs, h, nd => by
    rw [List.map_cons, List.nodup_cons] at nd ⊢
    refine ⟨fun hm => ?_, keyI_nodup (fun q' hq' => h q' (List.mem_cons_of_mem _ hq')) nd.2⟩
    obtain ⟨q', hq', e⟩ := List.mem_map.mp hm
    obtain ⟨r, er⟩ := h q List.mem_cons_self
    obtain ⟨r', er'⟩ := h q' (List.mem_cons_of_mem _ hq')
    have e' : keyI q'.1 = keyI q.1 := e
    rw [er, er'] at e'
    have e2 : r' = r := e'
    exact nd.1 (List.mem_map.mpr ⟨q', hq', by rw [er, er', e2]⟩)
theorem valV_mem {kvs : List (Key × V)} {k : Key} {v : V} (h : valV kvs k = some v) : ∃ q ∈ kvs, q.1 = k := by
  have z := valV_any k kvs
  rw [h] at z
  obtain ⟨q, hq, e⟩ := List.any_eq_true.mp z
  exact ⟨q, hq, of_decide_eq_true e⟩
abbrev NRunsIn : List Str := ["period", "spans", "found", "residue", "least", "most", "some", "told", "one", "run", "groups"]
theorem RunsIn : FnScope NRunsIn ["period", "spans"] (defScope sRunsIn) := ⟨rfl, rfl, rfl, by decide +kernel, rfl, by decide +kernel, by decide +kernel⟩
def spRunsIn (K : W.Frag) : Sp := fun vs H Q _ => ∃ (p : Int) (a : Addr) (xs : List V) (ss : List Rn.Sp3), vs = [.int p, .ref a] ∧ 1 ≤ p ∧ p ≤ 400 ∧ Sq K H a xs ∧ Sns K H xs ss ∧ (∀ s ∈ ss, Rn.SpOk p s) ∧ (ss.flatMap (Rn.foundOf p)).length ≤ 10000000 ∧
  ∀ (l : Addr) (H' : Hp) (ys : List V) (zs : List Rn.Run), H l = none → Same H H' → H' l = some (.tup ys) → Rns K H' ys zs → Rn.Canon p zs → (∀ t, Rn.inRuns p zs t ↔ Rn.inSpans p ss t) → zs.length ≤ (ss.flatMap (Rn.foundOf p)).length → Q (.ref l) H'
section
variable {P : Program} {w : World} {K : W.Frag} {mg : Str → Option Value} {base : Heap}
theorem ok_runsIn {fd : FuncData} (F : FnP K "runs_in" sRunsIn fd) (T : Fre mg) (Drun_of : Df P w K mg base 2 "run_of" ["period", "residue", "least", "most"] spRunOf) (Dgrouped : Df P w K mg base 1 "grouped" ["runs"] (spGrouped K)) (Dunited : Df P w K mg base 4 "united" ["period", "runs"] (spUnited K)) :
    FnOk P w K mg base CX0 5 (He.ga K "runs_in") fd ["period", "spans"] (spRunsIn K) := by
  refine F.ok RunsIn (fun vs H Q E h => ?_) (fun cdv A outer s H vs Q E hr h => ?_)
  · obtain ⟨p, a, xs, ss, rfl, _⟩ := h
    rfl
  · obtain ⟨p, a, xs, ss, rfl, p1, p2, hS, hR, hok, hz, k⟩ := h
    have hlen := hR.length
    have hp : 0 < p := by omega
    have hbig : (10000000 : Nat) < sizeLine := by decide
    obtain ⟨fg, fm⟩ := Rn.found_all hp hok
    refine ⟨_, PSs.nox (pss_cons (ps_set (i := 2) RunsIn.nd rfl (Or.inl rfl) (pe_lstS pa_nil))
      (pss_cons (ps_cut (ps_for PassesOwn.never rfl (pi_seqK (K := K) rfl (pv 1)) (pg_tup rfl (pgs_cons (pg_name (i := 3) RunsIn.nd rfl (Or.inl rfl)) (pgs_cons (pg_name (i := 4) RunsIn.nd rfl (Or.inr rfl)) (pgs_cons (pg_name (i := 5) RunsIn.nd rfl (Or.inr rfl)) pgs_nil)))) (pss_cons (ps_cut (ps_set (i := 6) RunsIn.nd rfl (Or.inl rfl) (pe_ifExp (pt_cmp (pc_isN (pv 3))) (pe_listRg1S rfl rfl T.list rfl T.range (pv 0)) (pe_lstS (pa_cons (pv 3) pa_nil)))))
      (pss_cons (ps_cut (ps_setLc (i := 7) (own := [("one", 8)]) (g := gName 8) (tt := tYes) (by rfl) RunsIn.nd rfl rfl (sw_true rfl rfl rfl (by decide +kernel)) (pi_listK (K := K) rfl (pv 6)) (blkOk_by (own := [("one", 8)]) (N := NRunsIn) (sc := defScope sRunsIn) (by decide +kernel)) (fun _ _ _ _ _ => (pg_name (i := 8) RunsIn.nd rfl (Or.inl rfl))) (fun _ _ _ _ _ => pts_nil) (fun _ _ _ _ _ => (pe_df Drun_of (hr.mono (by decide)) rfl (pa_cons (pv 0) (pa_cons (pv 8) (pa_cons (pv 4) (pa_cons (pv 5) pa_nil))))))))
      (pss_one (ps_expr (pe_bm PySem.F.plainAttrs_list PySem.F.slot_list_extend PySem.F.type_list_extend mt_extend (pv 2) (pa_cons (pe_lc (own := [("run", 9)]) (g := gName 9) (tt := _) (by rfl) RunsIn.nd (pi_listK (K := K) rfl (pv 7)) (blkOk_by (own := [("run", 9)]) (N := NRunsIn) (sc := defScope sRunsIn) (by decide +kernel)) (fun _ _ _ _ _ => (pg_name (i := 9) RunsIn.nd rfl (Or.inl rfl))) (fun _ _ _ _ _ => (pts_one (pt_cmp (pc_notN (pv 9))))) (fun _ _ _ _ _ => (pv 9))) pa_nil))))))))
      (pss_cons (ps_cut (ps_set (i := 10) RunsIn.nd rfl (Or.inr rfl) (pe_df Dgrouped (hr.mono (by decide)) rfl (pa_cons (pv 2) pa_nil))))
      (pss_one (ps_ret (pe_callTy (call_tupS K rfl) (by rfl) T.tuple EW.boot_tuple (pa_cons (pe_lc2 (own := [("residue", 3), ("run", 9)]) (vs1 := [9]) (g := gName 3) (g1 := gName 9) (tt := tYes) (tt1 := tYes) (by rfl) RunsIn.nd (pi_listK (K := K) rfl (pe_callB (cr_sortedIS K rfl) (by rfl) T.sorted EW.boot_sorted (pa_cons (pe_callTy (call_listDS rfl) (by rfl) T.list EW.boot_list (pa_cons (pv 10) pa_nil)) pa_nil))) (blkOk_by (own := [("residue", 3), ("run", 9)]) (N := NRunsIn) (sc := defScope sRunsIn) (by decide +kernel)) (by decide) (fun _ _ _ _ _ => (pg_name (i := 3) RunsIn.nd rfl (Or.inl rfl))) (fun _ _ _ _ _ => pts_nil) (fun _ _ _ _ _ => (pi_listK (K := K) rfl (pe_df Dunited (hr.mono (by decide)) rfl (pa_cons (pv 0) (pa_cons (pe_dget hr.u1 (pv 10) (pv 3) (fun _ _ => rfl)) pa_nil))))) (fun _ _ _ _ _ => (pg_name (i := 9) RunsIn.nd rfl (Or.inl rfl))) (fun _ _ _ _ _ => pts_nil) (fun _ _ _ _ _ => (pv 9))) pa_nil))))))), ?_⟩
    refine ⟨(by show 0 ≤ sizeLine; decide), fun f H1 n1 s1 e1 => ?_⟩
    refine ⟨fun σ' H' => ∃ (u3 u4 u5 u6 u7 u8 u9 u10 : Option V) (vs : List V), σ' = [some (.int p), some (.ref a), some (.ref f), u3, u4, u5, u6, u7, u8, u9, u10] ∧ Same H H' ∧ H' f = some (.lst vs) ∧ Rns K H' vs (ss.flatMap (Rn.foundOf p)), ?_, ?_⟩
    · refine for_seq (xs := xs) (fun R h => ⟨_, rfl, h⟩) hS s1 (fun i σ' H' => ∃ (u3 u4 u5 u6 u7 u8 u9 u10 : Option V) (vs : List V), σ' = [some (.int p), some (.ref a), some (.ref f), u3, u4, u5, u6, u7, u8, u9, u10] ∧ Same H H' ∧ H' f = some (.lst vs) ∧ Rns K H' vs ((ss.take i).flatMap (Rn.foundOf p))) ⟨_, _, _, _, _, _, _, _, _, rfl, s1, e1, by rw [List.take_zero]; exact .nil⟩ ?_ ?_ ?_
      · rintro i σ' H' _ ⟨u3, u4, u5, u6, u7, u8, u9, u10, vs, _, s2, _⟩
        exact s2
      · rintro i x σ' H2 hx ⟨u3, u4, u5, u6, u7, u8, u9, u10, vs, rfl, s2, hf, Rv⟩
        obtain ⟨sp, hy, Sx⟩ := pr_get hR hx
        have et : ss.take (i + 1) = ss.take i ++ [sp] := by
          rw [List.take_add_one, hy]
          rfl
        have hspo : Rn.SpOk p sp := hok sp (List.mem_of_getElem? hy)
        have hbnd : ((ss.take i).flatMap (Rn.foundOf p)).length + (Rn.foundOf p sp).length ≤ 10000000 := by
          have e : ss = ss.take (i + 1) ++ ss.drop (i + 1) := (List.take_append_drop _ _).symm
          rw [e, et, List.flatMap_append, List.flatMap_append, List.length_append, List.length_append] at hz
          have e2 : ([sp].flatMap (Rn.foundOf p)).length = (Rn.foundOf p sp).length := by rw [List.flatMap_cons, List.flatMap_nil, List.append_nil]
          omega
        obtain ⟨ax, rfl, hA⟩ := Tp.same Sx s2
        refine ⟨ax, _, rfl, hA, rfl, _, _, rfl, _, _, rfl, _, _, rfl, rfl, ?_⟩
        refine ⟨fun σ' H' => ∃ L : Addr, σ' = [some (.int p), some (.ref a), some (.ref f), some (ob sp.res), some (ob sp.lo), some (ob sp.hi), some (.ref L), u7, u8, u9, u10] ∧ Same H2 H' ∧ H' L = some (.lst ((Rn.residues p sp).map V.int)), ?_, ?_⟩
        · cases er : sp.res with
          | none =>
            refine ⟨_, rfl, _, rfl, iteT ⟨_, rfl, p, rfl, RgOk.of_le (by omega) (by omega) (by omega) (by omega), fun q H3 n3 s3 e3 => ⟨q, rfl, s3, ?_⟩⟩⟩
            rw [e3, rgV_res er]
          | some r =>
            refine ⟨_, rfl, _, rfl, iteF ⟨_, rfl, (by show 1 ≤ sizeLine; decide), fun q H3 n3 s3 e3 => ⟨q, rfl, s3, ?_⟩⟩⟩
            rw [e3]
            unfold Rn.residues
            rw [er]
            rfl
        · rintro σ' H3 ⟨L, rfl, s3, hL⟩
          refine ⟨fun σ' H' => ∃ (L2 : Addr) (tv : List V), σ' = [some (.int p), some (.ref a), some (.ref f), some (ob sp.res), some (ob sp.lo), some (ob sp.hi), some (.ref L), some (.ref L2), u8, u9, u10] ∧ Same H2 H' ∧ H' L2 = some (.lst tv) ∧ Paired (TV K H') tv ((Rn.residues p sp).map fun one => Rn.runOf p one sp.lo sp.hi), ?_, ?_⟩
          · have hrl := res_len p2 sp
            refine ⟨_, rfl, L, rfl, ⟨_, SqL.of hL⟩, fun D hD => ?_⟩
            refine loop_list (xs := (Rn.residues p sp).map V.int) (fun i H' => ∃ acc : List V, H' D = some (.lst acc) ∧ Same H3 H' ∧ Paired (TV K H') acc (((Rn.residues p sp).take i).map fun one => Rn.runOf p one sp.lo sp.hi)) ⟨[], upd_same, upd_new hD, by rw [List.take_zero]; exact .nil⟩ ?_ ?_ ?_
            · rintro i H' _ ⟨acc, _, s4, _⟩
              exact SqL.of (s4 _ _ hL)
            · rintro i x H4 hx ⟨acc, hDa, s4, R4⟩
              rw [List.getElem?_map] at hx
              obtain ⟨n, hn, rfl⟩ := Option.map_eq_some_iff.mp hx
              have et2 : (Rn.residues p sp).take (i + 1) = (Rn.residues p sp).take i ++ [n] := by
                rw [List.take_add_one, hn]
                rfl
              have hacc : acc.length < sizeLine := by
                have h1 := R4.length
                rw [List.length_map, List.length_take] at h1
                omega
              have fin : ∀ (v : V) (H5 : Hp), Same H4 H5 → TV K H5 v (Rn.runOf p n sp.lo sp.hi) → ∃ acc', H5 D = some (.lst acc') ∧ acc'.length < sizeLine ∧ ∃ acc : List V, (upd H5 D (.lst (acc' ++ [v]))) D = some (.lst acc) ∧ Same H3 (upd H5 D (.lst (acc' ++ [v]))) ∧ Paired (TV K (upd H5 D (.lst (acc' ++ [v])))) acc (((Rn.residues p sp).take (i + 1)).map fun one => Rn.runOf p one sp.lo sp.hi) := by
                intro v H5 s5 tvv
                have hD5 := s5 _ _ hDa
                refine ⟨acc, hD5, hacc, acc ++ [v], upd_same, same_upd (Same.trans s4 s5) hD, ?_⟩
                rw [et2, List.map_append]
                exact tvs_kept (pr_append (tvs_same R4 s5) (.cons tvv .nil)) hD5 Kept.upd
              refine ⟨rfl, ?_⟩
              refine ⟨_, rfl, _, rfl, _, rfl, _, rfl, p, n, sp.lo, sp.hi, rfl, hp, ?_⟩
              cases hro : Rn.runOf p n sp.lo sp.hi with
              | none => exact fun H5 s5 => fin _ H5 s5 (by rw [hro]; rfl)
              | some z => exact fun q H5 n5 s5 e5 => fin _ H5 s5 (by rw [hro]; exact Tp.of e5)
            · rintro H4 ⟨acc, hDa, s4, R4⟩
              rw [List.length_map, List.take_length] at R4
              exact ⟨D, acc, rfl, Same.trans s3 s4, hDa, R4⟩
          · rintro σ' H4 ⟨L2, tv, rfl, s4, hL2, R4⟩
            have hf4 : H4 f = some (.lst vs) := s4 _ _ hf
            refine ⟨_, rfl, Or.inl ⟨rfl, _, SqL.of hf4⟩, _, rfl, L2, rfl, ⟨_, SqL.of hL2⟩, fun D hD => ?_⟩
            refine loop_list (xs := tv) (fun i H' => ∃ acc : List V, H' D = some (.lst acc) ∧ Same H4 H' ∧ Rns K H' acc ((((Rn.residues p sp).map fun one => Rn.runOf p one sp.lo sp.hi).take i).filterMap id)) ⟨[], upd_same, upd_new hD, by rw [List.take_zero]; exact .nil⟩ ?_ ?_ ?_
            · rintro i H' _ ⟨acc, _, s5, _⟩
              exact SqL.of (s5 _ _ hL2)
            · rintro i x H5 hx ⟨acc, hDa, s5, R5⟩
              obtain ⟨o, ho, tvx⟩ := pr_get R4 hx
              have et2 : ((Rn.residues p sp).map fun one => Rn.runOf p one sp.lo sp.hi).take (i + 1) = ((Rn.residues p sp).map fun one => Rn.runOf p one sp.lo sp.hi).take i ++ [o] := by
                rw [List.take_add_one, ho]
                rfl
              refine ⟨rfl, ?_⟩
              cases o with
              | none =>
                have tvx' : x = .non := tvx
                subst tvx'
                refine ⟨_, rfl, _, rfl, iteF ⟨acc, hDa, s5, ?_⟩⟩
                rw [et2, List.filterMap_append]
                show Rns K H5 acc (_ ++ [])
                rw [List.append_nil]
                exact R5
              | some z =>
                obtain ⟨bx, rfl, hB⟩ := tvx
                refine ⟨_, rfl, _, rfl, iteT ⟨_, rfl, acc, hDa, ?_, acc ++ [.ref bx], upd_same, same_upd s5 hD, ?_⟩⟩
                · have h1 := R5.length
                  have h2 := List.length_filterMap_le id (((Rn.residues p sp).map fun one => Rn.runOf p one sp.lo sp.hi).take i)
                  have h3 := res_len p2 sp
                  rw [List.length_take, List.length_map] at h2
                  omega
                · rw [et2, List.filterMap_append]
                  exact Rns.kept (pr_append R5 (.cons ⟨bx, rfl, SqT.same hB s5⟩ .nil)) hDa Kept.upd
            · rintro H5 ⟨acc, hDa, s5, R5⟩
              have e1 : ((Rn.residues p sp).map fun one => Rn.runOf p one sp.lo sp.hi).take tv.length = (Rn.residues p sp).map fun one => Rn.runOf p one sp.lo sp.hi := by
                rw [R4.length, List.take_length]
              have e2 : ((Rn.residues p sp).map fun one => Rn.runOf p one sp.lo sp.hi).filterMap id = Rn.foundOf p sp := by
                rw [List.filterMap_map]
                rfl
              rw [e1, e2] at R5
              have hf5 : H5 f = some (.lst vs) := s5 _ _ hf4
              have l1 := Rv.length
              have l2 := R5.length
              refine ⟨f, D, vs, acc, rfl, rfl, hf5, hDa, by omega, ?_⟩
              have s25 := Same.trans s4 s5
              refine ⟨_, _, _, _, _, _, _, _, vs ++ acc, rfl, same_upd (Same.trans s2 s25) n1, upd_same, ?_⟩
              rw [et, List.flatMap_append]
              refine Rns.kept (pr_append (Rns.same Rv s25) ?_) hf5 Kept.upd
              rw [List.flatMap_cons, List.flatMap_nil, List.append_nil]
              exact R5
      · rintro σ' H2 ⟨u3, u4, u5, u6, u7, u8, u9, u10, vs, rfl, s2, hf, Rv⟩
        rw [hlen, List.take_length] at Rv
        exact ⟨_, _, _, _, _, _, _, _, _, rfl, s2, hf, Rv⟩
    · rintro σ' H2 ⟨u3, u4, u5, u6, u7, u8, u9, u10, vs, rfl, s2, hf, Rv⟩
      have l1 := Rv.length
      refine ⟨fun σ' H' => ∃ (d : Addr) (kvs : List (Key × V)), σ' = [some (.int p), some (.ref a), some (.ref f), u3, u4, u5, u6, u7, u8, u9, some (.ref d)] ∧ Same H H' ∧ H' d = some (.dK kvs) ∧ Grp K H' kvs (ss.flatMap (Rn.foundOf p)), ?_, ?_⟩
      · exact ⟨_, rfl, f, vs, _, rfl, .inl (SqL.of hf), Rv, by omega, fun d H3 kvs n3 s3 e3 G => ⟨d, kvs, rfl, Same.trans s2 s3, e3, G⟩⟩
      · rintro σ' H3 ⟨d, kvs, rfl, s3, hd, G⟩
        have hns : (kvs.map fun kv => kV kv.1) = (kvs.map fun kv => keyI kv.1).map V.int := by
          rw [List.map_map]
          refine List.map_congr_left fun q hq => ?_
          obtain ⟨r, e⟩ := G.itg q hq
          show kV q.1 = V.int (keyI q.1)
          rw [e]
          rfl
        have hnd : (kvs.map fun kv => keyI kv.1).Nodup := keyI_nodup G.itg G.nd
        refine ⟨_, rfl, d, kvs, rfl, hd, fun q1 H4 n4 s4 e4 => ?_⟩
        refine ⟨q1, _, rfl, SqL.of (by rw [e4, hns]), fun ns' pm pw q2 H5 n5 s5 e5 => ?_⟩
        have nd' : ns'.Nodup := pm.nodup_iff.mpr hnd
        have s35 := Same.trans s4 s5
        have G5 := Grp.same G s35
        have hd5 := s35 _ _ hd
        have hin : ∀ r ∈ ns', ∃ v, valV kvs (Sum.inl r : Key) = some v := fun r hr => by
          obtain ⟨q, hq, e⟩ := List.mem_map.mp (pm.mem_iff.mp hr)
          obtain ⟨r', e'⟩ := G.itg q hq
          have er : r' = r := by
            rw [e'] at e
            exact e
          cases hv : valV kvs (Sum.inl r : Key) with
          | some v => exact ⟨v, rfl⟩
          | none =>
            have z := valV_any (Sum.inl r : Key) kvs
            rw [hv] at z
            exact absurd (decide_eq_true (by rw [e', er])) (List.any_eq_false.mp z q hq)
        refine ⟨q2, rfl, ⟨_, SqL.of e5⟩, fun D hD => ?_⟩
        refine loop_list (xs := ns'.map V.int) (fun i H' => ∃ (acc : List V) (gs : List (Int × List Rn.Run)), H' D = some (.lst acc) ∧ Same H5 H' ∧ Rns K H' acc (gs.flatMap (·.2)) ∧ gs.map (·.1) = ns'.take i ∧ ∀ q ∈ gs, Rn.Canon p q.2 ∧ (∀ z ∈ q.2, z.r = q.1) ∧ (∀ t, Rn.inRuns p q.2 t ↔ Rn.inRuns p ((ss.flatMap (Rn.foundOf p)).filter fun z => decide (z.r = q.1)) t) ∧ q.2.length ≤ ((ss.flatMap (Rn.foundOf p)).filter fun z => decide (z.r = q.1)).length) ⟨[], [], upd_same, upd_new hD, .nil, by rw [List.take_zero]; rfl, (fun q hq => nomatch hq)⟩ ?_ ?_ ?_
        · rintro i H' _ ⟨acc, gs, _, s6, _⟩
          exact SqL.of (s6 _ _ e5)
        · rintro i x H6 hx ⟨acc, gs, hDa, s6, R6, hk6, hg6⟩
          rw [List.getElem?_map] at hx
          obtain ⟨r, hr, rfl⟩ := Option.map_eq_some_iff.mp hx
          have et2 : ns'.take (i + 1) = ns'.take i ++ [r] := by
            rw [List.take_add_one, hr]
            rfl
          obtain ⟨v, hv⟩ := hin r (List.mem_of_getElem? hr)
          obtain ⟨⟨l0, ys0, rfl, hl0, R0⟩, _⟩ := G5.yes r v hv
          have hfl := List.length_filter_le (fun z : Rn.Run => decide (z.r = r)) (ss.flatMap (Rn.foundOf p))
          have l0l := R0.length
          refine ⟨rfl, ?_⟩
          refine ⟨_, rfl, _, rfl, _, rfl, d, .ref l0, rfl, ?_, ?_⟩
          · rw [← hv]
            exact DGet.k (k := (Sum.inl r : Key)) (s6 _ _ hd5)
          refine ⟨p, r, l0, ys0, _, rfl, hp, s6 _ _ hl0, Rns.same R0 s6, (fun z hz => ⟨fg z (List.mem_filter.mp hz).1, of_decide_eq_true (List.mem_filter.mp hz).2⟩), by omega, fun l H7 ys ws n7 s7 e7 R7 cn hw hm hle => ?_⟩
          have hD7 := s7 _ _ hDa
          have hndk : ((gs ++ [(r, ws)]).map (·.1)).Nodup := by
            rw [List.map_append, hk6]
            show (ns'.take i ++ [r]).Nodup
            rw [← et2]
            exact List.Sublist.nodup (List.take_sublist _ _) nd'
          have hall : ∀ q ∈ gs ++ [(r, ws)], Rn.Canon p q.2 ∧ (∀ z ∈ q.2, z.r = q.1) ∧ (∀ t, Rn.inRuns p q.2 t ↔ Rn.inRuns p ((ss.flatMap (Rn.foundOf p)).filter fun z => decide (z.r = q.1)) t) ∧ q.2.length ≤ ((ss.flatMap (Rn.foundOf p)).filter fun z => decide (z.r = q.1)).length := fun q hq => by
            rcases List.mem_append.mp hq with hq | hq
            · exact hg6 q hq
            · rw [List.mem_singleton.mp hq]
              exact ⟨cn, hw, hm, hle⟩
          have hlen7 : ((gs ++ [(r, ws)]).flatMap (·.2)).length ≤ (ss.flatMap (Rn.foundOf p)).length := Rn.join_len hndk fun q hq => (hall q hq).2.2.2
          have el : (gs ++ [(r, ws)]).flatMap (·.2) = gs.flatMap (·.2) ++ ws := by
            rw [List.flatMap_append, List.flatMap_cons, List.flatMap_nil, List.append_nil]
          rw [el, List.length_append] at hlen7
          have hlD : l ≠ D := fun z => by rw [z, hDa] at n7; cases n7
          refine ⟨l, rfl, ⟨_, SqL.of e7⟩, ?_⟩
          refine loop_list (xs := ys) (fun j H' => ∃ acc' : List V, H' D = some (.lst acc') ∧ EW.Kept D H7 H' ∧ Rns K H' acc' (gs.flatMap (·.2) ++ ws.take j)) ⟨acc, hD7, EW.Kept.refl _ _, by rw [List.take_zero, List.append_nil]; exact Rns.same R6 s7⟩ ?_ ?_ ?_
          · rintro j H' _ ⟨acc', _, k8, _⟩
            exact SqL.of (k8 _ _ hlD e7)
          · rintro j x H8 hxj ⟨acc', hD8, k8, R8⟩
            obtain ⟨y, hy, Sx⟩ := pr_get R7 hxj
            have et3 : ws.take (j + 1) = ws.take j ++ [y] := by
              rw [List.take_add_one, hy]
              rfl
            refine ⟨rfl, ?_⟩
            refine ⟨_, rfl, acc', hD8, ?_, acc' ++ [x], upd_same, k8.trans Kept.upd, ?_⟩
            · have h1 := R8.length
              rw [List.length_append, List.length_take] at h1
              omega
            · rw [et3, ← List.append_assoc]
              exact Rns.kept (pr_append R8 (.cons (Tp.kept Sx hD7 k8) .nil)) hD8 Kept.upd
          · rintro H8 ⟨acc', hD8, k8, R8⟩
            have e8 : ws.take ys.length = ws := by rw [R7.length, List.take_length]
            rw [e8] at R8
            refine ⟨acc', gs ++ [(r, ws)], hD8, (fun c o h => k8 c o (fun z => by rw [z, hD] at h; cases h) (s7 c o (s6 c o h))), by rw [el]; exact R8, ?_, hall⟩
            rw [List.map_append, hk6, et2]
            rfl
        · rintro H6 ⟨acc, gs, hDa, s6, R6, hk6, hg6⟩
          rw [List.length_map, List.take_length] at hk6
          refine ⟨D, acc, rfl, SqL.of hDa, fun l H7 n7 s7 e7 => ?_⟩
          have s56 := Same.trans s3 (Same.trans s35 s6)
          refine k l H7 acc (gs.flatMap (·.2)) (s56.free n7) (Same.trans s56 s7) e7 (Rns.same R6 s7) ?_ (fun t => ?_) ?_
          · exact Rn.canon_join (by rw [hk6]; exact Rn.sorted_lt pw nd') fun q hq => ⟨(hg6 q hq).1, (hg6 q hq).2.1⟩
          · rw [Rn.join_mem (all := ss.flatMap (Rn.foundOf p)) (fun z hz => ?_) fun q hq => (hg6 q hq).2.2.1]
            · exact fm t
            · rw [hk6]
              refine pm.mem_iff.mpr ?_
              cases hv : valV kvs (Sum.inl z.r : Key) with
              | none => exact absurd rfl (G.no _ hv z hz)
              | some v =>
                obtain ⟨q, hq, e⟩ := valV_mem hv
                exact List.mem_map.mpr ⟨q, hq, by rw [e]; rfl⟩
          · exact Rn.join_len (by rw [hk6]; exact nd') fun q hq => (hg6 q hq).2.2.2
end
end TM
end

section
set_option maxHeartbeats 4000000
namespace TM
open PySem PySem.Spec PyProof.Rows L2 EW
theorem iteB {b : Bool} {A B : Prop} (e : b = true) (h : A) : if b = true then A else B := by
  rw [e]
  exact iteT h
theorem iteC {b : Bool} {A B : Prop} (e : b = false) (h : B) : if b = true then A else B := by
  rw [e]
  exact iteF h
abbrev NOutside : List Str := ["period", "residue", "runs", "found", "begin", "same", "low", "high"]
theorem Outside : FnScope NOutside ["period", "residue", "runs"] (defScope sOutside) := ⟨rfl, rfl, rfl, by decide +kernel, rfl, by decide +kernel, by decide +kernel⟩
abbrev NMember : List Str := ["period", "runs", "time", "residue", "some", "run"]
theorem Member : FnScope NMember ["period", "runs", "time"] (defScope sMember) := ⟨rfl, rfl, rfl, by decide +kernel, rfl, by decide +kernel, by decide +kernel⟩
def spOutside (K : W.Frag) : Sp := fun vs H Q _ => ∃ (p r : Int) (a : Addr) (xs : List V) (zs : List Rn.Run), vs = [.int p, .int r, .ref a] ∧ H a = some (.lst xs) ∧ Rns K H xs zs ∧ xs.length ≤ 10000000 ∧
  ∀ (l : Addr) (H' : Hp) (ys : List V), H l = none → Same H H' → H' l = some (.lst ys) → Sns K H' ys (Rn.outs p r none zs) → Q (.ref l) H'
def spMember (K : W.Frag) : Sp := fun vs H Q _ => ∃ (p t : Int) (a : Addr) (xs : List V) (zs : List Rn.Run), vs = [.int p, .ref a, .int t] ∧ 0 < p ∧ SqT K H a xs ∧ Rns K H xs zs ∧ xs.length ≤ 10000000 ∧
  ∀ (b : Bool) (H' : Hp), (b = true ↔ Rn.inRuns p zs t) → Same H H' → Q (.bl b) H'
section
variable {P : Program} {w : World} {K : W.Frag} {mg : Str → Option Value} {base : Heap}
theorem ok_outside {fd : FuncData} (F : FnP K "outside_runs" sOutside fd) : FnOk P w K mg base CX0 1 (He.ga K "outside_runs") fd ["period", "residue", "runs"] (spOutside K) := by
  refine F.ok Outside (fun vs H Q E h => ?_) (fun cdv A outer s H vs Q E hr h => ?_)
  · obtain ⟨p, r, a, xs, zs, rfl, _⟩ := h
    rfl
  · obtain ⟨p, r, a, xs, zs, rfl, hA, hR, hz, k⟩ := h
    have hlen := hR.length
    have hbig : (10000000 : Nat) + 1 < sizeLine := by decide
    refine ⟨_, PSs.nox (pss_cons (ps_set (i := 3) Outside.nd rfl (Or.inl rfl) (pe_lstS pa_nil))
      (pss_cons (ps_set (i := 4) Outside.nd rfl (Or.inl rfl) pe_non)
      (pss_cons (ps_for PassesOwn.never rfl (pi_listK (K := K) rfl (pv 2)) (pg_tup rfl (pgs_cons (pg_name (i := 5) Outside.nd rfl (Or.inl rfl)) (pgs_cons (pg_name (i := 6) Outside.nd rfl (Or.inl rfl)) (pgs_cons (pg_name (i := 7) Outside.nd rfl (Or.inl rfl)) pgs_nil)))) (pss_cons (ps_cut (ps_if (PW.pt (pw_and (pt_cmp (pc_notN (pv 6))) (pw_and1 (PW.pt (pw_or (pt_cmp (pc_isN (pv 4))) (pw_or1 (pt_cmpR op_lt (pv 4) (pv 6) (nomark _)))))))) (pss_one (ps_expr (pe_bm PySem.F.plainAttrs_list PySem.F.slot_list_append PySem.F.type_list_append mt_append (pv 3) (pa_cons (pe_tupS (pa_cons (pv 1) (pa_cons (pv 4) (pa_cons (pe_op op_sub (pv 6) (pv 0)) pa_nil)))) pa_nil)))) pss_nil))
      (pss_cons (ps_if (pt_cmp (pc_isN (pv 7))) (pss_one (ps_ret (pv 3))) pss_nil)
      (pss_one (ps_set (i := 4) Outside.nd rfl (Or.inl rfl) (pe_op op_add (pv 7) (pv 0)))))))
      (pss_one (ps_ret (pe_lstS (StX.pa_star (pv 3) (pa_cons (pe_tupS (pa_cons (pv 1) (pa_cons (pv 4) (pa_cons pe_non pa_nil)))) pa_nil)))))))), ?_⟩
    refine ⟨(by show 0 ≤ sizeLine; decide), fun f H1 n1 s1 e1 => ?_⟩
    refine ⟨_, rfl, a, rfl, ⟨_, SqL.of (s1 _ _ hA)⟩, ?_⟩
    refine for_list (K := K) (a := a) (xs := xs) (fun i σ' H' => ∃ (u5 u6 u7 : Option V) (b : Option Int) (vs : List V) (fs : List Rn.Sp3), σ' = [some (.int p), some (.int r), some (.ref a), some (.ref f), some (ob b), u5, u6, u7] ∧ Same H H' ∧ H' f = some (.lst vs) ∧ Sns K H' vs fs ∧ fs ++ Rn.outs p r b (zs.drop i) = Rn.outs p r none zs ∧ vs.length ≤ i) ⟨_, _, _, none, [], [], rfl, s1, e1, .nil, rfl, Nat.le_refl _⟩ ?_ ?_ ?_
    · rintro i σ' H' _ ⟨u5, u6, u7, b, vs, fs, _, s2, _⟩
      exact SqL.of (s2 _ _ hA)
    · rintro i x σ' H2 hx ⟨u5, u6, u7, b, vs, fs, rfl, s2, hf, Rf, ef, hvi⟩
      obtain ⟨y, hy, Sx⟩ := pr_get hR hx
      have hyi : i < zs.length := (List.getElem?_eq_some_iff.mp hy).1
      have ed : zs.drop i = y :: zs.drop (i + 1) := by
        rw [List.drop_eq_getElem_cons hyi]
        congr 1
        exact Option.some.inj ((List.getElem?_eq_getElem hyi).symm.trans hy)
      rw [ed, Rn.outs] at ef
      obtain ⟨ax, rfl, hX⟩ := Tp.same Sx s2
      refine ⟨ax, _, rfl, hX, rfl, _, _, rfl, _, _, rfl, _, _, rfl, rfl, ?_⟩
      refine ⟨fun σ' H' => ∃ vs' : List V, σ' = [some (.int p), some (.int r), some (.ref a), some (.ref f), some (ob b), some (.int y.r), some (ob y.lo), some (ob y.hi)] ∧ Same H H' ∧ H' f = some (.lst vs') ∧ Sns K H' vs' (fs ++ Rn.ahead p r b y.lo) ∧ vs'.length ≤ i + 1, ?_, ?_⟩
      · obtain ⟨ry, ly, hy'⟩ := y
        cases ly with
        | none =>
          refine ⟨_, rfl, _, rfl, iteF (iteF ?_)⟩
          exact ⟨vs, rfl, s2, hf, by show Sns K H2 vs (fs ++ []); rw [List.append_nil]; exact Rf, by omega⟩
        | some l =>
          refine ⟨_, rfl, _, rfl, iteT ⟨_, rfl, _, rfl, ?_⟩⟩
          cases b with
          | none =>
            refine iteT (iteT ?_)
            refine ⟨_, rfl, Or.inl ⟨rfl, _, SqL.of hf⟩, _, rfl, _, rfl, _, rfl, _, rfl, _, _, rfl, rfl, (by show 3 ≤ sizeLine; decide), fun q H3 n3 s3 e3 => ⟨f, vs, _, rfl, rfl, s3 _ _ hf, by omega, ?_⟩⟩
            refine ⟨vs ++ [.ref q], rfl, same_upd (Same.trans s2 s3) n1, upd_same, ?_, by rw [List.length_append]; exact Nat.succ_le_succ hvi⟩
            exact Sns.kept (pr_append (Sns.same Rf s3) (.cons (Tp.of e3) .nil)) (s3 _ _ hf) Kept.upd
          | some c =>
            refine iteF ⟨_, rfl, _, rfl, _, _, rfl, rfl, _, rfl, ?_⟩
            have ea : Rn.ahead p r (some c) (some l) = if c < l then [⟨some r, some c, some (l - p)⟩] else [] := rfl
            by_cases hcl : c < l
            · rw [decide_eq_true hcl]
              refine iteT ?_
              refine ⟨_, rfl, Or.inl ⟨rfl, _, SqL.of hf⟩, _, rfl, _, rfl, _, rfl, _, rfl, _, _, rfl, rfl, (by show 3 ≤ sizeLine; decide), fun q H3 n3 s3 e3 => ⟨f, vs, _, rfl, rfl, s3 _ _ hf, by omega, ?_⟩⟩
              refine ⟨vs ++ [.ref q], rfl, same_upd (Same.trans s2 s3) n1, upd_same, ?_, by rw [List.length_append]; exact Nat.succ_le_succ hvi⟩
              show Sns K _ _ (fs ++ Rn.ahead p r (some c) (some l))
              rw [ea, if_pos hcl]
              exact Sns.kept (pr_append (Sns.same Rf s3) (.cons (Tp.of e3) .nil)) (s3 _ _ hf) Kept.upd
            · rw [decide_eq_false hcl]
              refine iteF ?_
              refine ⟨vs, rfl, s2, hf, ?_, by omega⟩
              show Sns K _ _ (fs ++ Rn.ahead p r (some c) (some l))
              rw [ea, if_neg hcl, List.append_nil]
              exact Rf
      · rintro σ' H3 ⟨vs', rfl, s3, hf3, R3, hv3⟩
        obtain ⟨ry, ly, hy'⟩ := y
        cases hy' with
        | none =>
          refine ⟨_, rfl, _, rfl, iteT ⟨_, rfl, ?_⟩⟩
          refine k f H3 vs' n1 s3 hf3 ?_
          have ef' : fs ++ (Rn.ahead p r b ly ++ []) = Rn.outs p r none zs := ef
          rw [List.append_nil] at ef'
          rw [← ef']
          exact R3
        | some h =>
          refine ⟨_, rfl, _, rfl, iteF ⟨_, rfl, _, rfl, _, _, rfl, rfl, ?_⟩⟩
          refine ⟨_, _, _, some (h + p), vs', fs ++ Rn.ahead p r b ly, rfl, s3, hf3, R3, ?_, hv3⟩
          rw [List.append_assoc]
          exact ef
    · rintro σ' H2 ⟨u5, u6, u7, b, vs, fs, rfl, s2, hf, Rf, ef, hvi⟩
      rw [hlen, List.drop_length, Rn.outs] at ef
      refine ⟨_, rfl, f, vs, rfl, .inr (SqL.of hf), _, rfl, _, rfl, (by show 3 ≤ sizeLine; decide), fun q H3 n3 s3 e3 => ⟨?_, fun l H4 n4 s4 e4 => ?_⟩⟩
      · rw [List.length_append]
        show vs.length + 1 ≤ sizeLine
        omega
      have s24 := Same.trans s2 s3
      refine k l H4 _ (s24.free n4) (Same.trans s24 s4) e4 ?_
      rw [← ef]
      exact Sns.same (pr_append (Sns.same Rf s3) (.cons (Tp.of e3) .nil)) s4
end
end TM
end

section
set_option maxHeartbeats 4000000
namespace TM
open PySem PySem.Spec PyProof.Rows L2 EW
section
variable {P : Program} {w : World} {K : W.Frag} {mg : Str → Option Value} {base : Heap}
/-- is t between the bounds of a run -/
def within (z : Rn.Run) (t : Int) : Bool := (match z.lo with
  | none => true
  | some l => decide (l ≤ t)) && match z.hi with
  | none => true
  | some h => decide (t ≤ h)
theorem within_iff {p t : Int} {zs : List Rn.Run} : ((zs.filter fun z => decide (z.r = t % p)).any fun z => within z t) = true ↔ Rn.inRuns p zs t := by
  rw [List.any_eq_true]
  have one : ∀ z : Rn.Run, within z t = true ↔ Rn.geLo z.lo t ∧ Rn.leHi z.hi t := fun z => by
    obtain ⟨r, lo, hi⟩ := z
    unfold within Rn.geLo Rn.leHi
    cases lo <;> cases hi <;> simp
  constructor
  · rintro ⟨z, hz, m⟩
    obtain ⟨h1, h2⟩ := List.mem_filter.mp hz
    exact ⟨z, h1, (of_decide_eq_true h2).symm, (one z).mp m⟩
  · rintro ⟨z, hz, m, g⟩
    exact ⟨z, List.mem_filter.mpr ⟨hz, decide_eq_true m.symm⟩, (one z).mpr g⟩
theorem ok_member {fd : FuncData} (F : FnP K "is_member" sMember fd) (T : Fre mg) : FnOk P w K mg base CX0 1 (He.ga K "is_member") fd ["period", "runs", "time"] (spMember K) := by
  refine F.ok Member (fun vs H Q E h => ?_) (fun cdv A outer s H vs Q E hr h => ?_)
  · obtain ⟨p, t, a, xs, zs, rfl, _⟩ := h
    rfl
  · obtain ⟨p, t, a, xs, zs, rfl, hp, hS, hR, hz, k⟩ := h
    have hlen := hR.length
    have hbig : (10000000 : Nat) + 1 < sizeLine := by decide
    refine ⟨_, PSs.nox (pss_cons (ps_set (i := 3) Member.nd rfl (Or.inr rfl) (pe_op op_mod (pe_callTy call_int1 (by rfl) T.int EW.boot_int (pa_cons (pv 2) pa_nil)) (pv 0)))
      (pss_cons (ps_cut (ps_setLc (i := 4) (own := [("run", 5)]) (g := gName 5) (tt := _) (by rfl) Member.nd rfl rfl (sw_true rfl rfl rfl (by decide +kernel)) (pi_tupK (K := K) rfl (pv 1)) (blkOk_by (own := [("run", 5)]) (N := NMember) (sc := defScope sMember) (by decide +kernel)) (fun _ _ _ _ _ => (pg_name (i := 5) Member.nd rfl (Or.inl rfl))) (fun _ _ _ _ _ => (pts_one (pt_cmpR op_eq (pe_ix (ix_tupK K rfl) (pv 5) pe_int (fun _ _ => rfl)) (pv 3) (nomark _)))) (fun _ _ _ _ _ => (pv 5))))
      (pss_one (ps_ret (pe_callB (cr_anyK K rfl rfl) (by rfl) T.any EW.boot_any (pa_cons (pe_lc (own := [("run", 5)]) (g := gName 5) (tt := tYes) (by rfl) Member.nd (pi_listK (K := K) rfl (pv 4)) (blkOk_by (own := [("run", 5)]) (N := NMember) (sc := defScope sMember) (by decide +kernel)) (fun _ _ _ _ _ => (pg_name (i := 5) Member.nd rfl (Or.inl rfl))) (fun _ _ _ _ _ => pts_nil) (fun _ _ _ _ _ => (pe_and (pe_or (pe_cmp (pc_isN (pe_ix (ix_tupK K rfl) (pv 5) pe_int (fun _ _ => rfl)))) (pe_one (pe_cmpR op_le (pe_ix (ix_tupK K rfl) (pv 5) pe_int (fun _ _ => rfl)) (pv 2) (nomark _)))) (pe_one (pe_or (pe_cmp (pc_isN (pe_ix (ix_tupK K rfl) (pv 5) pe_int (fun _ _ => rfl)))) (pe_one (pe_cmpR op_le (pv 2) (pe_ix (ix_tupK K rfl) (pv 5) pe_int (fun _ _ => rfl)) (nomark _)))))))) pa_nil)))))), ?_⟩
    refine ⟨_, rfl, Or.inl ⟨_, rfl, _, rfl, _, _, rfl, rfl, hp, ?_⟩⟩
    refine ⟨fun σ' H' => ∃ (L : Addr) (vs : List V), σ' = [some (.int p), some (.ref a), some (.int t), some (.int (t % p)), some (.ref L), none] ∧ Same H H' ∧ H' L = some (.lst vs) ∧ Rns K H' vs (zs.filter fun z => decide (z.r = t % p)), ?_, ?_⟩
    · refine ⟨_, rfl, a, rfl, ⟨_, hS⟩, fun D hD => ?_⟩
      refine loop_tup (xs := xs) (fun i H' => ∃ acc : List V, H' D = some (.lst acc) ∧ Same H H' ∧ Rns K H' acc ((zs.take i).filter fun z => decide (z.r = t % p))) ⟨[], upd_same, upd_new hD, by rw [List.take_zero]; exact .nil⟩ ?_ ?_ ?_
      · rintro i H' _ ⟨acc, _, s1, _⟩
        exact SqT.same hS s1
      · rintro i x H1 hx ⟨acc, hDa, s1, R1⟩
        obtain ⟨y, hy, Sx⟩ := pr_get hR hx
        have et : zs.take (i + 1) = zs.take i ++ [y] := by
          rw [List.take_add_one, hy]
          rfl
        obtain ⟨ax, rfl, hX⟩ := Tp.same Sx s1
        refine ⟨rfl, ?_⟩
        refine ⟨_, rfl, ax, _, _, _, rfl, rfl, hX, rfl, _, rfl, rfl, _, rfl, ?_⟩
        rw [et, List.filter_append, List.filter_cons]
        by_cases c : y.r = t % p
        · rw [if_pos (decide_eq_true c)]
          refine iteB (decide_eq_true (by rw [show ob y.span.res = V.int y.r from rfl, c])) ?_
          refine ⟨_, rfl, acc, hDa, ?_, acc ++ [.ref ax], upd_same, same_upd s1 hD, ?_⟩
          · have h1 := R1.length
            have h2 := List.length_filter_le (fun z : Rn.Run => decide (z.r = t % p)) (zs.take i)
            rw [List.length_take] at h2
            omega
          · exact Rns.kept (pr_append R1 (.cons ⟨ax, rfl, hX⟩ .nil)) hDa Kept.upd
        · rw [if_neg (by simpa using c)]
          refine iteC (decide_eq_false (fun z => c (V.int.inj z))) ?_
          refine ⟨acc, hDa, s1, ?_⟩
          show Rns K H1 acc (_ ++ [])
          rw [List.append_nil]
          exact R1
      · rintro H1 ⟨acc, hDa, s1, R1⟩
        rw [hlen, List.take_length] at R1
        exact ⟨D, acc, rfl, s1, hDa, R1⟩
    · rintro σ' H1 ⟨L, vs, rfl, s1, hL, R1⟩
      have l1 := R1.length
      have l2 := List.length_filter_le (fun z : Rn.Run => decide (z.r = t % p)) zs
      refine ⟨_, rfl, L, rfl, ⟨_, SqL.of hL⟩, fun D hD => ?_⟩
      refine loop_list (xs := vs) (fun i H' => ∃ bs : List Bool, H' D = some (.lst (bs.map V.bl)) ∧ Same H1 H' ∧ bs = ((zs.filter fun z => decide (z.r = t % p)).take i).map fun z => within z t) ⟨[], upd_same, upd_new hD, by rw [List.take_zero]; rfl⟩ ?_ ?_ ?_
      · rintro i H' _ ⟨bs, _, s2, _⟩
        exact SqL.of (s2 _ _ hL)
      · rintro i x H2 hx ⟨bs, hDa, s2, eb⟩
        obtain ⟨y, hy, Sx⟩ := pr_get R1 hx
        have et : (zs.filter fun z => decide (z.r = t % p)).take (i + 1) = (zs.filter fun z => decide (z.r = t % p)).take i ++ [y] := by
          rw [List.take_add_one, hy]
          rfl
        obtain ⟨ax, rfl, hX⟩ := Tp.same Sx s2
        have hb : (bs.map V.bl).length < sizeLine := by
          rw [List.length_map, eb, List.length_map, List.length_take]
          omega
        have fin : ∀ b : Bool, b = within y t → ∃ acc, H2 D = some (.lst acc) ∧ acc.length < sizeLine ∧ ∃ bs' : List Bool, (upd H2 D (.lst (acc ++ [.bl b]))) D = some (.lst (bs'.map V.bl)) ∧ Same H1 (upd H2 D (.lst (acc ++ [.bl b]))) ∧ bs' = ((zs.filter fun z => decide (z.r = t % p)).take (i + 1)).map fun z => within z t := by
          intro b e
          refine ⟨_, hDa, hb, bs ++ [b], ?_, same_upd s2 hD, ?_⟩
          · rw [upd_same, List.map_append]
            rfl
          · rw [et, List.map_append, ← eb, e]
            rfl
        refine ⟨rfl, ?_⟩
        obtain ⟨ry, ly, hy'⟩ := y
        refine ⟨_, rfl, ax, _, _, _, rfl, rfl, hX, rfl, _, rfl, ?_⟩
        have second : ∀ b : Bool, (b && match hy' with
            | none => true
            | some h => decide (t ≤ h)) = within ⟨ry, ly, hy'⟩ t → b = true → True := fun _ _ _ => trivial
        cases ly with
        | none =>
          refine iteT ⟨_, rfl, iteT ⟨_, rfl, ax, _, _, _, rfl, rfl, hX, rfl, _, rfl, ?_⟩⟩
          cases hy' with
          | none => exact iteT (fin true rfl)
          | some h => exact iteF ⟨_, rfl, _, rfl, ax, _, _, _, rfl, rfl, hX, rfl, _, _, rfl, rfl, fin _ rfl⟩
        | some l =>
          refine iteF ⟨_, rfl, ax, _, _, _, rfl, rfl, hX, rfl, _, rfl, _, _, rfl, rfl, _, rfl, ?_⟩
          by_cases c : l ≤ t
          · rw [decide_eq_true c]
            refine iteT ⟨_, rfl, ax, _, _, _, rfl, rfl, hX, rfl, _, rfl, ?_⟩
            cases hy' with
            | none => exact iteT (fin true (by simp [within, c]))
            | some h => exact iteF ⟨_, rfl, _, rfl, ax, _, _, _, rfl, rfl, hX, rfl, _, _, rfl, rfl, fin _ (by simp [within, c])⟩
          · rw [decide_eq_false c]
            exact iteF (fin false (by simp [within, c]))
      · rintro H2 ⟨bs, hDa, s2, eb⟩
        rw [l1, List.take_length] at eb
        refine ⟨D, bs, rfl, SqL.of hDa, ?_⟩
        refine k _ H2 ?_ (Same.trans s1 s2)
        rw [← within_iff, eb, List.any_map]
        exact Iff.rfl
end
end TM
end

section
set_option maxHeartbeats 4000000
namespace TM
open PySem PySem.Spec PyProof.Rows L2 EW
theorem grt_iff {a b : Option Int} {t : Int} : Rn.geLo (grt a b) t ↔ Rn.geLo a t ∧ Rn.geLo b t := by
  unfold Rn.geLo grt
  cases a with
  | none => simp
  | some u =>
    cases b with
    | none => simp
    | some v =>
      simp only [Option.some.injEq]
      constructor
      · intro h
        have h := h _ rfl
        refine ⟨fun l e => ?_, fun l e => ?_⟩
        · subst e
          split at h <;> omega
        · subst e
          split at h <;> omega
      · rintro ⟨h1, h2⟩ l rfl
        have h1 := h1 _ rfl
        have h2 := h2 _ rfl
        split <;> omega
theorem lst_iff {a b : Option Int} {t : Int} : Rn.leHi (lst a b) t ↔ Rn.leHi a t ∧ Rn.leHi b t := by
  unfold Rn.leHi lst
  cases a with
  | none => simp
  | some u =>
    cases b with
    | none => simp
    | some v =>
      simp only [Option.some.injEq]
      constructor
      · intro h
        have h := h _ rfl
        refine ⟨fun l e => ?_, fun l e => ?_⟩
        · subst e
          split at h <;> omega
        · subst e
          split at h <;> omega
      · rintro ⟨h1, h2⟩ l rfl
        have h1 := h1 _ rfl
        have h2 := h2 _ rfl
        split <;> omega
/-- the runs that two runs of one residue have in common -/
def meet (p : Int) (x y : Rn.Run) : Option Rn.Run := Rn.runOf p x.r (grt x.lo y.lo) (lst x.hi y.hi)
def meets (p : Int) (x : Rn.Run) (ws : List Rn.Run) : List Rn.Run := (ws.filter fun y => decide (y.r = x.r)).filterMap (meet p x)
def common (p : Int) (zs ws : List Rn.Run) : List Rn.Run := zs.flatMap fun x => meets p x ws
theorem meets_len {p : Int} {x : Rn.Run} {ws : List Rn.Run} : (meets p x ws).length ≤ ws.length := Nat.le_trans (List.length_filterMap_le _ _) (List.length_filter_le _ _)
theorem common_len {p : Int} {ws : List Rn.Run} : ∀ zs : List Rn.Run, (common p zs ws).length ≤ zs.length * ws.length
  | [] => Nat.zero_le _
  | x :: zs => by
    have h1 := common_len (p := p) (ws := ws) zs
    have h2 := meets_len (p := p) (x := x) (ws := ws)
    have e : common p (x :: zs) ws = meets p x ws ++ common p zs ws := rfl
    rw [e, List.length_append, List.length_cons, Nat.succ_mul]
    omega
theorem common_ok {p : Int} {zs ws : List Rn.Run} (hz : ∀ z ∈ zs, Rn.Good p z) : (∀ c ∈ common p zs ws, Rn.Good p c) ∧ ∀ t, Rn.inRuns p (common p zs ws) t ↔ Rn.inRuns p zs t ∧ Rn.inRuns p ws t := by
  refine ⟨fun c hc => ?_, fun t => ⟨?_, ?_⟩⟩
  · obtain ⟨x, hx, hc⟩ := List.mem_flatMap.mp hc
    obtain ⟨y, hy, e⟩ := List.mem_filterMap.mp hc
    exact (Rn.runOf_some (hz x hx).r0 (hz x hx).r1 e).1
  · rintro ⟨c, hc, m⟩
    obtain ⟨x, hx, hc⟩ := List.mem_flatMap.mp hc
    obtain ⟨y, hy, e⟩ := List.mem_filterMap.mp hc
    obtain ⟨hy, er⟩ := List.mem_filter.mp hy
    obtain ⟨h1, h2, h3⟩ := ((Rn.runOf_some (hz x hx).r0 (hz x hx).r1 e).2.2 t).mp m
    obtain ⟨g1, g2⟩ := grt_iff.mp h2
    obtain ⟨l1, l2⟩ := lst_iff.mp h3
    exact ⟨⟨x, hx, h1, g1, l1⟩, y, hy, h1.trans (of_decide_eq_true er).symm, g2, l2⟩
  · rintro ⟨⟨x, hx, x1, x2, x3⟩, y, hy, y1, y2, y3⟩
    have er : y.r = x.r := y1.symm.trans x1
    have all : t % p = x.r ∧ Rn.geLo (grt x.lo y.lo) t ∧ Rn.leHi (lst x.hi y.hi) t := ⟨x1, grt_iff.mpr ⟨x2, y2⟩, lst_iff.mpr ⟨x3, y3⟩⟩
    cases e : Rn.runOf p x.r (grt x.lo y.lo) (lst x.hi y.hi) with
    | none => exact absurd all (Rn.runOf_none (hz x hx).r0 (hz x hx).r1 e t)
    | some c => exact ⟨c, List.mem_flatMap.mpr ⟨x, hx, List.mem_filterMap.mpr ⟨y, List.mem_filter.mpr ⟨hy, decide_eq_true er⟩, e⟩⟩, ((Rn.runOf_some (hz x hx).r0 (hz x hx).r1 e).2.2 t).mpr all⟩
abbrev NCommon : List Str := ["period", "one", "other", "found", "groups", "residue", "least", "most", "same", "low", "high", "run"]
theorem Common : FnScope NCommon ["period", "one", "other"] (defScope sCommon) := ⟨rfl, rfl, rfl, by decide +kernel, rfl, by decide +kernel, by decide +kernel⟩
def spCommon (K : W.Frag) : Sp := fun vs H Q _ => ∃ (p : Int) (a b : Addr) (xs ys : List V) (zs ws : List Rn.Run), vs = [.int p, .ref a, .ref b] ∧ 0 < p ∧ SqT K H a xs ∧ Rns K H xs zs ∧ SqT K H b ys ∧ Rns K H ys ws ∧ ys.length ≤ 10000000 ∧ zs.length * ws.length ≤ 10000000 ∧
  ∀ (l : Addr) (H' : Hp) (vs : List V), H l = none → Same H H' → H' l = some (.lst vs) → Rns K H' vs (common p zs ws) → Q (.ref l) H'
section
variable {P : Program} {w : World} {K : W.Frag} {mg : Str → Option Value} {base : Heap}
theorem ok_common {fd : FuncData} (F : FnP K "common_runs" sCommon fd) (Dgrouped : Df P w K mg base 1 "grouped" ["runs"] (spGrouped K)) (Drun_of : Df P w K mg base 2 "run_of" ["period", "residue", "least", "most"] spRunOf) (Dgreater_of : Df P w K mg base 1 "greater_of" ["one", "other"] (spTwo grt)) (Dlesser_of : Df P w K mg base 1 "lesser_of" ["one", "other"] (spTwo lst)) :
    FnOk P w K mg base CX0 3 (He.ga K "common_runs") fd ["period", "one", "other"] (spCommon K) := by
  refine F.ok Common (fun vs H Q E h => ?_) (fun cdv A outer s H vs Q E hr h => ?_)
  · obtain ⟨p, a, b, xs, ys, zs, ws, rfl, _⟩ := h
    rfl
  · obtain ⟨p, a, b, xs, ys, zs, ws, rfl, hp, hA, hR, hB, hR', hy, hz, k⟩ := h
    have hlen := hR.length
    have hlen' := hR'.length
    have hbig : (10000000 : Nat) + 1 < sizeLine := by decide
    refine ⟨_, PSs.nox (pss_cons (ps_set (i := 3) Common.nd rfl (Or.inl rfl) (pe_lstS pa_nil))
      (pss_cons (ps_set (i := 4) Common.nd rfl (Or.inl rfl) (pe_df Dgrouped (hr.mono (by decide)) rfl (pa_cons (pv 2) pa_nil)))
      (pss_cons (ps_for PassesOwn.never rfl (pi_tupK (K := K) rfl (pv 1)) (pg_tup rfl (pgs_cons (pg_name (i := 5) Common.nd rfl (Or.inl rfl)) (pgs_cons (pg_name (i := 6) Common.nd rfl (Or.inl rfl)) (pgs_cons (pg_name (i := 7) Common.nd rfl (Or.inl rfl)) pgs_nil)))) (pss_one (ps_for PassesOwn.never rfl (pi_listK (K := K) rfl (pe_dget2 hr.u1 (pv 4) (pv 5) (pe_lstS pa_nil) ⟨rfl, rfl, rfl, rfl⟩)) (pg_tup rfl (pgs_cons (pg_name (i := 8) Common.nd rfl (Or.inl rfl)) (pgs_cons (pg_name (i := 9) Common.nd rfl (Or.inl rfl)) (pgs_cons (pg_name (i := 10) Common.nd rfl (Or.inl rfl)) pgs_nil)))) (pss_cons (ps_cut (ps_set (i := 11) Common.nd rfl (Or.inl rfl) (pe_df Drun_of (hr.mono (by decide)) rfl (pa_cons (pv 0) (pa_cons (pv 5) (pa_cons (pe_df Dgreater_of (hr.mono (by decide)) rfl (pa_cons (pv 6) (pa_cons (pv 9) pa_nil))) (pa_cons (pe_df Dlesser_of (hr.mono (by decide)) rfl (pa_cons (pv 7) (pa_cons (pv 10) pa_nil))) pa_nil)))))))
      (pss_one (ps_if (pt_cmp (pc_notN (pv 11))) (pss_one (ps_expr (pe_bm PySem.F.plainAttrs_list PySem.F.slot_list_append PySem.F.type_list_append mt_append (pv 3) (pa_cons (pv 11) pa_nil)))) pss_nil))))))
      (pss_one (ps_ret (pv 3)))))), ?_⟩
    refine ⟨(by show 0 ≤ sizeLine; decide), fun f H1 n1 s1 e1 => ?_⟩
    refine ⟨_, rfl, b, ys, ws, rfl, .inr (SqT.same hB s1), Rns.same hR' s1, by omega, fun d H2 kvs n2 s2 e2 G => ?_⟩
    have s12 := Same.trans s1 s2
    refine ⟨_, rfl, a, rfl, ⟨_, SqT.same hA s12⟩, ?_⟩
    refine for_tup (K := K) (a := a) (xs := xs) (fun i σ' H' => ∃ (u5 u6 u7 u8 u9 u10 u11 : Option V) (vs : List V), σ' = [some (.int p), some (.ref a), some (.ref b), some (.ref f), some (.ref d), u5, u6, u7, u8, u9, u10, u11] ∧ EW.Kept f H2 H' ∧ H' f = some (.lst vs) ∧ Rns K H' vs (common p (zs.take i) ws)) ⟨_, _, _, _, _, _, _, [], rfl, EW.Kept.refl _ _, s2 _ _ e1, by rw [List.take_zero]; exact .nil⟩ ?_ ?_ ?_
    · rintro i σ' H' _ ⟨u5, u6, u7, u8, u9, u10, u11, vs, _, k3, _⟩
      exact SqT.kept (SqT.same hA s12) (s2 _ _ e1) k3
    · rintro i x σ' H3 hx ⟨u5, u6, u7, u8, u9, u10, u11, vs, rfl, k3, hf, Rv⟩
      obtain ⟨y, hy1, Sx⟩ := pr_get hR hx
      have hyi : i < zs.length := (List.getElem?_eq_some_iff.mp hy1).1
      have hmul : (i + 1) * ws.length ≤ zs.length * ws.length := Nat.mul_le_mul_right _ hyi
      have hcl := common_len (p := p) (ws := ws) (zs.take i)
      have hti : (zs.take i).length * ws.length ≤ i * ws.length := Nat.mul_le_mul_right _ (by rw [List.length_take]; omega)
      rw [Nat.succ_mul] at hmul
      have et : common p (zs.take (i + 1)) ws = common p (zs.take i) ws ++ meets p y ws := by
        rw [List.take_add_one, hy1]
        show List.flatMap _ (_ ++ [y]) = _
        rw [List.flatMap_append, List.flatMap_cons, List.flatMap_nil, List.append_nil]
        rfl
      have hf2 : H2 f = some (.lst []) := s2 _ _ e1
      have hd3 : H3 d = some (.dK kvs) := k3 _ _ (fun z => by rw [z, hf2] at e2; cases e2) e2
      obtain ⟨ax, rfl, hX⟩ := Tp.kept (Tp.same Sx s12) hf2 k3
      refine ⟨ax, _, rfl, hX, rfl, _, _, rfl, _, _, rfl, _, _, rfl, rfl, ?_⟩
      refine ⟨_, rfl, d, rfl, .inl ⟨kvs, .inl hd3⟩, _, rfl, (by show 0 ≤ sizeLine; decide), fun q H4 n4 s4 e4 => ⟨_, DGet.k (k := (Sum.inl y.r : Key)) (s4 _ _ hd3), ?_⟩⟩
      have k4 : EW.Kept f H2 H4 := fun c o n e => s4 _ _ (k3 c o n e)
      have hL : ∃ (L : Addr) (ys0 : List V), (valV kvs (Sum.inl y.r : Key)).getD (.ref q) = .ref L ∧ L ≠ f ∧ H4 L = some (.lst ys0) ∧ Rns K H4 ys0 (ws.filter fun z => decide (z.r = y.r)) := by
        cases hv : valV kvs (Sum.inl y.r : Key) with
        | none =>
          have en : ws.filter (fun z => decide (z.r = y.r)) = [] := List.filter_eq_nil_iff.mpr fun z hz c => G.no _ hv z hz (of_decide_eq_true c)
          exact ⟨q, [], rfl, (fun z => by rw [z, hf] at n4; cases n4), e4, by rw [en]; exact .nil⟩
        | some v =>
          obtain ⟨⟨l0, ys0, rfl, hl0, R0⟩, z, hz, ez⟩ := G.yes _ _ hv
          have hne : l0 ≠ f := fun e => by
            rw [e, hf2] at hl0
            have e' : ys0 = [] := by
              injection hl0 with h
              injection h with h
              exact h.symm
            have h1 := R0.length
            rw [e'] at h1
            have h2 : z ∈ ws.filter (fun z => decide (z.r = y.r)) := List.mem_filter.mpr ⟨hz, decide_eq_true ez⟩
            have h3 := List.length_pos_of_mem h2
            simp at h1
            omega
          exact ⟨l0, ys0, rfl, hne, k4 _ _ hne hl0, Rns.kept R0 hf2 k4⟩
      obtain ⟨L, ys0, eL, hLf, hL, R0⟩ := hL
      have hl0 := R0.length
      have hfl := List.length_filter_le (fun z : Rn.Run => decide (z.r = y.r)) ws
      have hf4 : H4 f = some (.lst vs) := s4 _ _ hf
      refine ⟨L, eL, ⟨_, SqL.of hL⟩, ?_⟩
      refine for_list (K := K) (a := L) (xs := ys0) (fun j σ' H' => ∃ (u8 u9 u10 u11 : Option V) (vs' : List V), σ' = [some (.int p), some (.ref a), some (.ref b), some (.ref f), some (.ref d), some (.int y.r), some (ob y.lo), some (ob y.hi), u8, u9, u10, u11] ∧ EW.Kept f H4 H' ∧ H' f = some (.lst vs') ∧ Rns K H' vs' (common p (zs.take i) ws ++ ((ws.filter fun z => decide (z.r = y.r)).take j).filterMap (meet p y))) ⟨_, _, _, _, vs, rfl, EW.Kept.refl _ _, hf4, by rw [List.take_zero]; show Rns K H4 vs (_ ++ []); rw [List.append_nil]; exact Rns.same Rv s4⟩ ?_ ?_ ?_
      · rintro j σ' H' _ ⟨u8, u9, u10, u11, vs', _, k5, _⟩
        exact SqL.of (k5 _ _ hLf hL)
      · rintro j x2 σ' H5 hx2 ⟨u8, u9, u10, u11, vs', rfl, k5, hf5, R5⟩
        obtain ⟨y2, hy2, Sx2⟩ := pr_get R0 hx2
        obtain ⟨ax2, rfl, hX2⟩ := Tp.kept Sx2 hf4 k5
        have et2 : (ws.filter fun z => decide (z.r = y.r)).take (j + 1) = (ws.filter fun z => decide (z.r = y.r)).take j ++ [y2] := by
          rw [List.take_add_one, hy2]
          rfl
        refine ⟨ax2, _, rfl, hX2, rfl, _, _, rfl, _, _, rfl, _, _, rfl, rfl, ?_⟩
        refine ⟨fun σ' H' => ∃ v : V, σ' = [some (.int p), some (.ref a), some (.ref b), some (.ref f), some (.ref d), some (.int y.r), some (ob y.lo), some (ob y.hi), some (.int y2.r), some (ob y2.lo), some (ob y2.hi), some v] ∧ Same H5 H' ∧ TV K H' v (meet p y y2), ?_, ?_⟩
        · refine ⟨_, rfl, _, rfl, _, rfl, _, rfl, y.lo, y2.lo, rfl, _, rfl, _, rfl, y.hi, y2.hi, rfl, p, y.r, _, _, rfl, hp, ?_⟩
          show NewRun H5 (meet p y y2) _
          cases hm : meet p y y2 with
          | none => exact fun H6 s6 => ⟨.non, rfl, s6, rfl⟩
          | some z => exact fun q H6 n6 s6 e6 => ⟨.ref q, rfl, s6, Tp.of e6⟩
        · rintro σ' H6 ⟨v, rfl, s6, tv⟩
          have hf6 := s6 _ _ hf5
          have k6 : EW.Kept f H4 H6 := fun c o n e => s6 _ _ (k5 c o n e)
          cases hm : meet p y y2 with
          | none =>
            rw [hm] at tv
            have tv' : v = .non := tv
            subst tv'
            refine ⟨_, rfl, _, rfl, iteF ?_⟩
            refine ⟨_, _, _, _, vs', rfl, k6, hf6, ?_⟩
            rw [et2, List.filterMap_append, List.filterMap_cons, hm]
            show Rns K H6 vs' (_ ++ (_ ++ []))
            rw [List.append_nil]
            exact Rns.same R5 s6
          | some z =>
            rw [hm] at tv
            obtain ⟨bz, rfl, hZ⟩ := tv
            refine ⟨_, rfl, _, rfl, iteT ?_⟩
            refine ⟨_, rfl, Or.inl ⟨rfl, _, SqL.of hf6⟩, _, rfl, f, vs', _, rfl, rfl, hf6, ?_, ?_⟩
            · have h1 := R5.length
              have h2 := List.length_filterMap_le (meet p y) ((ws.filter fun z => decide (z.r = y.r)).take j)
              rw [List.length_append] at h1
              rw [List.length_take] at h2
              omega
            · refine ⟨_, _, _, _, vs' ++ [.ref bz], rfl, k6.trans Kept.upd, upd_same, ?_⟩
              rw [et2, List.filterMap_append, List.filterMap_cons, hm, ← List.append_assoc]
              exact Rns.kept (pr_append (Rns.same R5 s6) (.cons ⟨bz, rfl, hZ⟩ .nil)) hf6 Kept.upd
      · rintro σ' H5 ⟨u8, u9, u10, u11, vs', rfl, k5, hf5, R5⟩
        refine ⟨_, _, _, _, _, _, _, vs', rfl, k4.trans k5, hf5, ?_⟩
        rw [hl0, List.take_length] at R5
        rw [et]
        exact R5
    · rintro σ' H3 ⟨u5, u6, u7, u8, u9, u10, u11, vs, rfl, k3, hf, Rv⟩
      rw [hlen, List.take_length] at Rv
      exact ⟨_, rfl, k f H3 vs n1 (fun c o h => k3 c o (fun z => by rw [z, n1] at h; cases h) (s12 c o h)) hf Rv⟩
end
end TM
end

section
set_option maxHeartbeats 4000000
namespace TM
open PySem PySem.Spec PyProof.Rows L2 EW
abbrev NRInit : List Str := ["self", "period", "runs"]
theorem RInit : FnScope NRInit ["self", "period", "runs"] (defScope sRInit) := ⟨rfl, rfl, rfl, by decide +kernel, rfl, by decide +kernel, by decide +kernel⟩
abbrev NChecked : List Str := ["period", "spans", "span"]
theorem Checked : FnScope NChecked ["period", "spans"] (defScope sChecked) := ⟨rfl, rfl, rfl, by decide +kernel, rfl, by decide +kernel, by decide +kernel⟩
abbrev NTimesIn : List Str := ["period", "spans"]
theorem TimesIn : FnScope NTimesIn ["period", "spans"] (defScope sTimesIn) := ⟨rfl, rfl, rfl, by decide +kernel, rfl, by decide +kernel, by decide +kernel⟩
abbrev NTInit : List Str := ["self", "period", "spans", "parts"]
theorem TInit : FnScope NTInit ["self", "period", "spans"] (defScope sTInit) := ⟨rfl, rfl, rfl, by decide +kernel, rfl, by decide +kernel, by decide +kernel⟩
/-- isinstance of the two classes -/
structure Isi (K : W.Frag) : Prop where
  rr : W.kitOne K (.ref (CR K)) (.ref (CR K)) = some true
  ir : W.kitOne K (.type "int") (.ref (CR K)) = some false
  tt : W.kitOne K (.ref (CT K)) (.ref (CT K)) = some true
  it : W.kitOne K (.type "int") (.ref (CT K)) = some false
/-- spans by p that make few runs -/
def Few (p : Int) (ss : List Rn.Sp3) : Prop := (∀ s ∈ ss, Rn.SpOk p s) ∧ (ss.flatMap (Rn.foundOf p)).length ≤ 10000000
/-- told of an object of C: its members are those of the spans -/
def Told (K : W.Frag) (C : Addr) (H : Hp) (p : Int) (ss : List Rn.Sp3) (Q : VK) : Prop := ∀ (a dx l : Addr) (H' : Hp) (zs : List Rn.Run), H a = none → Same H H' → H' a = some (.ins C dx (FS p l)) → RunsAt K H' l p zs → (∀ t, Rn.inRuns p zs t ↔ Rn.inSpans p ss t) → zs.length ≤ (ss.flatMap (Rn.foundOf p)).length → Q (.ref a) H'
def spChecked (K : W.Frag) : Sp := fun vs H Q _ => ∃ (p : Int) (q : Addr) (xs : List V) (ss : List Rn.Sp3), vs = [.int p, .ref q] ∧ 1 ≤ p ∧ p ≤ 400 ∧ SqT K H q xs ∧ Sns K H xs ss ∧ Few p ss ∧ xs.length ≤ 10000000 ∧ Told K (CR K) H p ss Q
def spTimesIn (K : W.Frag) : Sp := fun vs H Q _ => ∃ (p : Int) (q : Addr) (xs : List V) (ss : List Rn.Sp3), vs = [.int p, .ref q] ∧ 1 ≤ p ∧ p ≤ 400 ∧ SqL K H q xs ∧ Sns K H xs ss ∧ Few p ss ∧ Told K (CT K) H p ss Q
/-- the body of Times.__init__ -/
def spTBody (K : W.Frag) : Sp := fun vs H Q _ => ∃ (x dx q : Addr) (u : V), vs = [.ref x, u, .ref q] ∧ H x = some (.ins (CT K) dx []) ∧
  ((∃ (r dr l : Addr) (p : Int), u = .ref r ∧ H r = some (.ins (CR K) dr (FS p l)) ∧ ∀ H', EW.Kept x H H' → H' x = some (.ins (CT K) dx (FS p l)) → Q .non H') ∨
   (∃ (p : Int) (xs : List V) (ss : List Rn.Sp3), u = .int p ∧ 1 ≤ p ∧ p ≤ 400 ∧ SqT K H q xs ∧ Sns K H xs ss ∧ Few p ss ∧ xs.length ≤ 10000000 ∧
     ∀ (l : Addr) (H' : Hp) (zs : List Rn.Run), EW.Kept x H H' → H' x = some (.ins (CT K) dx (FS p l)) → RunsAt K H' l p zs → (∀ t, Rn.inRuns p zs t ↔ Rn.inSpans p ss t) → zs.length ≤ (ss.flatMap (Rn.foundOf p)).length → Q .non H'))
def spTInit (K : W.Frag) : Sp := fun vs H Q E => ∃ ws rest, vs = ws ++ rest ∧ ws.length = 2 ∧ rest.length ≤ sizeLine ∧ ∀ p, H p = Option.none → spTBody K (ws ++ [V.ref p]) (upd H p (.tup rest)) Q E
section
variable {P : Program} {w : World} {K : W.Frag} {mg : Str → Option Value} {base : Heap}
theorem ok_rInit {fd : FuncData} (F : FunD K "__init__" "Runs.__init__" (defArgs sRInit) (defBody sRInit) (defScope sRInit) [] [] (He.ma K (CR K) "__init__") fd) (KR : Kl K mg "Runs") :
    FnOk P w K mg base CX0 1 (He.ma K (CR K) "__init__") fd ["self", "period", "runs"] (spRInit (CR K)) := by
  refine F.ok RInit (fun vs H Q E h => ?_) (fun cdv A outer s H vs Q E hr h => ?_)
  · obtain ⟨x, dx, u, v, rfl, _⟩ := h
    rfl
  · obtain ⟨x, dx, u, v, rfl, hx, k⟩ := h
    refine ⟨_, PSs.nox (pss_cons (ps_fld (pv 0) (pv 1) rfl)
      (pss_one (ps_fld (pv 0) (pv 2) rfl))), ?_⟩
    refine ⟨_, rfl, _, rfl, x, _, dx, _, rfl, hx, KR.cl, KR.np, by decide, ?_⟩
    refine ⟨_, rfl, _, rfl, x, _, dx, _, rfl, upd_same, KR.cl, KR.nr, (by show 1 < 1000; decide), ?_⟩
    exact k _ (Kept.upd.trans Kept.upd) (by rw [upd_same]; rfl)
theorem ok_checked {fd fR : FuncData} (F : FnP K "checked" sChecked fd) (T : Fre mg) (KR : Kl K mg "Runs") (FR : FnOk P w K mg base CX0 1 (He.ma K (CR K) "__init__") fR ["self", "period", "runs"] (spRInit (CR K))) (bR : L2.Binds K fR ["self", "period", "runs"] [])
    (Drequire_period : Df P w K mg base 3 "require_period" ["period"] spReqP) (Dis_span : Df P w K mg base 3 "is_span" ["period", "value"] (spSpan K)) (Druns_in : Df P w K mg base 5 "runs_in" ["period", "spans"] (spRunsIn K)) :
    FnOk P w K mg base CX0 6 (He.ga K "checked") fd ["period", "spans"] (spChecked K) := by
  refine F.ok Checked (fun vs H Q E h => ?_) (fun cdv A outer s H vs Q E hr h => ?_)
  · obtain ⟨p, q, xs, ss, rfl, _⟩ := h
    rfl
  · obtain ⟨p, q, xs, ss, rfl, p1, p2, hS, hR, hF, hz, k⟩ := h
    have hlen := hR.length
    have hbig : (10000000 : Nat) < sizeLine := by decide
    refine ⟨_, PSs.nox (pss_cons (ps_expr (pe_df Drequire_period (hr.mono (by decide)) rfl (pa_cons (pv 0) pa_nil)))
      (pss_cons (ps_if (PW.pt (pw_or (pt_not (pt_val (pe_callB (call_isiE K rfl) (by rfl) T.isinstance EW.boot_isinstance (pa_cons (pv 1) (pa_cons (pe_bltn (v := .ty "tuple") rfl T.tuple EW.boot_tuple rfl) pa_nil))))) (pw_or1 (pt_not (pt_val (pe_callB (cr_allK K rfl rfl) (by rfl) T.all EW.boot_all (pa_cons (pe_lc (own := [("span", 2)]) (g := gName 2) (tt := tYes) (by rfl) Checked.nd (pi_tupK (K := K) rfl (pv 1)) (blkOk_by (own := [("span", 2)]) (N := NChecked) (sc := defScope sChecked) (by decide +kernel)) (fun _ _ _ _ _ => (pg_name (i := 2) Checked.nd rfl (Or.inl rfl))) (fun _ _ _ _ _ => pts_nil) (fun _ _ _ _ _ => (pe_df Dis_span (hr.mono (by decide)) rfl (pa_cons (pv 0) (pa_cons (pv 2) pa_nil))))) pa_nil))))))) (pss_one ps_never) pss_nil)
      (pss_one (ps_ret (pe_mk2 KR.mkr FR bR (hr.mono (by decide)) rfl KR.g (pa_cons (pv 0) (pa_cons (pe_df Druns_in (hr.mono (by decide)) rfl (pa_cons (pv 0) (pa_cons (pv 1) pa_nil))) pa_nil))))))), ?_⟩
    refine ⟨_, rfl, p, rfl, p1, p2, ?_⟩
    refine ⟨_, rfl, _, _, _, _, true, rfl, .ty "tuple", tyT hS, kit_ty kb4, _, rfl, iteF ?_⟩
    refine ⟨_, rfl, q, rfl, ⟨_, hS⟩, fun D hD => ?_⟩
    refine loop_tup (xs := xs) (fun i H' => H' D = some (.lst ((List.replicate i true).map V.bl)) ∧ Same H H') ⟨upd_same, upd_new hD⟩ ?_ ?_ ?_
    · rintro i H' _ ⟨_, s1⟩
      exact SqT.same hS s1
    · rintro i x H1 hx ⟨hDa, s1⟩
      obtain ⟨y, hy, Sx⟩ := pr_get hR hx
      have hi : i < xs.length := (List.getElem?_eq_some_iff.mp hx).1
      refine ⟨rfl, ?_⟩
      refine ⟨_, rfl, _, rfl, p, x, y, rfl, Tp.same Sx s1, hF.1 y (List.mem_of_getElem? hy), _, hDa, ?_, ?_, same_upd s1 hD⟩
      · rw [List.length_map, List.length_replicate]
        omega
      · rw [upd_same, List.replicate_succ', List.map_append]
        rfl
    · rintro H1 ⟨hDa, s1⟩
      refine ⟨D, _, rfl, SqL.of hDa, _, rfl, ?_⟩
      have e : (List.replicate xs.length true).all id = true := List.all_eq_true.mpr fun b hb => (List.mem_replicate.mp hb).2
      rw [e]
      refine iteF ?_
      refine ⟨_, rfl, _, rfl, _, rfl, p, q, xs, ss, rfl, p1, p2, .inr (SqT.same hS s1), Sns.same hR s1, hF.1, hF.2, fun l H2 ys zs n2 s2 e2 R2 cn hm hl => ?_⟩
      refine ⟨_, _, rfl, fun a dx H3 n3 s3 e3 => ?_⟩
      have s12 := Same.trans s1 s2
      exact k a dx l H3 zs (s12.free n3) (Same.trans s12 s3) e3 ⟨ys, SqT.same (SqT.of e2) s3, Rns.same R2 s3, cn, Nat.le_trans hl hF.2⟩ hm hl
theorem tInit_binds (kV doc pm : Value) (an : Option Addr) (cdv ct : Value) : ∀ us rest : List Value, us.length = (["self", "period"] : List Str).length → bindArgs (W.fnOf "__init__" "Times.__init__" (defArgs sTInit) (defBody sTInit) (defScope sTInit) .none kV doc pm an cdv ct) ⟨us ++ rest, []⟩ = (newTuple rest >>= fun t => pure ((["self", "period"] : List Str).zip us ++ [(("spans" : Str), t)])) :=
  StX.bind_star2 (B := fun l => bindArgs (W.fnOf "__init__" "Times.__init__" (defArgs sTInit) (defBody sTInit) (defScope sTInit) .none kV doc pm an cdv ct) ⟨l, []⟩) (fun _ _ => rfl) (fun _ _ _ _ => rfl)
theorem ok_tBody {fd : FuncData} (F : FunD K "__init__" "Times.__init__" (defArgs sTInit) (defBody sTInit) (defScope sTInit) [] [] (He.ma K (CT K) "__init__") fd) (T : Fre mg) (KR : Kl K mg "Runs") (KT : Kl K mg "Times") (I : Isi K) (Dchecked : Df P w K mg base 6 "checked" ["period", "spans"] (spChecked K)) :
    FnR P w K mg base CX0 7 (He.ma K (CT K) "__init__") (spTInit K) := by
  obtain ⟨oc, od, dV, kV, doc, pm, an, cdv, ct, osl, rfl, lk, hcd, hD, _⟩ := F.ex
  have hdV : dV = .none := by
    rcases hD with ⟨_, e⟩ | ⟨e, _⟩
    · exact e
    · exact absurd rfl e
  subst hdV
  refine StX.fn_star (ps := ["self", "period"]) (pv := "spans") lk hcd TInit StX.cxUp_none (tInit_binds kV doc pm an cdv ct) fun A outer s H vs Q E hr h => ?_
  obtain ⟨x, dx, q, u, rfl, hx, h⟩ := h
  refine ⟨_, PSs.nox (pss_cons (ps_set (i := 3) TInit.nd rfl (Or.inl rfl) (pe_ifExp (pt_val (pe_callB (call_isiE K rfl) (by rfl) T.isinstance EW.boot_isinstance (pa_cons (pv 1) (pa_cons (pe_glob (v := .ref (He.ga K "Runs")) rfl KR.g rfl) pa_nil)))) (pv 1) (pe_df Dchecked (hr.mono (by decide)) rfl (pa_cons (pv 1) (pa_cons (pv 2) pa_nil)))))
      (pss_cons (ps_fld (pv 0) (pe_fldK K rfl (pv 3)) rfl)
      (pss_one (ps_fld (pv 0) (pe_fldK K rfl (pv 3)) rfl)))), ?_⟩
  have hne : ∀ {H1 : Hp} {r dr : Addr} {fs gs : List (Str × V)}, H1 x = some (.ins (CT K) dx fs) → H1 r = some (.ins (CR K) dr gs) → gs ≠ fs → r ≠ x := fun {H1 r dr fs gs} h1 h2 n z => by
    rw [z, h1] at h2
    injection h2 with h2
    injection h2 with _ _ h2
    exact n h2.symm
  rcases h with ⟨r, dr, l, p, rfl, hr', k⟩ | ⟨p, xs, ss, rfl, p1, p2, hS, hR, hF, hz, k⟩
  · have nx : r ≠ x := hne hx hr' (by simp)
    refine ⟨_, rfl, _, _, _, _, true, rfl, .own _, KR.ty hr', I.rr, _, rfl, iteT ⟨_, rfl, ?_⟩⟩
    refine ⟨_, rfl, r, _, dr, _, _, rfl, hr', KR.cl, KR.np, rfl, _, rfl, x, _, dx, _, rfl, hx, KT.cl, KT.np, by decide, ?_⟩
    refine ⟨_, rfl, r, _, dr, _, _, rfl, (by rw [upd_ne nx]; exact hr'), KR.cl, KR.nr, rfl, _, rfl, x, _, dx, _, rfl, upd_same, KT.cl, KT.nr, (by show 1 < 1000; decide), ?_⟩
    exact k _ (Kept.upd.trans Kept.upd) (by rw [upd_same]; rfl)
  · refine ⟨_, rfl, _, _, _, _, false, rfl, .own _, .base (.int p), I.ir, _, rfl, iteF ?_⟩
    refine ⟨_, rfl, _, rfl, p, q, xs, ss, rfl, p1, p2, hS, hR, hF, hz, fun r dr l H1 zs n1 s1 e1 R1 hm hl => ?_⟩
    have hx1 := s1 _ _ hx
    have nx : r ≠ x := hne hx1 e1 (by simp)
    refine ⟨_, rfl, r, _, dr, _, _, rfl, e1, KR.cl, KR.np, rfl, _, rfl, x, _, dx, _, rfl, hx1, KT.cl, KT.np, by decide, ?_⟩
    refine ⟨_, rfl, r, _, dr, _, _, rfl, (by rw [upd_ne nx]; exact e1), KR.cl, KR.nr, rfl, _, rfl, x, _, dx, _, rfl, upd_same, KT.cl, KT.nr, (by show 1 < 1000; decide), ?_⟩
    have kk := (Kept.upd (d := x) (H := H1) (o := .ins (CT K) dx (putF "own_period" (.int p) []))).trans (Kept.upd (o := .ins (CT K) dx (putF "own_runs" (.ref l) (putF "own_period" (.int p) []))))
    exact k l _ zs (fun c o n h => kk c o n (s1 c o h)) (by rw [upd_same]; rfl) (R1.keptI hx1 kk) hm hl
end
end TM
end

section
set_option maxHeartbeats 4000000
namespace TM
open PySem PySem.Spec PyProof.Rows L2 EW
abbrev NOf : List Str := ["cls", "period", "spans"]
theorem Of : FnScope NOf ["cls", "period", "spans"] (defScope sOf) := ⟨rfl, rfl, rfl, by decide +kernel, rfl, by decide +kernel, by decide +kernel⟩
abbrev NAlike : List Str := ["one", "other"]
theorem Alike : FnScope NAlike ["one", "other"] (defScope sAlike) := ⟨rfl, rfl, rfl, by decide +kernel, rfl, by decide +kernel, by decide +kernel⟩
abbrev NCon : List Str := ["self", "value"]
theorem Con : FnScope NCon ["self", "value"] (defScope sCon) := ⟨rfl, rfl, rfl, by decide +kernel, rfl, by decide +kernel, by decide +kernel⟩
abbrev NBol : List Str := ["self"]
theorem Bol : FnScope NBol ["self"] (defScope sBol) := ⟨rfl, rfl, rfl, by decide +kernel, rfl, by decide +kernel, by decide +kernel⟩
abbrev NPeriod : List Str := ["self"]
theorem Period : FnScope NPeriod ["self"] (defScope sPeriod) := ⟨rfl, rfl, rfl, by decide +kernel, rfl, by decide +kernel, by decide +kernel⟩
abbrev NRunsP : List Str := ["self"]
theorem RunsP : FnScope NRunsP ["self"] (defScope sRunsP) := ⟨rfl, rfl, rfl, by decide +kernel, rfl, by decide +kernel, by decide +kernel⟩
section
variable {P : Program} {w : World} {K : W.Frag} {mg : Str → Option Value} {base : Heap}
/-- a set of times of runs that were reckoned -/
theorem tInit_runs {H1 : Hp} {x dx r dr l : Addr} {p : Int} {Q : VK} (hr : H1 r = some (.ins (CR K) dr (FS p l))) (nx : H1 x = none) (ndx : H1 dx = none) (ne : dx ≠ x) (k : ∀ H', Same H1 H' → H' x = some (.ins (CT K) dx (FS p l)) → Q (.ref x) H') :
    spTInit K [.ref x, .ref r] (upd (upd H1 dx (.own x)) x (.ins (CT K) dx [])) (fun v H2 => v = .non ∧ Q (.ref x) H2) E0 := by
  refine ⟨[.ref x, .ref r], [], rfl, rfl, Nat.zero_le _, fun q hq => ?_⟩
  have nqx : x ≠ q := fun z => by rw [← z, upd_same] at hq; cases hq
  have nq : ∀ {c : Addr} {o : HO}, H1 c = some o → c ≠ q ∧ c ≠ x ∧ c ≠ dx := fun {c o} h => by
    have h1 : c ≠ x := fun z => by rw [z, nx] at h; cases h
    have h2 : c ≠ dx := fun z => by rw [z, ndx] at h; cases h
    refine ⟨fun z => ?_, h1, h2⟩
    rw [← z, upd_ne h1, upd_ne h2, h] at hq
    cases hq
  have at_ : ∀ {c : Addr} {o : HO}, H1 c = some o → (upd (upd (upd H1 dx (.own x)) x (.ins (CT K) dx [])) q (.tup [])) c = some o := fun {c o} h => by
    obtain ⟨h0, h1, h2⟩ := nq h
    rw [upd_ne h0, upd_ne h1, upd_ne h2]
    exact h
  refine ⟨x, dx, q, .ref r, rfl, by rw [upd_ne nqx, upd_same], .inl ⟨r, dr, l, p, rfl, at_ hr, fun H' kp e => ⟨rfl, k H' (fun c o h => kp c o (nq h).2.1 (at_ h)) e⟩⟩⟩
/-- .. of spans -/
theorem tInit_spans {H1 : Hp} {x dx : Addr} {p : Int} {xs : List V} {ss : List Rn.Sp3} {Q : VK} (p1 : 1 ≤ p) (p2 : p ≤ 400) (hR : Sns K H1 xs ss) (hF : Few p ss) (hz : xs.length ≤ 10000000) (nx : H1 x = none) (ndx : H1 dx = none) (ne : dx ≠ x)
    (k : ∀ (l : Addr) (H' : Hp) (zs : List Rn.Run), Same H1 H' → H' x = some (.ins (CT K) dx (FS p l)) → RunsAt K H' l p zs → (∀ t, Rn.inRuns p zs t ↔ Rn.inSpans p ss t) → zs.length ≤ (ss.flatMap (Rn.foundOf p)).length → Q (.ref x) H') :
    spTInit K (.ref x :: .int p :: xs) (upd (upd H1 dx (.own x)) x (.ins (CT K) dx [])) (fun v H2 => v = .non ∧ Q (.ref x) H2) E0 := by
  have hbig : (10000000 : Nat) < sizeLine := by decide
  refine ⟨[.ref x, .int p], xs, rfl, rfl, by omega, fun q hq => ?_⟩
  have nqx : x ≠ q := fun z => by rw [← z, upd_same] at hq; cases hq
  have nq : ∀ {c : Addr} {o : HO}, H1 c = some o → c ≠ q ∧ c ≠ x ∧ c ≠ dx := fun {c o} h => by
    have h1 : c ≠ x := fun z => by rw [z, nx] at h; cases h
    have h2 : c ≠ dx := fun z => by rw [z, ndx] at h; cases h
    refine ⟨fun z => ?_, h1, h2⟩
    rw [← z, upd_ne h1, upd_ne h2, h] at hq
    cases hq
  have at_ : Same H1 (upd (upd (upd H1 dx (.own x)) x (.ins (CT K) dx [])) q (.tup xs)) := fun c o h => by
    obtain ⟨h0, h1, h2⟩ := nq h
    rw [upd_ne h0, upd_ne h1, upd_ne h2]
    exact h
  refine ⟨x, dx, q, .int p, rfl, by rw [upd_ne nqx, upd_same], .inr ⟨p, xs, ss, rfl, p1, p2, SqT.of upd_same, Sns.same hR at_, hF, hz, fun l H' zs kp e R hm hl => ⟨rfl, k l H' zs (fun c o h => kp c o (nq h).2.1 (at_ c o h)) e R hm hl⟩⟩⟩
theorem ok_timesIn {fd fR : FuncData} (F : FnP K "times_in_spans" sTimesIn fd) (KR : Kl K mg "Runs") (KT : Kl K mg "Times") (FR : FnOk P w K mg base CX0 1 (He.ma K (CR K) "__init__") fR ["self", "period", "runs"] (spRInit (CR K))) (bR : L2.Binds K fR ["self", "period", "runs"] [])
    (FT : FnR P w K mg base CX0 7 (He.ma K (CT K) "__init__") (spTInit K)) (Druns_in : Df P w K mg base 5 "runs_in" ["period", "spans"] (spRunsIn K)) : FnOk P w K mg base CX0 9 (He.ga K "times_in_spans") fd ["period", "spans"] (spTimesIn K) := by
  refine F.ok TimesIn (fun vs H Q E h => ?_) (fun cdv A outer s H vs Q E hr h => ?_)
  · obtain ⟨p, q, xs, ss, rfl, _⟩ := h
    rfl
  · obtain ⟨p, q, xs, ss, rfl, p1, p2, hS, hR, hF, k⟩ := h
    refine ⟨_, PSs.nox (pss_one (ps_ret (StX.pe_makeR KT.mkr FT (hr.mono (by decide)) rfl KT.g pass0 (pa_cons (pe_mk2 KR.mkr FR bR (hr.mono (by decide)) rfl KR.g (pa_cons (pv 0) (pa_cons (pe_df Druns_in (hr.mono (by decide)) rfl (pa_cons (pv 0) (pa_cons (pv 1) pa_nil))) pa_nil))) pa_nil)))), ?_⟩
    refine ⟨_, rfl, _, rfl, _, rfl, p, q, xs, ss, rfl, p1, p2, .inl hS, hR, hF.1, hF.2, fun l H2 ys zs n2 s2 e2 R2 cn hm hl => ?_⟩
    refine ⟨_, _, rfl, fun r dr H3 n3 s3 e3 => ?_⟩
    intro x dx nx ndx ne
    have s23 := Same.trans s2 s3
    refine tInit_runs e3 nx ndx ne fun H4 s4 e4 => ?_
    have s34 := Same.trans s3 s4
    exact k x dx l H4 zs (s23.free nx) (Same.trans s23 s4) e4 ⟨ys, SqT.same (SqT.of e2) s34, Rns.same R2 s34, cn, Nat.le_trans hl hF.2⟩ hm hl
/-- Times.of(period, spans) -/
def spOf (K : W.Frag) : Sp := fun vs H Q _ => ∃ (p : Int) (q : Addr) (xs : List V) (ss : List Rn.Sp3), vs = [.ref (CT K), .int p, .ref q] ∧ 1 ≤ p ∧ p ≤ 400 ∧ SqT K H q xs ∧ Sns K H xs ss ∧ Few p ss ∧ xs.length ≤ 10000000 ∧ Told K (CT K) H p ss Q
theorem ok_of {f : Addr} {fd : FuncData} (F : FunD K "of" "Times.of" (defArgs sOf) (defBody sOf) (defScope sOf) [] [] f fd) (KT : Kl K mg "Times") (FT : FnR P w K mg base CX0 7 (He.ma K (CT K) "__init__") (spTInit K)) (Dchecked : Df P w K mg base 6 "checked" ["period", "spans"] (spChecked K)) :
    FnOk P w K mg base CX0 9 f fd ["cls", "period", "spans"] (spOf K) := by
  refine F.ok Of (fun vs H Q E h => ?_) (fun cdv A outer s H vs Q E hr h => ?_)
  · obtain ⟨p, q, xs, ss, rfl, _⟩ := h
    rfl
  · obtain ⟨p, q, xs, ss, rfl, p1, p2, hS, hR, hF, hz, k⟩ := h
    refine ⟨_, PSs.nox (pss_one (ps_ret (pe_makeL (i := 0) KT.mkr FT (hr.mono (by decide)) rfl (Or.inl rfl) pass0 (pa_cons (pe_df Dchecked (hr.mono (by decide)) rfl (pa_cons (pv 1) (pa_cons (pv 2) pa_nil))) pa_nil)))), ?_⟩
    refine ⟨rfl, _, rfl, _, rfl, p, q, xs, ss, rfl, p1, p2, hS, hR, hF, hz, fun r dr l H1 zs n1 s1 e1 R1 hm hl => ?_⟩
    intro x dx nx ndx ne
    refine tInit_runs e1 nx ndx ne fun H4 s4 e4 => ?_
    exact k x dx l H4 zs (s1.free nx) (Same.trans s1 s4) e4 (R1.same s4) hm hl
/-- Times.every(period, residue, since=.., until=..) -/
def spEvery (K : W.Frag) : Sp := fun vs H Q _ => ∃ (p : Int) (r lo hi : Option Int), vs = [.ref (CT K), .int p, ob r, ob lo, ob hi] ∧ 1 ≤ p ∧ p ≤ 400 ∧ Rn.SpOk p ⟨r, lo, hi⟩ ∧ Told K (CT K) H p [⟨r, lo, hi⟩] Q
theorem few_one {p : Int} {s : Rn.Sp3} (p1 : 1 ≤ p) (p2 : p ≤ 400) (ok : Rn.SpOk p s) : Few p [s] := by
  refine ⟨fun z hz => ?_, ?_⟩
  · rw [List.mem_singleton] at hz
    rw [hz]
    exact ok
  · rw [List.flatMap_cons, List.flatMap_nil, List.append_nil]
    refine Nat.le_trans (List.length_filterMap_le _ _) ?_
    unfold Rn.residues
    split
    · simp
      omega
    · simp
def spAlike (K : W.Frag) : Sp := fun vs H Q _ => ∃ (u v : V) (p : Int) (zs ws : List Rn.Run), vs = [u, v] ∧ Ob K (CT K) H u p zs ∧ Ob K (CT K) H v p ws ∧ Q .non H
theorem ok_alike {fd : FuncData} (F : FnP K "require_alike" sAlike fd) (T : Fre mg) (KT : Kl K mg "Times") (I : Isi K) : FnOk P w K mg base CX0 1 (He.ga K "require_alike") fd ["one", "other"] (spAlike K) := by
  refine F.ok Alike (fun vs H Q E h => ?_) (fun cdv A outer s H vs Q E hr h => ?_)
  · obtain ⟨u, v, p, zs, ws, rfl, _⟩ := h
    rfl
  · obtain ⟨u, v, p, zs, ws, rfl, ⟨a, da, la, rfl, ha, _⟩, ⟨b, db, lb, rfl, hb, _⟩, k⟩ := h
    refine ⟨_, PSs.nox (pss_one (ps_if (PW.pt (pw_or (pt_not (pt_val (pe_callB (call_isiE K rfl) (by rfl) T.isinstance EW.boot_isinstance (pa_cons (pv 1) (pa_cons (pe_glob (v := .ref (He.ga K "Times")) rfl KT.g rfl) pa_nil))))) (pw_or1 (pt_cmpR op_ne (pe_fldK K rfl (pv 0)) (pe_fldK K rfl (pv 1)) (nomark _))))) (pss_one ps_never) pss_nil)), ?_⟩
    refine ⟨_, rfl, _, _, _, _, true, rfl, .own _, KT.ty hb, I.tt, _, rfl, iteF ?_⟩
    refine ⟨_, rfl, a, _, da, _, _, rfl, ha, KT.cl, KT.np, rfl, _, rfl, b, _, db, _, _, rfl, hb, KT.cl, KT.np, rfl, rfl, _, rfl, ?_⟩
    exact iteC (by simp) k
def spCon (K : W.Frag) : Sp := fun vs H Q _ => ∃ (u : V) (p t : Int) (zs : List Rn.Run), vs = [u, .int t] ∧ Ob K (CT K) H u p zs ∧ ∀ (b : Bool) (H' : Hp), (b = true ↔ Rn.inRuns p zs t) → Same H H' → Q (.bl b) H'
theorem ok_con {fd : FuncData} (F : FunD K "__contains__" "Times.__contains__" (defArgs sCon) (defBody sCon) (defScope sCon) [] [] (He.ma K (CT K) "__contains__") fd) (KT : Kl K mg "Times") (Dis_integer : Df P w K mg base 1 "is_integer" ["value"] (spIsInt K)) (Dis_member : Df P w K mg base 1 "is_member" ["period", "runs", "time"] (spMember K)) :
    FnOk P w K mg base CX0 2 (He.ma K (CT K) "__contains__") fd ["self", "value"] (spCon K) := by
  refine F.ok Con (fun vs H Q E h => ?_) (fun cdv A outer s H vs Q E hr h => ?_)
  · obtain ⟨u, p, t, zs, rfl, _⟩ := h
    rfl
  · obtain ⟨u, p, t, zs, rfl, ⟨a, da, la, rfl, ha, ⟨ys, hy, Ry, cn, hl⟩, p1, p2⟩, k⟩ := h
    refine ⟨_, PSs.nox (pss_one (ps_ret (pe_and (pe_df Dis_integer (hr.mono (by decide)) rfl (pa_cons (pv 1) pa_nil)) (pe_one (pe_df Dis_member (hr.mono (by decide)) rfl (pa_cons (pe_fldK K rfl (pv 0)) (pa_cons (pe_fldK K rfl (pv 0)) (pa_cons (pv 1) pa_nil)))))))), ?_⟩
    refine ⟨_, rfl, _, _, true, false, rfl, .base (.int t), kit_ty kb1, (fun _ => kit_ty kb2), _, rfl, iteT ?_⟩
    refine ⟨_, rfl, a, _, da, _, _, rfl, ha, KT.cl, KT.np, rfl, _, rfl, a, _, da, _, _, rfl, ha, KT.cl, KT.nr, rfl, _, rfl, p, t, la, ys, zs, rfl, by omega, hy, Ry, by rw [Ry.length]; exact hl, k⟩
def spBool (K : W.Frag) : Sp := fun vs H Q _ => ∃ (u : V) (p : Int) (zs : List Rn.Run), vs = [u] ∧ Ob K (CT K) H u p zs ∧ Q (.bl (!zs.isEmpty)) H
theorem ok_bool {fd : FuncData} (F : FunD K "__bool__" "Times.__bool__" (defArgs sBol) (defBody sBol) (defScope sBol) [] [] (He.ma K (CT K) "__bool__") fd) (T : Fre mg) (KT : Kl K mg "Times") :
    FnOk P w K mg base CX0 1 (He.ma K (CT K) "__bool__") fd ["self"] (spBool K) := by
  refine F.ok Bol (fun vs H Q E h => ?_) (fun cdv A outer s H vs Q E hr h => ?_)
  · obtain ⟨u, p, zs, rfl, _⟩ := h
    rfl
  · obtain ⟨u, p, zs, rfl, ⟨a, da, la, rfl, ha, ⟨ys, hy, Ry, cn, hl⟩, p1, p2⟩, k⟩ := h
    refine ⟨_, PSs.nox (pss_one (ps_ret (pe_callTy call_boolT (by rfl) T.bool EW.boot_bool (pa_cons (pe_fldK K rfl (pv 0)) pa_nil)))), ?_⟩
    refine ⟨_, rfl, a, _, da, _, _, rfl, ha, KT.cl, KT.nr, rfl, la, ys, rfl, hy, ?_⟩
    have e : ys.isEmpty = zs.isEmpty := by
      cases Ry with
      | nil => rfl
      | cons _ _ => rfl
    rw [e]
    exact k
def spPeriod (K : W.Frag) : Sp := fun vs H Q _ => ∃ (u : V) (p : Int) (zs : List Rn.Run), vs = [u] ∧ Ob K (CT K) H u p zs ∧ Q (.int p) H
theorem ok_period {f : Addr} {fd : FuncData} (F : FunD K "period" "Times.period" (defArgs sPeriod) (defBody sPeriod) (defScope sPeriod) [] [] f fd) (KT : Kl K mg "Times") : FnOk P w K mg base CX0 1 f fd ["self"] (spPeriod K) := by
  refine F.ok Period (fun vs H Q E h => ?_) (fun cdv A outer s H vs Q E hr h => ?_)
  · obtain ⟨u, p, zs, rfl, _⟩ := h
    rfl
  · obtain ⟨u, p, zs, rfl, ⟨a, da, la, rfl, ha, _⟩, k⟩ := h
    exact ⟨_, PSs.nox (pss_one (ps_ret (pe_fldK K rfl (pv 0)))), _, rfl, a, _, da, _, _, rfl, ha, KT.cl, KT.np, rfl, k⟩
def spRunsP (K : W.Frag) : Sp := fun vs H Q _ => ∃ (u : V) (p : Int) (zs : List Rn.Run), vs = [u] ∧ Ob K (CT K) H u p zs ∧ ∀ l, RunsAt K H l p zs → Q (.ref l) H
theorem ok_runsP {f : Addr} {fd : FuncData} (F : FunD K "runs" "Times.runs" (defArgs sRunsP) (defBody sRunsP) (defScope sRunsP) [] [] f fd) (KT : Kl K mg "Times") : FnOk P w K mg base CX0 1 f fd ["self"] (spRunsP K) := by
  refine F.ok RunsP (fun vs H Q E h => ?_) (fun cdv A outer s H vs Q E hr h => ?_)
  · obtain ⟨u, p, zs, rfl, _⟩ := h
    rfl
  · obtain ⟨u, p, zs, rfl, ⟨a, da, la, rfl, ha, hR, _⟩, k⟩ := h
    exact ⟨_, PSs.nox (pss_one (ps_ret (pe_fldK K rfl (pv 0)))), _, rfl, a, _, da, _, _, rfl, ha, KT.cl, KT.nr, rfl, k la hR⟩
end
end TM
end

section

namespace Rn
variable {p : Int}
theorem spans_runs {zs : List Run} {t : Int} : inSpans p (zs.map Run.span) t ↔ inRuns p zs t := by
  constructor
  · rintro ⟨s, hs, h1, h2, h3⟩
    obtain ⟨z, hz, rfl⟩ := List.mem_map.mp hs
    exact ⟨z, hz, h1 _ rfl, h2, h3⟩
  · rintro ⟨z, hz, h1, h2, h3⟩
    exact ⟨z.span, List.mem_map.mpr ⟨z, hz, rfl⟩, fun r e => by cases e; exact h1, h2, h3⟩
theorem spans_append {as bs : List Sp3} {t : Int} : inSpans p (as ++ bs) t ↔ inSpans p as t ∨ inSpans p bs t := by
  constructor
  · rintro ⟨s, hs, m⟩
    rcases List.mem_append.mp hs with hs | hs
    · exact .inl ⟨s, hs, m⟩
    · exact .inr ⟨s, hs, m⟩
  · rintro (⟨s, hs, m⟩ | ⟨s, hs, m⟩)
    · exact ⟨s, List.mem_append_left _ hs, m⟩
    · exact ⟨s, List.mem_append_right _ hs, m⟩
/-- spans with a residue make at most one run each -/
theorem found_le : ∀ {ss : List Sp3}, (∀ s ∈ ss, ∃ r, s.res = some r) → (ss.flatMap (foundOf p)).length ≤ ss.length
  | [], _ => Nat.zero_le _
  | s :: ss, h => by
    have h1 := found_le (ss := ss) fun s' hs' => h s' (List.mem_cons_of_mem _ hs')
    obtain ⟨r, hr⟩ := h s List.mem_cons_self
    have h2 : (foundOf p s).length ≤ 1 := by
      refine Nat.le_trans (List.length_filterMap_le _ _) ?_
      unfold residues
      rw [hr]
      exact Nat.le_refl _
    rw [List.flatMap_cons, List.length_append, List.length_cons]
    omega
theorem runs_res {zs : List Run} : ∀ s ∈ zs.map Run.span, ∃ r, s.res = some r := fun s hs => by
  obtain ⟨z, _, rfl⟩ := List.mem_map.mp hs
  exact ⟨z.r, rfl⟩
theorem runs_spok {zs : List Run} (h : ∀ z ∈ zs, Good p z) : ∀ s ∈ zs.map Run.span, SpOk p s := fun s hs => by
  obtain ⟨z, hz, rfl⟩ := List.mem_map.mp hs
  intro r e
  cases e
  exact ⟨(h z hz).r0, (h z hz).r1⟩
/-- the spans outside, residue by residue -/
def outAll (p : Int) (n : Nat) (zs : List Run) : List Sp3 := (List.range n).flatMap fun (k : Nat) => outs p (k : Int) none (zs.filter fun z => decide (z.r = (k : Int)))
theorem outAll_res {n : Nat} {zs : List Run} : ∀ s ∈ outAll p n zs, ∃ k : Nat, k < n ∧ s.res = some (k : Int) := fun s hs => by
  obtain ⟨k, hk, hs⟩ := List.mem_flatMap.mp hs
  exact ⟨k, List.mem_range.mp hk, outs_res s hs⟩
theorem outAll_succ {n : Nat} {zs : List Run} : outAll p (n + 1) zs = outAll p n zs ++ outs p (n : Int) none (zs.filter fun z => decide (z.r = (n : Int))) := by
  unfold outAll
  rw [List.range_succ, List.flatMap_append, List.flatMap_cons, List.flatMap_nil, List.append_nil]
theorem canon_filter {zs : List Run} (c : Canon p zs) (f : Run → Bool) : Canon p (zs.filter f) := ⟨fun z hz => c.good z (List.mem_filter.mp hz).1, List.Pairwise.sublist List.filter_sublist c.pw⟩
theorem outAll_len : ∀ {n : Nat} {zs : List Run}, (outAll p n zs).length ≤ (zs.filter fun z => decide (z.r < (n : Int) ∧ 0 ≤ z.r)).length + n
  | 0, zs => Nat.zero_le _
  | n + 1, zs => by
    have ih := outAll_len (n := n) (zs := zs)
    have h1 := outs_len (p := p) (r := (n : Int)) (xs := zs.filter fun z => decide (z.r = (n : Int))) (b := none)
    have h2 : (zs.filter fun z => decide (z.r < (n : Int) ∧ 0 ≤ z.r)).length + (zs.filter fun z => decide (z.r = (n : Int))).length ≤ (zs.filter fun z => decide (z.r < ((n + 1 : Nat) : Int) ∧ 0 ≤ z.r)).length := by
      clear ih h1
      induction zs with
      | nil => exact Nat.le_refl _
      | cons z zs ih =>
        simp only [List.filter_cons]
        by_cases c1 : z.r < (n : Int) ∧ 0 ≤ z.r
        · have c2 : ¬ z.r = (n : Int) := by omega
          have c3 : z.r < ((n + 1 : Nat) : Int) ∧ 0 ≤ z.r := by omega
          rw [if_pos (decide_eq_true c1), if_neg (by simpa using c2), if_pos (decide_eq_true c3)]
          simp only [List.length_cons]
          omega
        · by_cases c2 : z.r = (n : Int)
          · have c3 : z.r < ((n + 1 : Nat) : Int) ∧ 0 ≤ z.r := by omega
            rw [if_neg (by simpa using c1), if_pos (decide_eq_true c2), if_pos (decide_eq_true c3)]
            simp only [List.length_cons]
            omega
          · have c3 : ¬ (z.r < ((n + 1 : Nat) : Int) ∧ 0 ≤ z.r) := by omega
            rw [if_neg (by simpa using c1), if_neg (by simpa using c2), if_neg (by simpa using c3)]
            exact ih
    rw [outAll_succ, List.length_append]
    omega
theorem outAll_len' {n : Nat} {zs : List Run} : (outAll p n zs).length ≤ zs.length + n := Nat.le_trans outAll_len (Nat.add_le_add_right (List.length_filter_le _ _) _)
theorem outAll_mem (hp : 0 < p) {zs : List Run} (c : Canon p zs) (t : Int) : inSpans p (outAll p p.toNat zs) t ↔ ¬ inRuns p zs t := by
  have m0 := Int.emod_nonneg t (Int.ne_of_gt hp)
  have m1 := Int.emod_lt_of_pos t hp
  obtain ⟨k, hk⟩ : ∃ k : Nat, t % p = (k : Int) := ⟨(t % p).toNat, by omega⟩
  have hkn : k < p.toNat := by omega
  have key := outs_mem (p := p) (r := (k : Int)) hp (by omega) (by omega) (b := none) (canon_filter c fun z => decide (z.r = (k : Int))) (fun x hx => of_decide_eq_true (List.mem_filter.mp hx).2) (fun d e => by cases e) t hk
  have g0 : geLo none t := fun _ e => nomatch e
  have fl : inRuns p (zs.filter fun z => decide (z.r = (k : Int))) t ↔ inRuns p zs t := by
    constructor
    · rintro ⟨z, hz, m⟩
      exact ⟨z, (List.mem_filter.mp hz).1, m⟩
    · rintro ⟨z, hz, m⟩
      exact ⟨z, List.mem_filter.mpr ⟨hz, decide_eq_true (m.1.symm.trans hk)⟩, m⟩
  rw [fl] at key
  constructor
  · rintro ⟨s, hs, m⟩
    obtain ⟨j, hj, hs⟩ := List.mem_flatMap.mp hs
    have e := outs_res s hs
    have e2 := m.1 _ e
    have ejk : j = k := by omega
    subst ejk
    exact (key.mp ⟨s, hs, m⟩).2
  · intro h
    obtain ⟨s, hs, m⟩ := key.mpr ⟨g0, h⟩
    exact ⟨s, List.mem_flatMap.mpr ⟨k, List.mem_range.mpr hkn, hs⟩, m⟩
end Rn
end

section
set_option maxHeartbeats 4000000
namespace TM
open PySem PySem.Spec PyProof.Rows L2 EW
abbrev NOrM : List Str := ["self", "other"]
theorem OrM : FnScope NOrM ["self", "other"] (defScope sOrM) := ⟨rfl, rfl, rfl, by decide +kernel, rfl, by decide +kernel, by decide +kernel⟩
abbrev NAndM : List Str := ["self", "other"]
theorem AndM : FnScope NAndM ["self", "other"] (defScope sAndM) := ⟨rfl, rfl, rfl, by decide +kernel, rfl, by decide +kernel, by decide +kernel⟩
abbrev NInvM : List Str := ["self", "spans", "groups", "residue"]
theorem InvM : FnScope NInvM ["self"] (defScope sInvM) := ⟨rfl, rfl, rfl, by decide +kernel, rfl, by decide +kernel, by decide +kernel⟩
abbrev NSubM : List Str := ["self", "other"]
theorem SubM : FnScope NSubM ["self", "other"] (defScope sSubM) := ⟨rfl, rfl, rfl, by decide +kernel, rfl, by decide +kernel, by decide +kernel⟩
abbrev NEqM : List Str := ["self", "other"]
theorem EqM : FnScope NEqM ["self", "other"] (defScope sEqM) := ⟨rfl, rfl, rfl, by decide +kernel, rfl, by decide +kernel, by decide +kernel⟩
/-- a new set of times: members M, at most n runs -/
def Made (K : W.Frag) (H : Hp) (p : Int) (M : Int → Prop) (n : Nat) (Q : VK) : Prop := ∀ (v : V) (H' : Hp) (zs : List Rn.Run), Same H H' → Ob K (CT K) H' v p zs → (∀ t, Rn.inRuns p zs t ↔ M t) → zs.length ≤ n → Q v H'
theorem Made.told {K : W.Frag} {H H1 : Hp} {p : Int} {M : Int → Prop} {n : Nat} {Q : VK} {ss : List Rn.Sp3} (h : Made K H p M n Q) (s : Same H H1) (p1 : 1 ≤ p) (p2 : p ≤ 400) (hm : ∀ t, Rn.inSpans p ss t ↔ M t) (hn : (ss.flatMap (Rn.foundOf p)).length ≤ n) : Told K (CT K) H1 p ss Q :=
  fun a dx l H' zs _ s' e R m hl => h _ H' zs (Same.trans s s') ⟨a, dx, l, rfl, e, R, p1, p2⟩ (fun t => (m t).trans (hm t)) (Nat.le_trans hl hn)
def spOr (K : W.Frag) : Sp := fun vs H Q _ => ∃ (u v : V) (p : Int) (zs ws : List Rn.Run), vs = [u, v] ∧ Ob K (CT K) H u p zs ∧ Ob K (CT K) H v p ws ∧ zs.length + ws.length ≤ 10000000 ∧ Made K H p (fun t => Rn.inRuns p zs t ∨ Rn.inRuns p ws t) (zs.length + ws.length) Q
def spAnd (K : W.Frag) : Sp := fun vs H Q _ => ∃ (u v : V) (p : Int) (zs ws : List Rn.Run), vs = [u, v] ∧ Ob K (CT K) H u p zs ∧ Ob K (CT K) H v p ws ∧ zs.length * ws.length ≤ 10000000 ∧ Made K H p (fun t => Rn.inRuns p zs t ∧ Rn.inRuns p ws t) (zs.length * ws.length) Q
def spInv (K : W.Frag) : Sp := fun vs H Q _ => ∃ (u : V) (p : Int) (zs : List Rn.Run), vs = [u] ∧ Ob K (CT K) H u p zs ∧ zs.length + 400 ≤ 10000000 ∧ Made K H p (fun t => ¬ Rn.inRuns p zs t) (zs.length + p.toNat) Q
def spSub (K : W.Frag) : Sp := fun vs H Q _ => ∃ (u v : V) (p : Int) (zs ws : List Rn.Run), vs = [u, v] ∧ Ob K (CT K) H u p zs ∧ Ob K (CT K) H v p ws ∧ ws.length + 400 ≤ 10000000 ∧ zs.length * (ws.length + p.toNat) ≤ 10000000 ∧ Made K H p (fun t => Rn.inRuns p zs t ∧ ¬ Rn.inRuns p ws t) (zs.length * (ws.length + p.toNat)) Q
section
variable {P : Program} {w : World} {K : W.Frag} {mg : Str → Option Value} {base : Heap}
theorem ok_or {fd : FuncData} (F : FunD K "__or__" "Times.__or__" (defArgs sOrM) (defBody sOrM) (defScope sOrM) [] [] (He.ma K (CT K) "__or__") fd) (KT : Kl K mg "Times") (Drequire_alike : Df P w K mg base 1 "require_alike" ["one", "other"] (spAlike K)) (Dtimes_in_spans : Df P w K mg base 9 "times_in_spans" ["period", "spans"] (spTimesIn K)) :
    FnOk P w K mg base CX0 10 (He.ma K (CT K) "__or__") fd ["self", "other"] (spOr K) := by
  refine F.ok OrM (fun vs H Q E h => ?_) (fun cdv A outer s H vs Q E hr h => ?_)
  · obtain ⟨u, v, p, zs, ws, rfl, _⟩ := h
    rfl
  · obtain ⟨u, v, p, zs, ws, rfl, Ou, Ov, hz, k⟩ := h
    refine ⟨_, PSs.nox (pss_cons (ps_expr (pe_df Drequire_alike (hr.mono (by decide)) rfl (pa_cons (pv 0) (pa_cons (pv 1) pa_nil))))
      (pss_one (ps_ret (pe_df Dtimes_in_spans (hr.mono (by decide)) rfl (pa_cons (pe_fldK K rfl (pv 0)) (pa_cons (pe_lstS (StX.pa_star (pe_fldK K rfl (pv 0)) (StX.pa_star (pe_fldK K rfl (pv 1)) pa_nil))) pa_nil)))))), ?_⟩
    refine ⟨_, rfl, _, rfl, _, _, p, zs, ws, rfl, Ou, Ov, ?_⟩
    obtain ⟨a, da, la, rfl, ha, ⟨ya, hya, Ra, ca, na⟩, p1, p2⟩ := Ou
    obtain ⟨b, db, lb, rfl, hb, ⟨yb, hyb, Rb, cb, nb⟩, _, _⟩ := Ov
    have hbig : (10000000 : Nat) < sizeLine := by decide
    have l1 := Ra.length
    have l2 := Rb.length
    refine ⟨_, rfl, a, _, da, _, _, rfl, ha, KT.cl, KT.np, rfl, _, rfl, a, _, da, _, _, rfl, ha, KT.cl, KT.nr, rfl, la, ya, rfl, .inl hya, _, rfl, b, _, db, _, _, rfl, hb, KT.cl, KT.nr, rfl, lb, yb, rfl, .inl hyb, ?_, fun q H1 n1 s1 e1 => ?_⟩
    · rw [List.append_nil, List.length_append]
      omega
    rw [List.append_nil] at e1
    have hle : ((zs.map Rn.Run.span ++ ws.map Rn.Run.span).flatMap (Rn.foundOf p)).length ≤ zs.length + ws.length := by
      refine Nat.le_trans (Rn.found_le fun s hs => ?_) (by rw [List.length_append, List.length_map, List.length_map]; exact Nat.le_refl _)
      rcases List.mem_append.mp hs with hs | hs
      · exact Rn.runs_res s hs
      · exact Rn.runs_res s hs
    refine ⟨p, q, _, _, rfl, p1, p2, SqL.of e1, Sns.same (pr_append (Rns.spans Ra) (Rns.spans Rb)) s1, ⟨fun s hs => ?_, by omega⟩, k.told s1 p1 p2 (fun t => ?_) hle⟩
    · rcases List.mem_append.mp hs with hs | hs
      · exact Rn.runs_spok ca.good s hs
      · exact Rn.runs_spok cb.good s hs
    · rw [Rn.spans_append, Rn.spans_runs, Rn.spans_runs]
theorem ok_and {fd : FuncData} (F : FunD K "__and__" "Times.__and__" (defArgs sAndM) (defBody sAndM) (defScope sAndM) [] [] (He.ma K (CT K) "__and__") fd) (KT : Kl K mg "Times") (Drequire_alike : Df P w K mg base 1 "require_alike" ["one", "other"] (spAlike K)) (Dtimes_in_spans : Df P w K mg base 9 "times_in_spans" ["period", "spans"] (spTimesIn K)) (Dcommon_runs : Df P w K mg base 3 "common_runs" ["period", "one", "other"] (spCommon K)) :
    FnOk P w K mg base CX0 10 (He.ma K (CT K) "__and__") fd ["self", "other"] (spAnd K) := by
  refine F.ok AndM (fun vs H Q E h => ?_) (fun cdv A outer s H vs Q E hr h => ?_)
  · obtain ⟨u, v, p, zs, ws, rfl, _⟩ := h
    rfl
  · obtain ⟨u, v, p, zs, ws, rfl, Ou, Ov, hz, k⟩ := h
    refine ⟨_, PSs.nox (pss_cons (ps_expr (pe_df Drequire_alike (hr.mono (by decide)) rfl (pa_cons (pv 0) (pa_cons (pv 1) pa_nil))))
      (pss_one (ps_ret (pe_df Dtimes_in_spans (hr.mono (by decide)) rfl (pa_cons (pe_fldK K rfl (pv 0)) (pa_cons (pe_df Dcommon_runs (hr.mono (by decide)) rfl (pa_cons (pe_fldK K rfl (pv 0)) (pa_cons (pe_fldK K rfl (pv 0)) (pa_cons (pe_fldK K rfl (pv 1)) pa_nil)))) pa_nil)))))), ?_⟩
    refine ⟨_, rfl, _, rfl, _, _, p, zs, ws, rfl, Ou, Ov, ?_⟩
    obtain ⟨a, da, la, rfl, ha, ⟨ya, hya, Ra, ca, na⟩, p1, p2⟩ := Ou
    obtain ⟨b, db, lb, rfl, hb, ⟨yb, hyb, Rb, cb, nb⟩, _, _⟩ := Ov
    have l2 := Rb.length
    obtain ⟨cg, cm⟩ := common_ok (p := p) (zs := zs) (ws := ws) ca.good
    have cl := common_len (p := p) (ws := ws) zs
    refine ⟨_, rfl, a, _, da, _, _, rfl, ha, KT.cl, KT.np, rfl, _, rfl, a, _, da, _, _, rfl, ha, KT.cl, KT.np, rfl, _, rfl, a, _, da, _, _, rfl, ha, KT.cl, KT.nr, rfl, _, rfl, b, _, db, _, _, rfl, hb, KT.cl, KT.nr, rfl, p, la, lb, ya, yb, zs, ws, rfl, by omega, hya, Ra, hyb, Rb, by omega, hz, fun l H1 vs n1 s1 e1 R1 => ?_⟩
    have hle : (((common p zs ws).map Rn.Run.span).flatMap (Rn.foundOf p)).length ≤ zs.length * ws.length := by
      refine Nat.le_trans (Rn.found_le Rn.runs_res) ?_
      rw [List.length_map]
      exact cl
    refine ⟨p, l, _, _, rfl, p1, p2, SqL.of e1, Rns.spans R1, ⟨Rn.runs_spok cg, by omega⟩, k.told s1 p1 p2 (fun t => ?_) hle⟩
    rw [Rn.spans_runs]
    exact cm t
theorem ok_inv {fd : FuncData} (F : FunD K "__invert__" "Times.__invert__" (defArgs sInvM) (defBody sInvM) (defScope sInvM) [] [] (He.ma K (CT K) "__invert__") fd) (T : Fre mg) (KT : Kl K mg "Times") (Dgrouped : Df P w K mg base 1 "grouped" ["runs"] (spGrouped K)) (Dtimes_in_spans : Df P w K mg base 9 "times_in_spans" ["period", "spans"] (spTimesIn K)) (Doutside_runs : Df P w K mg base 1 "outside_runs" ["period", "residue", "runs"] (spOutside K)) :
    FnOk P w K mg base CX0 10 (He.ma K (CT K) "__invert__") fd ["self"] (spInv K) := by
  refine F.ok InvM (fun vs H Q E h => ?_) (fun cdv A outer s H vs Q E hr h => ?_)
  · obtain ⟨u, p, zs, rfl, _⟩ := h
    rfl
  · obtain ⟨u, p, zs, rfl, ⟨a, da, la, rfl, ha, ⟨ya, hya, Ra, ca, na⟩, p1, p2⟩, hz, k⟩ := h
    have hbig : (10000000 : Nat) < sizeLine := by decide
    have l1 := Ra.length
    refine ⟨_, PSs.nox (pss_cons (ps_set (i := 1) InvM.nd rfl (Or.inl rfl) (pe_lstS pa_nil))
      (pss_cons (ps_set (i := 2) InvM.nd rfl (Or.inl rfl) (pe_df Dgrouped (hr.mono (by decide)) rfl (pa_cons (pe_fldK K rfl (pv 0)) pa_nil)))
      (pss_cons (ps_cut (ps_for PassesOwn.never rfl (pi_range1 rfl T.range (pa_cons (pe_fldK K rfl (pv 0)) pa_nil)) (pg_name (i := 3) InvM.nd rfl (Or.inl rfl)) (pss_one (ps_expr (pe_bm PySem.F.plainAttrs_list PySem.F.slot_list_extend PySem.F.type_list_extend mt_extend (pv 1) (pa_cons (pe_df Doutside_runs (hr.mono (by decide)) rfl (pa_cons (pe_fldK K rfl (pv 0)) (pa_cons (pv 3) (pa_cons (pe_dget2 hr.u1 (pv 2) (pv 3) (pe_lstS pa_nil) ⟨rfl, rfl, rfl, rfl⟩) pa_nil)))) pa_nil))))))
      (pss_one (ps_ret (pe_df Dtimes_in_spans (hr.mono (by decide)) rfl (pa_cons (pe_fldK K rfl (pv 0)) (pa_cons (pv 1) pa_nil)))))))), ?_⟩
    refine ⟨(by show 0 ≤ sizeLine; decide), fun f H1 n1 s1 e1 => ?_⟩
    refine ⟨_, rfl, a, _, da, _, _, rfl, s1 _ _ ha, KT.cl, KT.nr, rfl, la, ya, zs, rfl, .inr (SqT.same hya s1), Rns.same Ra s1, by omega, fun d H2 kvs n2 s2 e2 G => ?_⟩
    have s12 := Same.trans s1 s2
    have hf2 : H2 f = some (.lst []) := s2 _ _ e1
    refine ⟨fun σ' H' => ∃ (u3 : Option V) (vs : List V), σ' = [some (.ref a), some (.ref f), some (.ref d), u3] ∧ EW.Kept f H2 H' ∧ H' f = some (.lst vs) ∧ Sns K H' vs (Rn.outAll p p.toNat zs), ?_, ?_⟩
    · refine ⟨_, rfl, a, _, da, _, _, rfl, s12 _ _ ha, KT.cl, KT.np, rfl, p, rfl, by omega, by omega, ?_⟩
      refine for_range (lo := 0) (n := p.toNat) (fun i σ' H' => ∃ (u3 : Option V) (vs : List V), σ' = [some (.ref a), some (.ref f), some (.ref d), u3] ∧ EW.Kept f H2 H' ∧ H' f = some (.lst vs) ∧ Sns K H' vs (Rn.outAll p i zs)) ⟨_, [], rfl, EW.Kept.refl _ _, hf2, .nil⟩ ?_ ?_
      · rintro i σ' H3 hi ⟨u3, vs, rfl, k3, hf3, R3⟩
        have hne : ∀ {c : Addr} {o : HO}, H2 c = some o → o ≠ .lst [] → c ≠ f := fun {c o} h n z => by
          rw [z, hf2] at h
          exact n (Option.some.inj h).symm
        have hd3 : H3 d = some (.dK kvs) := k3 _ _ (hne e2 (fun z => nomatch z)) e2
        have ha3 : H3 a = some (.ins (CT K) da (FS p la)) := k3 _ _ (hne (s12 _ _ ha) (fun z => nomatch z)) (s12 _ _ ha)
        have ei : (0 : Int) + (i : Int) = (i : Int) := Int.zero_add _
        refine ⟨_, rfl, Or.inl ⟨rfl, _, SqL.of hf3⟩, ?_⟩
        refine ⟨_, rfl, a, _, da, _, _, rfl, ha3, KT.cl, KT.np, rfl, _, rfl, _, rfl, d, rfl, .inl ⟨kvs, .inl hd3⟩, _, rfl, (by show 0 ≤ sizeLine; decide), fun q H4 n4 s4 e4 => ⟨_, DGet.k (k := (Sum.inl (0 + (i : Int)) : Key)) (s4 _ _ hd3), ?_⟩⟩
        have k4 : EW.Kept f H2 H4 := fun c o n e => s4 _ _ (k3 c o n e)
        rw [ei]
        have hL : ∃ (L : Addr) (ys0 : List V), (valV kvs (Sum.inl (i : Int) : Key)).getD (.ref q) = .ref L ∧ H4 L = some (.lst ys0) ∧ Rns K H4 ys0 (zs.filter fun z => decide (z.r = (i : Int))) := by
          cases hv : valV kvs (Sum.inl (i : Int) : Key) with
          | none =>
            have en : zs.filter (fun z => decide (z.r = (i : Int))) = [] := List.filter_eq_nil_iff.mpr fun z hz c => G.no _ hv z hz (of_decide_eq_true c)
            exact ⟨q, [], rfl, e4, by rw [en]; exact .nil⟩
          | some v =>
            obtain ⟨⟨l0, ys0, rfl, hl0, R0⟩, z, hz', ez⟩ := G.yes _ _ hv
            have hn0 : l0 ≠ f := hne hl0 (fun e => by
              have e' : ys0 = [] := by injection e
              have h1 := R0.length
              rw [e'] at h1
              have h3 := List.length_pos_of_mem (List.mem_filter.mpr ⟨hz', decide_eq_true ez⟩ : z ∈ zs.filter fun z => decide (z.r = (i : Int)))
              simp at h1
              omega)
            exact ⟨l0, ys0, rfl, k4 _ _ hn0 hl0, Rns.kept R0 hf2 k4⟩
        obtain ⟨L, ys0, eL, hL, R0⟩ := hL
        have hl0 := R0.length
        have hfl := List.length_filter_le (fun z : Rn.Run => decide (z.r = (i : Int))) zs
        rw [eL]
        refine ⟨p, (i : Int), L, ys0, _, rfl, hL, R0, by omega, fun l H5 ys n5 s5 e5 R5 => ?_⟩
        have hf5 : H5 f = some (.lst vs) := s5 _ _ (s4 _ _ hf3)
        have s35 := Same.trans s4 s5
        have g1 := R3.length
        have g2 := R5.length
        have g3 := Rn.outAll_len' (p := p) (n := i) (zs := zs)
        have g4 := Rn.outAll_len' (p := p) (n := i + 1) (zs := zs)
        rw [Rn.outAll_succ, List.length_append] at g4
        refine ⟨f, l, vs, ys, rfl, rfl, hf5, e5, by omega, ?_⟩
        refine ⟨_, vs ++ ys, rfl, (fun c o n e => Kept.upd c o n (s5 _ _ (k4 c o n e))), upd_same, ?_⟩
        rw [Rn.outAll_succ]
        exact Sns.kept (pr_append (Sns.same R3 s35) R5) hf5 Kept.upd
      · rintro σ' H3 ⟨u3, vs, rfl, k3, hf3, R3⟩
        exact ⟨u3, vs, rfl, k3, hf3, R3⟩
    · rintro σ' H3 ⟨u3, vs, rfl, k3, hf3, R3⟩
      have s3 : Same H H3 := fun c o h => k3 c o (fun z => by rw [z, n1] at h; cases h) (s12 c o h)
      have hp : 0 < p := by omega
      have hle : ((Rn.outAll p p.toNat zs).flatMap (Rn.foundOf p)).length ≤ zs.length + p.toNat := by
        refine Nat.le_trans (Rn.found_le fun s hs => ?_) Rn.outAll_len'
        obtain ⟨j, _, e⟩ := Rn.outAll_res s hs
        exact ⟨_, e⟩
      refine ⟨_, rfl, a, _, da, _, _, rfl, s3 _ _ ha, KT.cl, KT.np, rfl, _, rfl, p, f, vs, _, rfl, p1, p2, SqL.of hf3, R3, ⟨fun s hs => ?_, by omega⟩, k.told s3 p1 p2 (fun t => Rn.outAll_mem hp ca t) hle⟩
      obtain ⟨j, hj, e⟩ := Rn.outAll_res s hs
      intro r er
      rw [e] at er
      cases er
      omega
theorem ok_sub {fd : FuncData} (F : FunD K "__sub__" "Times.__sub__" (defArgs sSubM) (defBody sSubM) (defScope sSubM) [] [] (He.ma K (CT K) "__sub__") fd) (KT : Kl K mg "Times") (Drequire_alike : Df P w K mg base 1 "require_alike" ["one", "other"] (spAlike K))
    (Mand : Mt P w K mg base 10 (CT K) "__and__" ["self", "other"] (spAnd K)) (Minv : Mt P w K mg base 10 (CT K) "__invert__" ["self"] (spInv K)) :
    FnOk P w K mg base CX0 11 (He.ma K (CT K) "__sub__") fd ["self", "other"] (spSub K) := by
  refine F.ok SubM (fun vs H Q E h => ?_) (fun cdv A outer s H vs Q E hr h => ?_)
  · obtain ⟨u, v, p, zs, ws, rfl, _⟩ := h
    rfl
  · obtain ⟨u, v, p, zs, ws, rfl, Ou, Ov, hw, hz, k⟩ := h
    refine ⟨_, PSs.nox (pss_cons (ps_expr (pe_df Drequire_alike (hr.mono (by decide)) rfl (pa_cons (pv 0) (pa_cons (pv 1) pa_nil))))
      (pss_one (ps_ret (pe_op (op_own Mand KT.sf (hr.mono (by decide))) (pv 0) (pe_un (un_own Minv (hr.mono (by decide))) (pv 1)))))), ?_⟩
    refine ⟨_, rfl, _, rfl, _, _, p, zs, ws, rfl, Ou, Ov, ?_⟩
    refine ⟨_, rfl, _, rfl, Ov.isC, v, p, ws, rfl, Ov, hw, fun v1 H1 ws1 s1 O1 m1 l1 => ?_⟩
    have Ou1 := Ou.same s1
    have hmul : zs.length * ws1.length ≤ zs.length * (ws.length + p.toNat) := Nat.mul_le_mul_left _ l1
    refine ⟨Ou1.isC, O1.isC, u, v1, p, zs, ws1, rfl, Ou1, O1, by omega, fun v2 H2 zs2 s2 O2 m2 l2 => ?_⟩
    exact k v2 H2 zs2 (Same.trans s1 s2) O2 (fun t => (m2 t).trans ⟨fun h => ⟨h.1, (m1 t).mp h.2⟩, fun h => ⟨h.1, (m1 t).mpr h.2⟩⟩) (by omega)
/-- the own ==: against a set of times or an int -/
def spEq (K : W.Frag) : Sp := fun vs H Q _ => ∃ (u v : V) (p : Int) (zs : List Rn.Run), vs = [u, v] ∧ Ob K (CT K) H u p zs ∧
  ((∃ (q : Int) (ws : List Rn.Run), Ob K (CT K) H v q ws ∧ Q (.bl (decide (p = q ∧ zs = ws))) H) ∨ ((∃ i, v = .int i) ∧ Q (.bl false) H))
theorem ok_eq {fd : FuncData} (F : FunD K "__eq__" "Times.__eq__" (defArgs sEqM) (defBody sEqM) (defScope sEqM) [] [] (He.ma K (CT K) "__eq__") fd) (T : Fre mg) (KT : Kl K mg "Times") (I : Isi K) :
    FnOk P w K mg base CX0 1 (He.ma K (CT K) "__eq__") fd ["self", "other"] (spEq K) := by
  refine F.ok EqM (fun vs H Q E h => ?_) (fun cdv A outer s H vs Q E hr h => ?_)
  · obtain ⟨u, v, p, zs, rfl, _⟩ := h
    rfl
  · obtain ⟨u, v, p, zs, rfl, ⟨a, da, la, rfl, ha, ⟨ya, hya, Ra, ca, na⟩, p1, p2⟩, h⟩ := h
    refine ⟨_, PSs.nox (pss_one (ps_ret (pe_and (pe_callB (call_isiE K rfl) (by rfl) T.isinstance EW.boot_isinstance (pa_cons (pv 1) (pa_cons (pe_glob (v := .ref (He.ga K "Times")) rfl KT.g rfl) pa_nil))) (pe_and (pe_cmpR op_eq (pe_fldK K rfl (pv 0)) (pe_fldK K rfl (pv 1)) (nomark _)) (pe_one (pe_cmpR (op_eqDK K rfl hr.units) (pe_fldK K rfl (pv 0)) (pe_fldK K rfl (pv 1)) (nomark _))))))), ?_⟩
    rcases h with ⟨q, ws, ⟨b, db, lb, rfl, hb, ⟨yb, hyb, Rb, cb, nb⟩, _, _⟩, k⟩ | ⟨⟨i, rfl⟩, k⟩
    · refine ⟨_, rfl, _, _, _, _, true, rfl, .own _, KT.ty hb, I.tt, _, rfl, iteT ?_⟩
      refine ⟨_, rfl, a, _, da, _, _, rfl, ha, KT.cl, KT.np, rfl, _, rfl, b, _, db, _, _, rfl, hb, KT.cl, KT.np, rfl, rfl, _, rfl, ?_⟩
      by_cases c : p = q
      · refine iteB (decide_eq_true (by rw [c])) ?_
        refine ⟨_, rfl, a, _, da, _, _, rfl, ha, KT.cl, KT.nr, rfl, _, rfl, b, _, db, _, _, rfl, hb, KT.cl, KT.nr, rfl, .tuple (zs.map runD), .tuple (ws.map runD), .tup hya (runs_dp Ra), .tup hyb (runs_dp Rb), shaped_tuple zs, shaped_tuple ws, ?_⟩
        rw [tuple_eqv]
        have e : decide (p = q ∧ zs = ws) = decide (zs = ws) := by simp [c]
        rw [e] at k
        exact k
      · refine iteC (decide_eq_false (fun z => c (V.int.inj z))) ?_
        have e : decide (p = q ∧ zs = ws) = false := by simp [c]
        rw [e] at k
        exact k
    · exact ⟨_, rfl, _, _, _, _, false, rfl, .own _, .base (.int i), I.it, _, rfl, iteF k⟩
def spWithin (K : W.Frag) : Sp := fun vs H Q _ => ∃ (u v : V) (p : Int) (zs ws : List Rn.Run), vs = [u, v] ∧ Ob K (CT K) H u p zs ∧ Ob K (CT K) H v p ws ∧ ws.length + 400 ≤ 10000000 ∧ zs.length * (ws.length + p.toNat) ≤ 10000000 ∧
  ∀ (b : Bool) (H' : Hp), Same H H' → (b = true ↔ ∀ t, Rn.inRuns p zs t → Rn.inRuns p ws t) → Q (.bl b) H'
theorem empty_iff {p : Int} {zs : List Rn.Run} (c : Rn.Canon p zs) : zs.isEmpty = true ↔ ∀ t, ¬ Rn.inRuns p zs t := by
  cases zs with
  | nil => exact ⟨(fun _ t ⟨z, hz, _⟩ => nomatch hz), fun _ => rfl⟩
  | cons z zs =>
    constructor
    · intro h
      cases h
    · intro h
      obtain ⟨t, m⟩ := (c.good z List.mem_cons_self).some
      exact absurd ⟨z, List.mem_cons_self, m⟩ (h t)
end
end TM
end

section
set_option maxHeartbeats 4000000
namespace TM
open PySem PySem.Spec PyProof.Rows L2 EW
/-! ### a set of times by its members -/
def Has (K : W.Frag) (H : Hp) (v : V) (p : Int) (M : Int → Prop) (n : Nat) : Prop := ∃ zs, Ob K (CT K) H v p zs ∧ (∀ t, Rn.inRuns p zs t ↔ M t) ∧ zs.length ≤ n
/-- a new one, what follows -/
def Hn (K : W.Frag) (H : Hp) (p : Int) (M : Int → Prop) (n : Nat) (Q : VK) : Prop := ∀ (v : V) (H' : Hp), Same H H' → Has K H' v p M n → Q v H'
section
variable {K : W.Frag} {H H' : Hp} {u v : V} {p : Int} {A B : Int → Prop} {n m : Nat} {Q : VK}
theorem Has.same (h : Has K H v p A n) (s : Same H H') : Has K H' v p A n := let ⟨zs, o, r⟩ := h; ⟨zs, o.same s, r⟩
theorem Has.kept {d : Addr} {ys : List V} (h : Has K H v p A n) (hd : H d = some (.lst ys)) (k : EW.Kept d H H') : Has K H' v p A n := let ⟨zs, o, r⟩ := h; ⟨zs, o.kept hd k, r⟩
theorem Has.isC (h : Has K H v p A n) : IsC H (CT K) v := let ⟨_, o, _⟩ := h; o.isC
theorem Has.mem (h : Has K H v p A n) (e : ∀ t, A t ↔ B t) : Has K H v p B n := let ⟨zs, o, m, l⟩ := h; ⟨zs, o, fun t => (m t).trans (e t), l⟩
theorem Has.le (h : Has K H v p A n) (l : n ≤ m) : Has K H v p A m := let ⟨zs, o, h1, h2⟩ := h; ⟨zs, o, h1, Nat.le_trans h2 l⟩
theorem Has.per (h : Has K H v p A n) : 1 ≤ p ∧ p ≤ 400 := let ⟨_, ⟨_, _, _, _, _, _, h1, h2⟩, _⟩ := h; ⟨h1, h2⟩
theorem Hn.made (k : Hn K H p A n Q) {M : Int → Prop} {m : Nat} (e : ∀ t, M t ↔ A t) (l : m ≤ n) : Made K H p M m Q := fun v H' zs s o hm hl => k v H' s ⟨zs, o, fun t => (hm t).trans (e t), Nat.le_trans hl l⟩
theorem hOr (hu : Has K H u p A n) (hv : Has K H v p B m) (hl : n + m ≤ 10000000) (k : Hn K H p (fun t => A t ∨ B t) (n + m) Q) : IsC H (CT K) u ∧ IsC H (CT K) v ∧ spOr K [u, v] H Q E0 := by
  refine ⟨hu.isC, hv.isC, ?_⟩
  obtain ⟨zs, ou, mu, lu⟩ := hu
  obtain ⟨ws, ov, mv, lv⟩ := hv
  exact ⟨u, v, p, zs, ws, rfl, ou, ov, by omega, k.made (fun t => by rw [mu, mv]) (by omega)⟩
theorem hAnd (hu : Has K H u p A n) (hv : Has K H v p B m) (hl : n * m ≤ 10000000) (k : Hn K H p (fun t => A t ∧ B t) (n * m) Q) : IsC H (CT K) u ∧ IsC H (CT K) v ∧ spAnd K [u, v] H Q E0 := by
  refine ⟨hu.isC, hv.isC, ?_⟩
  obtain ⟨zs, ou, mu, lu⟩ := hu
  obtain ⟨ws, ov, mv, lv⟩ := hv
  have h : zs.length * ws.length ≤ n * m := Nat.mul_le_mul lu lv
  exact ⟨u, v, p, zs, ws, rfl, ou, ov, by omega, k.made (fun t => by rw [mu, mv]) h⟩
theorem hSub (hu : Has K H u p A n) (hv : Has K H v p B m) (hl : n * (m + p.toNat) ≤ 10000000) (hl2 : m ≤ 9000000) (k : Hn K H p (fun t => A t ∧ ¬ B t) (n * (m + p.toNat)) Q) : IsC H (CT K) u ∧ IsC H (CT K) v ∧ spSub K [u, v] H Q E0 := by
  refine ⟨hu.isC, hv.isC, ?_⟩
  obtain ⟨zs, ou, mu, lu⟩ := hu
  obtain ⟨ws, ov, mv, lv⟩ := hv
  have h : zs.length * (ws.length + p.toNat) ≤ n * (m + p.toNat) := Nat.mul_le_mul lu (Nat.add_le_add_right lv _)
  exact ⟨u, v, p, zs, ws, rfl, ou, ov, by omega, by omega, k.made (fun t => by rw [mu, mv]) h⟩
theorem hInv (hu : Has K H u p A n) (hl : n ≤ 9000000) (k : Hn K H p (fun t => ¬ A t) (n + p.toNat) Q) : IsC H (CT K) u ∧ spInv K [u] H Q E0 := by
  refine ⟨hu.isC, ?_⟩
  obtain ⟨zs, ou, mu, lu⟩ := hu
  exact ⟨u, p, zs, rfl, ou, by omega, k.made (fun t => by rw [mu]) (by omega)⟩
theorem same_iff {zs ws : List Rn.Run} (hp : 0 < p) (c1 : Rn.Canon p zs) (c2 : Rn.Canon p ws) (m1 : ∀ t, Rn.inRuns p zs t ↔ A t) (m2 : ∀ t, Rn.inRuns p ws t ↔ B t) : zs = ws ↔ ∀ t, A t ↔ B t := by
  constructor
  · intro e t
    rw [← m1, ← m2, e]
  · intro e
    exact Rn.canon_unique hp c1 c2 fun t => by rw [m1, m2]; exact e t
theorem Has.ins (h : Has K H v p A n) : ∃ a dx fs, v = .ref a ∧ H a = some (.ins (CT K) dx fs) ∧ fs.lookup ("is_within" : Str) = none := by
  obtain ⟨zs, ⟨a, dx, l, e, h1, _⟩, _⟩ := h
  exact ⟨a, dx, _, e, h1, rfl⟩
theorem hWithin (hu : Has K H u p A n) (hv : Has K H v p B m) (hl : n * (m + p.toNat) ≤ 10000000) (hl2 : m ≤ 9000000) (k : ∀ (b : Bool) (H' : Hp), Same H H' → (b = true ↔ ∀ t, A t → B t) → Q (.bl b) H') : spWithin K [u, v] H Q E0 := by
  obtain ⟨zs, ou, mu, lu⟩ := hu
  obtain ⟨ws, ov, mv, lv⟩ := hv
  have h : zs.length * (ws.length + p.toNat) ≤ n * (m + p.toNat) := Nat.mul_le_mul lu (Nat.add_le_add_right lv _)
  refine ⟨u, v, p, zs, ws, rfl, ou, ov, by omega, by omega, fun b H' s e => k b H' s (e.trans ?_)⟩
  constructor
  · intro z t ht
    exact (mv t).mp (z t ((mu t).mpr ht))
  · intro z t ht
    exact (mv t).mpr (z t ((mu t).mp ht))
theorem hEq (hu : Has K H u p A n) (hv : Has K H v p B m) (k : ∀ b : Bool, (b = true ↔ ∀ t, A t ↔ B t) → Q (.bl b) H) : IsC H (CT K) u ∧ Askd H (CT K) v ∧ spEq K [u, v] H Q E0 := by
  refine ⟨hu.isC, .inl hv.isC, ?_⟩
  have hp := hu.per.1
  obtain ⟨zs, ou, mu, lu⟩ := hu
  obtain ⟨ws, ov, mv, lv⟩ := hv
  refine ⟨u, v, p, zs, rfl, ou, .inl ⟨p, ws, ov, k _ ?_⟩⟩
  obtain ⟨_, _, _, _, _, ⟨_, _, _, c1, _⟩, _⟩ := ou
  obtain ⟨_, _, _, _, _, ⟨_, _, _, c2, _⟩, _⟩ := ov
  rw [decide_eq_true_iff, ← same_iff (by omega) c1 c2 mu mv]
  exact ⟨fun z => z.2, fun z => ⟨rfl, z⟩⟩
theorem hEqP {q : Int} (hu : Has K H u p A n) (hv : Has K H v q B m) (hne : p ≠ q) (k : Q (.bl false) H) : IsC H (CT K) u ∧ Askd H (CT K) v ∧ spEq K [u, v] H Q E0 := by
  refine ⟨hu.isC, .inl hv.isC, ?_⟩
  obtain ⟨zs, ou, mu, lu⟩ := hu
  obtain ⟨ws, ov, mv, lv⟩ := hv
  refine ⟨u, v, p, zs, rfl, ou, .inl ⟨q, ws, ov, ?_⟩⟩
  have e : decide (p = q ∧ zs = ws) = false := decide_eq_false fun z => hne z.1
  rw [e]
  exact k
theorem hEqI {i : Int} (hu : Has K H u p A n) (k : Q (.bl false) H) : IsC H (CT K) u ∧ Askd H (CT K) (.int i) ∧ spEq K [u, .int i] H Q E0 := by
  refine ⟨hu.isC, .inr ⟨i, rfl⟩, ?_⟩
  obtain ⟨zs, ou, mu, lu⟩ := hu
  exact ⟨u, .int i, p, zs, rfl, ou, .inr ⟨⟨i, rfl⟩, k⟩⟩
theorem hBool (hu : Has K H u p A n) (k : ∀ b : Bool, (b = true ↔ ∃ t, A t) → Q (.bl b) H) : IsC H (CT K) u ∧ spBool K [u] H Q E0 := by
  refine ⟨hu.isC, ?_⟩
  obtain ⟨zs, ou, mu, lu⟩ := hu
  refine ⟨u, p, zs, rfl, ou, k _ ?_⟩
  obtain ⟨_, _, _, _, _, ⟨_, _, _, c1, _⟩, _⟩ := ou
  have e := empty_iff c1
  cases q : zs.isEmpty with
  | true =>
    have z := e.mp q
    constructor
    · intro y
      cases y
    · rintro ⟨t, ht⟩
      exact absurd ((mu t).mpr ht) (z t)
  | false =>
    refine ⟨fun _ => ?_, fun _ => rfl⟩
    rcases Classical.em (∃ t, A t) with y | y
    · exact y
    · have z := e.mpr fun t ht => y ⟨t, (mu t).mp ht⟩
      rw [q] at z
      cases z
/-- v.runs, v.period -/
theorem hRuns (hu : Has K H u p A n) (k : ∀ (l : Addr) (zs : List Rn.Run), RunsAt K H l p zs → (∀ t, Rn.inRuns p zs t ↔ A t) → Q (.ref l) H) : ∃ a dx fs, u = .ref a ∧ H a = some (.ins (CT K) dx fs) ∧ spRunsP K [.ref a] H Q E0 := by
  obtain ⟨zs, ⟨a, dx, l, e, h1, h2⟩, mu, lu⟩ := hu
  subst e
  exact ⟨a, dx, _, rfl, h1, .ref a, p, zs, rfl, ⟨a, dx, l, rfl, h1, h2⟩, fun l h => k l zs h mu⟩
theorem hPer (hu : Has K H u p A n) (k : Q (.int p) H) : ∃ a dx fs, u = .ref a ∧ H a = some (.ins (CT K) dx fs) ∧ spPeriod K [.ref a] H Q E0 := by
  obtain ⟨zs, ⟨a, dx, l, e, h1, h2⟩, mu, lu⟩ := hu
  subst e
  exact ⟨a, dx, _, rfl, h1, .ref a, p, zs, rfl, ⟨a, dx, l, rfl, h1, h2⟩, k⟩
theorem ne_runs {l m : Addr} {zs ws : List Rn.Run} (hp : 0 < p) (h1 : RunsAt K H l p zs) (h2 : RunsAt K H m p ws) (e : ∀ t, Rn.inRuns p zs t ↔ Rn.inRuns p ws t) (k : Q (.bl false) H) : rNeD K (.ref l) (.ref m) H Q := by
  obtain ⟨ya, hya, Ra, ca, na⟩ := h1
  obtain ⟨yb, hyb, Rb, cb, nb⟩ := h2
  refine ⟨.tuple (zs.map runD), .tuple (ws.map runD), .tup hya (runs_dp Ra), .tup hyb (runs_dp Rb), shaped_tuple zs, shaped_tuple ws, ?_⟩
  rw [tuple_eqv, decide_eq_true (Rn.canon_unique hp ca cb e)]
  exact k
theorem res_lenP (hp : 0 < p) (s : Rn.Sp3) : (Rn.residues p s).length ≤ p.toNat := by
  unfold Rn.residues
  split <;> simp <;> omega
theorem found_lenP (hp : 0 < p) (ss : List Rn.Sp3) : (ss.flatMap (Rn.foundOf p)).length ≤ p.toNat * ss.length := by
  induction ss with
  | nil => simp
  | cons s ss ih =>
    rw [List.flatMap_cons, List.length_append, List.length_cons, Nat.mul_add]
    have h : (Rn.foundOf p s).length ≤ p.toNat := Nat.le_trans (List.length_filterMap_le _ _) (res_lenP hp s)
    omega
theorem few_of {ss : List Rn.Sp3} (p1 : 1 ≤ p) (p2 : p ≤ 400) (ok : ∀ s ∈ ss, Rn.SpOk p s) (hl : ss.length ≤ 20000) : Few p ss := by
  refine ⟨ok, Nat.le_trans (found_lenP (by omega) ss) ?_⟩
  have h : p.toNat * ss.length ≤ 400 * 20000 := Nat.mul_le_mul (by omega) hl
  omega
theorem hTold {ss : List Rn.Sp3} (p1 : 1 ≤ p) (p2 : p ≤ 400) (k : Hn K H p (Rn.inSpans p ss) (p.toNat * ss.length) Q) : Told K (CT K) H p ss Q :=
  fun a dx l H' zs _ s e R m hl => k _ H' s ⟨zs, ⟨a, dx, l, rfl, e, R, p1, p2⟩, m, Nat.le_trans hl (found_lenP (by omega) ss)⟩
theorem hOf {q : Addr} {xs : List V} {ss : List Rn.Sp3} (p1 : 1 ≤ p) (p2 : p ≤ 400) (hS : SqT K H q xs) (hR : Sns K H xs ss) (ok : ∀ s ∈ ss, Rn.SpOk p s) (hl : ss.length ≤ 20000) (k : Hn K H p (Rn.inSpans p ss) (p.toNat * ss.length) Q) : spOf K [.ref (CT K), .int p, .ref q] H Q E0 := by
  have hlen := hR.length
  exact ⟨p, q, xs, ss, rfl, p1, p2, hS, hR, few_of p1 p2 ok hl, by omega, hTold p1 p2 k⟩
end
end TM
end

section
set_option maxHeartbeats 4000000
namespace EW
open PySem PySem.Spec PyProof.Rows L2
/-! ### data that stand while the heap grows; written data -/
mutual
theorem dp_same {K : W.Frag} {H H' : Hp} (s : Same H H') : ∀ (d : PyData) (v : V), Dp K H v d → Dp K H' v d
  | .none, _, h => by
    cases h
    exact .non
  | .bool b, _, h => by
    cases h
    exact .bl b
  | .int i, _, h => by
    cases h
    exact .int i
  | .str x, _, h => by
    cases h
    exact .str x
  | .list ds, _, h => by
    cases h with
    | lst hs ha => exact .lst (s.seq hs) (dpAll_same s ds _ ha)
  | .tuple ds, _, h => by
    cases h with
    | tup hs ha =>
      refine .tup ?_ (dpAll_same s ds _ ha)
      rcases hs with (h | ⟨o, h⟩) | h
      · exact .inl (.inl (s _ _ h))
      · exact .inl (.inr ⟨o, s _ _ h⟩)
      · exact .inr h
  | .dict _, _, h => by cases h
theorem dpAll_same {K : W.Frag} {H H' : Hp} (s : Same H H') : ∀ (ds : List PyData) (vs : List V), DpAll K H vs ds → DpAll K H' vs ds
  | [], _, h => by
    cases h
    exact .nil
  | d :: ds, _, h => by
    cases h with
    | cons h1 h2 => exact .cons (dp_same s d _ h1) (dpAll_same s ds _ h2)
end
theorem dpAll_len {K : W.Frag} {H : Hp} : ∀ (ds : List PyData) (vs : List V), DpAll K H vs ds → vs.length = ds.length
  | [], _, h => by
    cases h
    rfl
  | d :: ds, _, h => by
    cases h with
    | cons h1 h2 => rw [List.length_cons, List.length_cons, dpAll_len ds _ h2]
section
variable {X : Cx} {K : W.Frag} {e : Expr} {es : List Expr} {d : PyData} {ds : List PyData} {pos : Pos}
def tLit (K : W.Frag) (d : PyData) : TE := fun _ H Q => ∀ v H', Same H H' → Dp K H' v d → Q v H'
def tLits (K : W.Frag) (ds : List PyData) : TA := fun _ H Q => ∀ vs H', Same H H' → DpAll K H' vs ds → Q vs H'
theorem PA.imp {t t' : TA} (h : PA X es t) (i : ∀ σ H Q, t' σ H Q → t σ H Q) : PA X es t' := ⟨fun ps pins s σ H Q I q => h.run ps pins s σ H Q I (i _ _ _ q)⟩
theorem pl_int {i : Int} {k} : PE X (.Constant (.int i) k pos) (tLit K (.int i)) := PE.imp pe_int fun σ H Q q => q _ H (Same.refl H) (.int i)
theorem pl_non {k} : PE X (.Constant .none k pos) (tLit K .none) := PE.imp pe_non fun σ H Q q => q _ H (Same.refl H) .non
theorem pl_bl {b : Bool} {k} : PE X (.Constant (.bool b) k pos) (tLit K (.bool b)) := PE.imp pe_bl fun σ H Q q => q _ H (Same.refl H) (.bl b)
theorem pl_str {z : Str} {k} : PE X (.Constant (.str z) k pos) (tLit K (.str z)) := PE.imp pe_str fun σ H Q q => q _ H (Same.refl H) (.str z)
theorem pl_neg {i : Int} (h : PE X e (tLit K (.int i))) : PE X (.UnaryOp .USub e pos) (tLit K (.int (-i))) := PE.imp (pe_un un_neg h) fun σ H Q q v H' s dv => by
  cases dv
  exact ⟨_, rfl, q _ H' s (.int (-i))⟩
theorem pls_nil : PA X [] (tLits K []) := PA.imp pa_nil fun σ H Q q => q [] H (Same.refl H) .nil
theorem pls_cons (h : PE X e (tLit K d)) (t : PA X es (tLits K ds)) (hs : starEach (e :: es) X.env = (false, eval e X.env) :: starEach es X.env := by rfl) : PA X (e :: es) (tLits K (d :: ds)) := PA.imp (pa_cons h t hs) fun σ H Q q v H1 s1 d1 vs H2 s2 d2 => q (v :: vs) H2 (Same.trans s1 s2) (.cons (dp_same s2 _ _ d1) d2)
theorem pl_tup {n : Nat} (hl : ds.length ≤ sizeLine) (t : PA X es (tLits K ds)) : PE X (.Tuple es n pos) (tLit K (.tuple ds)) := PE.imp (pe_tupS t) fun σ H Q q vs H1 s1 d1 => ⟨by rw [dpAll_len _ _ d1]; exact hl, fun p H2 n2 s2 e2 => q _ H2 (Same.trans s1 s2) (.tup (SqT.of e2) (dpAll_same s2 _ _ d1))⟩
theorem pl_lst (hl : ds.length ≤ sizeLine) (t : PA X es (tLits K ds)) : PE X (.List es pos) (tLit K (.list ds)) := PE.imp (pe_lstS t) fun σ H Q q vs H1 s1 d1 => ⟨by rw [dpAll_len _ _ d1]; exact hl, fun p H2 n2 s2 e2 => q _ H2 (Same.trans s1 s2) (.lst (SqL.of e2) (dpAll_same s2 _ _ d1))⟩
end
end EW
end

section
set_option maxHeartbeats 4000000
namespace EW
open PySem PySem.Spec PyProof.Rows L2
/-! ### spans as data -/
def spanD (s : Rn.Sp3) : PyData := .tuple [od s.res, od s.lo, od s.hi]
section
variable {K : W.Frag} {H H' : Hp} {v : V} {Q : VK} {X : Cx}
theorem span_dp {s : Rn.Sp3} (h : Sn K H v s) : Dp K H v (spanD s) := by
  obtain ⟨a, rfl, q⟩ := h
  exact .tup q (.cons (od_dp _) (.cons (od_dp _) (.cons (od_dp _) .nil)))
theorem spans_dp : ∀ {vs : List V} {ss : List Rn.Sp3}, Sns K H vs ss → DpAll K H vs (ss.map spanD)
  | _, _, .nil => .nil
  | _, _, .cons h t => .cons (span_dp h) (spans_dp t)
theorem span_lay (s : Rn.Sp3) : (spanD s).canLay0 = true := by simp [spanD, PyData.canLay0, PyData.canLayAll0, od_lay]
theorem spans_lay : ∀ ss : List Rn.Sp3, PyData.canLayAll0 (ss.map spanD) = true
  | [] => by simp [PyData.canLayAll0]
  | z :: zs => by simp [PyData.canLayAll0, span_lay, spans_lay zs]
theorem span_depth (z : Rn.Sp3) : (spanD z).depth = 1 := by simp [spanD, PyData.depth, PyData.depthAll, od_depth]
theorem spans_depth : ∀ zs : List Rn.Sp3, PyData.depthAll (zs.map spanD) ≤ 1
  | [] => by simp [PyData.depthAll]
  | z :: zs => by
    have h := spans_depth zs
    simp [PyData.depthAll, span_depth]
    omega
theorem spans_shaped (zs : List Rn.Sp3) : SeqAt.shaped (.list (zs.map spanD)) = true := by
  have h := spans_depth zs
  simp [SeqAt.shaped, PyData.canLay0, PyData.depth, spans_lay]
  omega
theorem sn_of_dp (s : Rn.Sp3) (h : Dp K H v (.tuple [od s.res, od s.lo, od s.hi])) : Sn K H v s := by
  have ob_of : ∀ {w : V} {o : Option Int}, Dp K H w (od o) → w = ob o := fun {w o} h => by
    cases o with
    | none => cases h; rfl
    | some i => cases h; rfl
  cases h with
  | tup hs ha =>
    cases ha with
    | cons h1 ha =>
      cases ha with
      | cons h2 ha =>
        cases ha with
        | cons h3 ha =>
          cases ha
          rw [ob_of h1, ob_of h2, ob_of h3] at hs
          exact ⟨_, rfl, hs⟩
theorem ints_dp : ∀ ns : List Int, DpAll K H (ns.map V.int) (ns.map PyData.int)
  | [] => .nil
  | b :: bs => .cons (.int b) (ints_dp bs)
theorem ints_lay : ∀ bs : List Int, PyData.canLayAll0 (bs.map PyData.int) = true
  | [] => by simp [PyData.canLayAll0]
  | b :: bs => by simp [PyData.canLayAll0, PyData.canLay0, ints_lay bs]
theorem ints_depth : ∀ bs : List Int, PyData.depthAll (bs.map PyData.int) = 0
  | [] => by simp [PyData.depthAll]
  | b :: bs => by simp [PyData.depthAll, PyData.depth, ints_depth bs]
theorem shaped_ints (bs : List Int) : SeqAt.shaped (.list (bs.map PyData.int)) = true := by
  simp [SeqAt.shaped, PyData.canLay0, PyData.depth, ints_lay, ints_depth]
theorem cr_minK {X : Cx} (K : W.Frag) (h : X.K = K) (hc : X.calm = true) : CallR X (.builtin "min") (rMin K) := by
  subst h
  exact cr_min hc
theorem nil_shaped : SeqAt.shaped (.list []) = true := by simp [SeqAt.shaped, PyData.canLay0, PyData.canLayAll0, PyData.depth, PyData.depthAll]
theorem list_nil_eqv (ds : List PyData) : PyData.eqv (.list ds) (.list []) = ds.isEmpty := by
  rw [PyData.eqv]
  cases ds <;> simp [PyData.eqvAll]
/-- a list against [] -/
theorem neNil {x y : V} {ds : List PyData} (hx : Dp K H x (.list ds)) (hs : SeqAt.shaped (.list ds) = true) (hy : Dp K H y (.list [])) (k : Q (.bl (!ds.isEmpty)) H) : rNeD K x y H Q :=
  ⟨_, _, hx, hy, hs, nil_shaped, by rw [list_nil_eqv]; exact k⟩
theorem eqNil {x y : V} {ds : List PyData} (hx : Dp K H x (.list ds)) (hs : SeqAt.shaped (.list ds) = true) (hy : Dp K H y (.list [])) (k : Q (.bl ds.isEmpty) H) : rEqD K x y H Q :=
  ⟨_, _, hx, hy, hs, nil_shaped, by rw [list_nil_eqv]; exact k⟩
theorem seqIx {j n : Nat} (h : j < n) : seqIndex? (j : Int) n = some j := by
  unfold seqIndex?
  have h1 : ¬ ((j : Int) < 0) := by omega
  have h2 : ¬ ((j : Int) ≥ (n : Int)) := by omega
  simp [h1, h]
end
end EW
end

section

namespace Rn
/-! ### written runs -/
def loB (p : Int) (x : Run) : Bool := match x.lo with
  | none => true
  | some l => decide (l % p = x.r)
def hiB (p : Int) (x : Run) : Bool := match x.hi with
  | none => true
  | some l => decide (l % p = x.r)
def lhB (x : Run) : Bool := match x.lo, x.hi with
  | some l, some m => decide (l ≤ m)
  | _, _ => true
def goodB (p : Int) (x : Run) : Bool := decide (0 ≤ x.r) && (decide (x.r < p) && (loB p x && (hiB p x && lhB x)))
theorem goodB_ok {p : Int} {x : Run} (h : goodB p x = true) : Good p x := by
  unfold goodB at h
  simp only [Bool.and_eq_true, decide_eq_true_eq] at h
  obtain ⟨h1, h2, h3, h4, h5⟩ := h
  refine ⟨h1, h2, fun l e => ?_, fun l e => ?_, fun l m e f => ?_⟩
  · unfold loB at h3
    rw [e] at h3
    exact of_decide_eq_true h3
  · unfold hiB at h4
    rw [e] at h4
    exact of_decide_eq_true h4
  · unfold lhB at h5
    rw [e, f] at h5
    exact of_decide_eq_true h5
def ltB (p : Int) (x y : Run) : Bool := decide (x.r < y.r) || (decide (x.r = y.r) && (match x.hi, y.lo with
  | some h, some l => decide (h + p < l)
  | _, _ => false))
theorem ltB_ok {p : Int} {x y : Run} (h : ltB p x y = true) : Lt p x y := by
  unfold ltB at h
  rw [Bool.or_eq_true, Bool.and_eq_true] at h
  rcases h with h | ⟨h1, h2⟩
  · exact .inl (of_decide_eq_true h)
  · refine .inr ⟨of_decide_eq_true h1, ?_⟩
    split at h2
    · rename_i a b e f
      exact ⟨a, b, e, f, of_decide_eq_true h2⟩
    · cases h2
def canonB (p : Int) : List Run → Bool
  | [] => true
  | x :: xs => goodB p x && (xs.all (ltB p x) && canonB p xs)
theorem canonB_ok {p : Int} : ∀ {xs : List Run}, canonB p xs = true → Canon p xs
  | [], _ => ⟨(fun _ h => nomatch h), .nil⟩
  | x :: xs, h => by
    unfold canonB at h
    rw [Bool.and_eq_true, Bool.and_eq_true] at h
    obtain ⟨h1, h2, h3⟩ := h
    have c := canonB_ok h3
    refine ⟨fun y hy => ?_, List.pairwise_cons.mpr ⟨fun y hy => ltB_ok (List.all_eq_true.mp h2 y hy), c.pw⟩⟩
    rcases List.mem_cons.mp hy with rfl | hy
    · exact goodB_ok h1
    · exact c.good y hy
section
variable {p t : Int}
theorem geN : geLo none t ↔ True := ⟨fun _ => trivial, fun _ _ h => nomatch h⟩
theorem geS {l : Int} : geLo (some l) t ↔ l ≤ t := ⟨fun h => h l rfl, fun h m e => by cases e; exact h⟩
theorem leN : leHi none t ↔ True := ⟨fun _ => trivial, fun _ _ h => nomatch h⟩
theorem leS {l : Int} : leHi (some l) t ↔ t ≤ l := ⟨fun h => h l rfl, fun h m e => by cases e; exact h⟩
theorem runs_nil : inRuns p [] t ↔ False := ⟨(fun ⟨_, h, _⟩ => nomatch h), False.elim⟩
theorem runs_cons {x : Run} {xs : List Run} : inRuns p (x :: xs) t ↔ inRun p x t ∨ inRuns p xs t := by
  constructor
  · rintro ⟨y, hy, h⟩
    rcases List.mem_cons.mp hy with rfl | hy
    · exact .inl h
    · exact .inr ⟨y, hy, h⟩
  · rintro (h | ⟨y, hy, h⟩)
    · exact ⟨x, List.mem_cons_self, h⟩
    · exact ⟨y, List.mem_cons_of_mem _ hy, h⟩
theorem spans_nil : inSpans p [] t ↔ False := ⟨(fun ⟨_, h, _⟩ => nomatch h), False.elim⟩
theorem spans_cons {x : Sp3} {xs : List Sp3} : inSpans p (x :: xs) t ↔ inSpan p x t ∨ inSpans p xs t := by
  constructor
  · rintro ⟨y, hy, h⟩
    rcases List.mem_cons.mp hy with rfl | hy
    · exact .inl h
    · exact .inr ⟨y, hy, h⟩
  · rintro (h | ⟨y, hy, h⟩)
    · exact ⟨x, List.mem_cons_self, h⟩
    · exact ⟨y, List.mem_cons_of_mem _ hy, h⟩
theorem run_mk {r : Int} {lo hi : Option Int} : inRun p ⟨r, lo, hi⟩ t ↔ t % p = r ∧ geLo lo t ∧ leHi hi t := Iff.rfl
theorem span_N {lo hi : Option Int} : inSpan p ⟨none, lo, hi⟩ t ↔ geLo lo t ∧ leHi hi t := ⟨fun h => h.2, fun h => ⟨(fun _ e => nomatch e), h⟩⟩
theorem span_S {r : Int} {lo hi : Option Int} : inSpan p ⟨some r, lo, hi⟩ t ↔ t % p = r ∧ geLo lo t ∧ leHi hi t := ⟨fun h => ⟨h.1 r rfl, h.2⟩, fun h => ⟨fun s e => by cases e; exact h.1, h.2⟩⟩
end
end Rn
end

section
set_option maxHeartbeats 4000000
namespace TM
open PySem PySem.Spec PyProof.Rows L2 EW
section
variable {K : W.Frag} {H H' : Hp} {u v : V} {p : Int} {A B : Int → Prop} {n m : Nat} {Q : VK}
theorem hEvery {r : Int} (p1 : 1 ≤ p) (p2 : p ≤ 400) (r0 : 0 ≤ r) (r1 : r < p) (k : Hn K H p (Rn.inSpans p [⟨some r, none, none⟩]) (p.toNat * 1) Q) : spEvery K [.ref (CT K), .int p, .int r, .non, .non] H Q E0 :=
  ⟨p, some r, none, none, rfl, p1, p2, (fun q e => by cases e; exact ⟨r0, r1⟩), hTold p1 p2 k⟩
theorem hMake {xs : List V} {ss : List Rn.Sp3} (x dx : Addr) (nx : H x = none) (ndx : H dx = none) (ne : dx ≠ x) (p1 : 1 ≤ p) (p2 : p ≤ 400) (hR : Sns K H xs ss) (ok : ∀ s ∈ ss, Rn.SpOk p s) (hl : ss.length ≤ 20000) (k : ∀ H', Same H H' → Has K H' (.ref x) p (Rn.inSpans p ss) (p.toNat * ss.length) → Q .non H') :
    spTInit K (.ref x :: .int p :: xs) (upd (upd H dx (.own x)) x (.ins (CT K) dx [])) Q E0 := by
  have hlen := hR.length
  have q := tInit_spans (Q := fun v H2 => Q .non H2) p1 p2 hR (few_of p1 p2 ok hl) (by omega) nx ndx ne fun l H' zs s e R hm hz => k H' s ⟨zs, ⟨x, dx, l, rfl, e, R, p1, p2⟩, hm, Nat.le_trans hz (found_lenP (by omega) ss)⟩
  obtain ⟨ws, rest, h1, h2, h3, h4⟩ := q
  refine ⟨ws, rest, h1, h2, h3, fun q hq => ?_⟩
  obtain ⟨x', dx', q', u, g1, g2, g3⟩ := h4 q hq
  refine ⟨x', dx', q', u, g1, g2, ?_⟩
  rcases g3 with ⟨r, dr, l, p, y1, y2, y3⟩ | ⟨p, xs, ss, y1, y2, y3, y4, y5, y6, y7, y8⟩
  · exact .inl ⟨r, dr, l, p, y1, y2, fun H' a b => (y3 H' a b).2⟩
  · exact .inr ⟨p, xs, ss, y1, y2, y3, y4, y5, y6, y7, fun l H' zs a b c d e => (y8 l H' zs a b c d e).2⟩
/-- v.runs against written runs -/
theorem hRunsW (ws : List Rn.Run) (hu : Has K H u p A n) (c : Rn.canonB p ws = true) (e : ∀ t, A t ↔ Rn.inRuns p ws t) (k : ∀ l, (∀ H', Same H H' → Dp K H' (.ref l) (.tuple (ws.map runD))) → Q (.ref l) H) : ∃ a dx fs, u = .ref a ∧ H a = some (.ins (CT K) dx fs) ∧ spRunsP K [.ref a] H Q E0 := by
  have hp := hu.per.1
  refine hRuns hu fun l zs R hm => k l fun H' s => ?_
  obtain ⟨ys, hS, hR, cz, _⟩ := R
  have e2 : zs = ws := Rn.canon_unique (by omega) cz (Rn.canonB_ok c) fun t => (hm t).trans (e t)
  subst e2
  exact .tup (SqT.same hS s) (runs_dp (Rns.same hR s))
theorem hEveryO {r lo hi : Option Int} (p1 : 1 ≤ p) (p2 : p ≤ 400) (ok : Rn.SpOk p ⟨r, lo, hi⟩) (k : Hn K H p (Rn.inSpans p [⟨r, lo, hi⟩]) (p.toNat * 1) Q) : spEvery K [.ref (CT K), .int p, ob r, ob lo, ob hi] H Q E0 :=
  ⟨p, r, lo, hi, rfl, p1, p2, ok, hTold p1 p2 k⟩
theorem hRunsN (hu : Has K H u p A n) (k : ∀ (l : Addr) (zs : List Rn.Run), RunsAt K H l p zs → (∀ t, Rn.inRuns p zs t ↔ A t) → zs.length ≤ n → Q (.ref l) H) : ∃ a dx fs, u = .ref a ∧ H a = some (.ins (CT K) dx fs) ∧ spRunsP K [.ref a] H Q E0 := by
  obtain ⟨zs, ⟨a, dx, l, e, h1, h2⟩, mu, lu⟩ := hu
  subst e
  exact ⟨a, dx, _, rfl, h1, .ref a, p, zs, rfl, ⟨a, dx, l, rfl, h1, h2⟩, fun l h => k l zs h mu lu⟩
theorem eqv_self {d : PyData} (h : SeqAt.shaped d = true) : PyData.eqv d d = true := SeqAt.eqv_refl _ (SeqAt.canLay_of_shaped h)
theorem neD_self {x y : V} (d : PyData) (hs : SeqAt.shaped d = true) (hx : Dp K H x d) (hy : Dp K H y d) (k : Q (.bl false) H) : rNeD K x y H Q :=
  ⟨d, d, hx, hy, hs, hs, by rw [eqv_self hs]; exact k⟩
theorem eqD_self {x y : V} (d : PyData) (hs : SeqAt.shaped d = true) (hx : Dp K H x d) (hy : Dp K H y d) (k : Q (.bl true) H) : rEqD K x y H Q :=
  ⟨d, d, hx, hy, hs, hs, by rw [eqv_self hs]; exact k⟩
end
end TM
end

section

namespace Rn
section
variable {p : Int}
/-- of two runs one comes ahead -/
theorem pw_cmp {α : Type} {R : α → α → Prop} : ∀ {xs : List α}, xs.Pairwise R → ∀ x ∈ xs, ∀ y ∈ xs, x = y ∨ R x y ∨ R y x
  | [], _, x, hx, _, _ => nomatch hx
  | z :: zs, h, x, hx, y, hy => by
    obtain ⟨h1, h2⟩ := List.pairwise_cons.mp h
    rcases List.mem_cons.mp hx with ex | hx'
    · rcases List.mem_cons.mp hy with ey | hy'
      · exact .inl (ex.trans ey.symm)
      · exact .inr (.inl (ex ▸ h1 y hy'))
    · rcases List.mem_cons.mp hy with ey | hy'
      · exact .inr (.inr (ey ▸ h1 x hx'))
      · exact pw_cmp h2 x hx' y hy'
theorem Canon.cmp {zs : List Run} (c : Canon p zs) {x y : Run} (hx : x ∈ zs) (hy : y ∈ zs) : x = y ∨ Lt p x y ∨ Lt p y x := pw_cmp c.pw x hx y hy
/-- a time is in one run at most -/
theorem Canon.one {zs : List Run} (hp : 0 < p) (c : Canon p zs) {x y : Run} {t : Int} (hx : x ∈ zs) (hy : y ∈ zs) (mx : inRun p x t) (my : inRun p y t) : x = y := by
  rcases c.cmp hx hy with h | h | h
  · exact h
  · exact (h.apart hp mx my).elim
  · exact (h.apart hp my mx).elim
/-- just ahead of a run there is no member -/
theorem Canon.below {zs : List Run} (hp : 0 < p) (c : Canon p zs) {z : Run} (hz : z ∈ zs) {l : Int} (e : z.lo = some l) : ¬ inRuns p zs (l - p) := by
  rintro ⟨y, hy, m⟩
  have gz := c.good z hz
  have er : (l - p) % p = z.r := by
    rw [Int.sub_emod_right]
    exact gz.lo l e
  have ey : y.r = z.r := by rw [← m.1]; exact er
  rcases c.cmp hz hy with h | h | h
  · subst h
    have := m.2.1 l e
    omega
  · rcases h with h | ⟨_, u, w, h1, h2, h3⟩
    · omega
    · have q1 := m.2.1 w h2
      have q2 := gz.le l u e h1
      omega
  · rcases h with h | ⟨_, u, w, h1, h2, h3⟩
    · omega
    · have q1 := m.2.2 u h1
      rw [e] at h2
      cases h2
      omega
theorem Canon.beyond {zs : List Run} (hp : 0 < p) (c : Canon p zs) {z : Run} (hz : z ∈ zs) {l : Int} (e : z.hi = some l) : ¬ inRuns p zs (l + p) := by
  rintro ⟨y, hy, m⟩
  have gz := c.good z hz
  have er : (l + p) % p = z.r := by
    rw [Int.add_emod_right]
    exact gz.hi l e
  have ey : y.r = z.r := by rw [← m.1]; exact er
  rcases c.cmp hz hy with h | h | h
  · subst h
    have := m.2.2 l e
    omega
  · rcases h with h | ⟨_, u, w, h1, h2, h3⟩
    · omega
    · have q1 := m.2.1 w h2
      rw [e] at h1
      cases h1
      omega
  · rcases h with h | ⟨_, u, w, h1, h2, h3⟩
    · omega
    · have q1 := m.2.2 u h1
      have q2 := gz.le w l h2 e
      omega
/-- how many runs have this time -/
theorem Canon.count {zs : List Run} (hp : 0 < p) (c : Canon p zs) {t : Int} (f : Run → Bool) (hf : ∀ z, f z = true ↔ inRun p z t) : (inRuns p zs t → (zs.filter f).length = 1) ∧ (¬ inRuns p zs t → (zs.filter f).length = 0) := by
  constructor
  · rintro ⟨z, hz, m⟩
    cases e : zs.filter f with
    | nil =>
      have : z ∈ zs.filter f := List.mem_filter.mpr ⟨hz, (hf z).mpr m⟩
      rw [e] at this
      cases this
    | cons x r =>
      cases r with
      | nil => rfl
      | cons y r =>
        have pw : (zs.filter f).Pairwise (Lt p) := List.Pairwise.sublist List.filter_sublist c.pw
        rw [e] at pw
        have h := (List.pairwise_cons.mp pw).1 y List.mem_cons_self
        have mx : x ∈ zs.filter f := by rw [e]; exact List.mem_cons_self
        have my : y ∈ zs.filter f := by rw [e]; exact List.mem_cons_of_mem _ List.mem_cons_self
        exact (h.apart hp ((hf x).mp (List.mem_filter.mp mx).2) ((hf y).mp (List.mem_filter.mp my).2)).elim
  · intro h
    rw [List.length_eq_zero_iff, List.filter_eq_nil_iff]
    exact fun z hz m => h ⟨z, hz, (hf z).mp m⟩
end
end Rn
end

section

namespace Rn
/-! ### next and last members -/
def IsNext (A : Int → Prop) (t : Int) : Option Int → Prop
  | none => ∀ s, t ≤ s → ¬ A s
  | some m => A m ∧ t ≤ m ∧ ∀ s, t ≤ s → A s → m ≤ s
def IsLast (A : Int → Prop) (t : Int) : Option Int → Prop
  | none => ∀ s, s ≤ t → ¬ A s
  | some m => A m ∧ m ≤ t ∧ ∀ s, s ≤ t → A s → s ≤ m
section
variable {A B : Int → Prop} {t m p r : Int} {o o' lo hi : Option Int} {ms : List Int}
theorem IsNext.uniq (h : IsNext A t o) (h' : IsNext A t o') : o = o' := by
  cases o with
  | none =>
    cases o' with
    | none => rfl
    | some m => exact absurd h'.1 (h m h'.2.1)
  | some m =>
    cases o' with
    | none => exact absurd h.1 (h' m h.2.1)
    | some m' =>
      have h1 := h.2.2 m' h'.2.1 h'.1
      have h2 := h'.2.2 m h.2.1 h.1
      have : m = m' := by omega
      rw [this]
theorem IsLast.uniq (h : IsLast A t o) (h' : IsLast A t o') : o = o' := by
  cases o with
  | none =>
    cases o' with
    | none => rfl
    | some m => exact absurd h'.1 (h m h'.2.1)
  | some m =>
    cases o' with
    | none => exact absurd h.1 (h' m h.2.1)
    | some m' =>
      have h1 := h.2.2 m' h'.2.1 h'.1
      have h2 := h'.2.2 m h.2.1 h.1
      have : m = m' := by omega
      rw [this]
theorem IsNext.congr (e : ∀ t, A t ↔ B t) (h : IsNext A t o) : IsNext B t o := by
  have : A = B := funext fun t => propext (e t)
  rw [← this]
  exact h
theorem IsLast.congr (e : ∀ t, A t ↔ B t) (h : IsLast A t o) : IsLast B t o := by
  have : A = B := funext fun t => propext (e t)
  rw [← this]
  exact h
/-- some members at or behind t, among them the least -/
structure Nxs (A : Int → Prop) (t : Int) (ms : List Int) : Prop where
  mem : ∀ m ∈ ms, A m ∧ t ≤ m
  all : ∀ s, t ≤ s → A s → ∃ m ∈ ms, m ≤ s
theorem Nxs.congr (e : ∀ t, A t ↔ B t) (h : Nxs A t ms) : Nxs B t ms := ⟨fun m hm => ⟨(e m).mp (h.mem m hm).1, (h.mem m hm).2⟩, fun s hs hB => h.all s hs ((e s).mpr hB)⟩
theorem Nxs.skip (h : Nxs A t ms) (n : IsNext B t none) : Nxs (fun s => A s ∨ B s) t ms :=
  ⟨fun m hm => ⟨.inl (h.mem m hm).1, (h.mem m hm).2⟩, fun s hs q => q.elim (h.all s hs) fun q => absurd q (n s hs)⟩
theorem Nxs.add (h : Nxs A t ms) (n : IsNext B t (some m)) : Nxs (fun s => A s ∨ B s) t (ms ++ [m]) := by
  refine ⟨fun x hx => ?_, fun s hs q => ?_⟩
  · rcases List.mem_append.mp hx with hx | hx
    · exact ⟨.inl (h.mem x hx).1, (h.mem x hx).2⟩
    · rw [List.mem_singleton.mp hx]
      exact ⟨.inr n.1, n.2.1⟩
  · rcases q with q | q
    · obtain ⟨x, hx, hl⟩ := h.all s hs q
      exact ⟨x, List.mem_append_left _ hx, hl⟩
    · exact ⟨m, List.mem_append_right _ List.mem_cons_self, n.2.2 s hs q⟩
theorem Nxs.least (h : Nxs A t ms) (hm : m ∈ ms) (hl : ∀ y ∈ ms, m ≤ y) : IsNext A t (some m) :=
  ⟨(h.mem m hm).1, (h.mem m hm).2, fun s hs q => let ⟨x, hx, l⟩ := h.all s hs q; Int.le_trans (hl x hx) l⟩
theorem Nxs.empty (h : Nxs A t []) : IsNext A t none := fun s hs q => by
  obtain ⟨_, hx, _⟩ := h.all s hs q
  cases hx
structure Lss (A : Int → Prop) (t : Int) (ms : List Int) : Prop where
  mem : ∀ m ∈ ms, A m ∧ m ≤ t
  all : ∀ s, s ≤ t → A s → ∃ m ∈ ms, s ≤ m
theorem Lss.congr (e : ∀ t, A t ↔ B t) (h : Lss A t ms) : Lss B t ms := ⟨fun m hm => ⟨(e m).mp (h.mem m hm).1, (h.mem m hm).2⟩, fun s hs hB => h.all s hs ((e s).mpr hB)⟩
theorem Lss.skip (h : Lss A t ms) (n : IsLast B t none) : Lss (fun s => A s ∨ B s) t ms :=
  ⟨fun m hm => ⟨.inl (h.mem m hm).1, (h.mem m hm).2⟩, fun s hs q => q.elim (h.all s hs) fun q => absurd q (n s hs)⟩
theorem Lss.add (h : Lss A t ms) (n : IsLast B t (some m)) : Lss (fun s => A s ∨ B s) t (ms ++ [m]) := by
  refine ⟨fun x hx => ?_, fun s hs q => ?_⟩
  · rcases List.mem_append.mp hx with hx | hx
    · exact ⟨.inl (h.mem x hx).1, (h.mem x hx).2⟩
    · rw [List.mem_singleton.mp hx]
      exact ⟨.inr n.1, n.2.1⟩
  · rcases q with q | q
    · obtain ⟨x, hx, hl⟩ := h.all s hs q
      exact ⟨x, List.mem_append_left _ hx, hl⟩
    · exact ⟨m, List.mem_append_right _ List.mem_cons_self, n.2.2 s hs q⟩
theorem Lss.greatest (h : Lss A t ms) (hm : m ∈ ms) (hl : ∀ y ∈ ms, y ≤ m) : IsLast A t (some m) :=
  ⟨(h.mem m hm).1, (h.mem m hm).2, fun s hs q => let ⟨x, hx, l⟩ := h.all s hs q; Int.le_trans l (hl x hx)⟩
theorem Lss.empty (h : Lss A t []) : IsLast A t none := fun s hs q => by
  obtain ⟨_, hx, _⟩ := h.all s hs q
  cases hx
/-! ### of one span -/
/-- the later one -/
def from_ (lo : Option Int) (t : Int) : Int := match lo with
  | none => t
  | some l => if l < t then t else l
theorem from_iff {s : Int} : from_ lo t ≤ s ↔ geLo lo s ∧ t ≤ s := by
  cases lo with
  | none =>
    show t ≤ s ↔ _
    rw [geN]
    simp
  | some l =>
    show (if l < t then t else l) ≤ s ↔ _
    rw [geS]
    split <;> omega
theorem next_res (r0 : 0 ≤ r) (r1 : r < p) (c : leHi hi (upTo p r (from_ lo t))) : IsNext (inSpan p ⟨some r, lo, hi⟩) t (some (upTo p r (from_ lo t))) := by
  have hp : 0 < p := by omega
  have h1 := (upTo_le (r := r) hp (from_ lo t)).1
  obtain ⟨h2, h3⟩ := from_iff.mp h1
  refine ⟨span_S.mpr ⟨upTo_mod r0 r1 _, h2, c⟩, h3, fun s hs q => ?_⟩
  obtain ⟨q1, q2, _⟩ := span_S.mp q
  exact (upTo_iff r0 r1 q1 _).mpr (from_iff.mpr ⟨q2, hs⟩)
theorem next_res_no (r0 : 0 ≤ r) (r1 : r < p) (c : ¬ leHi hi (upTo p r (from_ lo t))) : IsNext (inSpan p ⟨some r, lo, hi⟩) t none := by
  intro s hs q
  obtain ⟨q1, q2, q3⟩ := span_S.mp q
  refine c fun h e => ?_
  have := (upTo_iff r0 r1 q1 (from_ lo t)).mpr (from_iff.mpr ⟨q2, hs⟩)
  have := q3 h e
  omega
theorem next_any (c : leHi hi (from_ lo t)) : IsNext (inSpan p ⟨none, lo, hi⟩) t (some (from_ lo t)) := by
  obtain ⟨h2, h3⟩ := from_iff.mp (Int.le_refl (from_ lo t))
  refine ⟨span_N.mpr ⟨h2, c⟩, h3, fun s hs q => from_iff.mpr ⟨(span_N.mp q).1, hs⟩⟩
theorem next_any_no (c : ¬ leHi hi (from_ lo t)) : IsNext (inSpan p ⟨none, lo, hi⟩) t none := by
  intro s hs q
  obtain ⟨q2, q3⟩ := span_N.mp q
  refine c fun h e => ?_
  have := from_iff.mpr ⟨q2, hs⟩
  have := q3 h e
  omega
/-- by runOf -/
theorem next_run {x : Run} {g : Option Int} (r0 : 0 ≤ r) (r1 : r < p) (hg : ∀ s, geLo g s ↔ geLo lo s ∧ t ≤ s) (e : runOf p r g hi = some x) {l : Int} (el : x.lo = some l) : IsNext (inSpan p ⟨some r, lo, hi⟩) t (some l) := by
  obtain ⟨gx, _, hm⟩ := runOf_some r0 r1 e
  obtain ⟨h1, h2, h3⟩ := (hm l).mp (in_lo gx el)
  obtain ⟨h4, h5⟩ := (hg l).mp h2
  refine ⟨span_S.mpr ⟨h1, h4, h3⟩, h5, fun s hs q => ?_⟩
  obtain ⟨q1, q2, q3⟩ := span_S.mp q
  exact ((hm s).mpr ⟨q1, (hg s).mpr ⟨q2, hs⟩, q3⟩).2.1 l el
theorem next_run_no {g : Option Int} (r0 : 0 ≤ r) (r1 : r < p) (hg : ∀ s, geLo g s ↔ geLo lo s ∧ t ≤ s) (e : runOf p r g hi = none) : IsNext (inSpan p ⟨some r, lo, hi⟩) t none := by
  intro s hs q
  obtain ⟨q1, q2, q3⟩ := span_S.mp q
  exact runOf_none r0 r1 e s ⟨q1, (hg s).mpr ⟨q2, hs⟩, q3⟩
theorem last_run {x : Run} {g : Option Int} (r0 : 0 ≤ r) (r1 : r < p) (hg : ∀ s, leHi g s ↔ leHi hi s ∧ s ≤ t) (e : runOf p r lo g = some x) {l : Int} (el : x.hi = some l) : IsLast (inSpan p ⟨some r, lo, hi⟩) t (some l) := by
  obtain ⟨gx, _, hm⟩ := runOf_some r0 r1 e
  obtain ⟨h1, h2, h3⟩ := (hm l).mp (in_hi gx el)
  obtain ⟨h4, h5⟩ := (hg l).mp h3
  refine ⟨span_S.mpr ⟨h1, h2, h4⟩, h5, fun s hs q => ?_⟩
  obtain ⟨q1, q2, q3⟩ := span_S.mp q
  exact ((hm s).mpr ⟨q1, q2, (hg s).mpr ⟨q3, hs⟩⟩).2.2 l el
theorem last_run_no {g : Option Int} (r0 : 0 ≤ r) (r1 : r < p) (hg : ∀ s, leHi g s ↔ leHi hi s ∧ s ≤ t) (e : runOf p r lo g = none) : IsLast (inSpan p ⟨some r, lo, hi⟩) t none := by
  intro s hs q
  obtain ⟨q1, q2, q3⟩ := span_S.mp q
  exact runOf_none r0 r1 e s ⟨q1, q2, (hg s).mpr ⟨q3, hs⟩⟩
theorem runOf_lo {x : Run} {l : Int} (e : runOf p r (some l) hi = some x) : ∃ m, x.lo = some m := by
  unfold runOf at e
  cases hi with
  | none =>
    simp at e
    rw [← e]
    exact ⟨_, rfl⟩
  | some h =>
    simp only [Option.map_some] at e
    split at e
    · cases e
    · rw [← Option.some.inj e]
      exact ⟨_, rfl⟩
theorem runOf_hi {x : Run} {l : Int} (e : runOf p r lo (some l) = some x) : ∃ m, x.hi = some m := by
  unfold runOf at e
  cases lo with
  | none =>
    simp at e
    rw [← e]
    exact ⟨_, rfl⟩
  | some h =>
    simp only [Option.map_some] at e
    split at e
    · cases e
    · rw [← Option.some.inj e]
      exact ⟨_, rfl⟩
/-! ### turned about -/
theorem IsNext.turn (h : IsNext (fun s => A (-s)) (-t) o) : IsLast A t (o.map fun m => -m) := by
  cases o with
  | none => exact fun s hs q => h (-s) (by omega) (by show A (- -s); rw [Int.neg_neg]; exact q)
  | some m =>
    refine ⟨h.1, ?_, fun s hs q => ?_⟩
    · have := h.2.1
      show -m ≤ t
      omega
    · have := h.2.2 (-s) (by omega) (by show A (- -s); rw [Int.neg_neg]; exact q)
      show s ≤ -m
      omega
/-- a span turned about -/
def turn (p : Int) (s : Sp3) : Sp3 := ⟨s.res.map fun r => (-r) % p, s.hi.map fun m => -m, s.lo.map fun m => -m⟩
theorem turn_mem {s : Sp3} (hp : 0 < p) (ok : SpOk p s) : inSpan p (turn p s) t ↔ inSpan p s (-t) := by
  obtain ⟨res, lo, hi⟩ := s
  unfold inSpan turn
  have h1 : (∀ r, (res.map fun r => (-r) % p) = some r → t % p = r) ↔ ∀ r, res = some r → (-t) % p = r := by
    cases res with
    | none => simp
    | some r =>
      obtain ⟨r0, r1⟩ := ok r rfl
      simp only [Option.map_some, Option.some.injEq, forall_eq']
      constructor
      · intro h
        have e : (-t) % p = r % p := by
          have : (-t - r) % p = 0 := by
            have h2 : (t + r) % p = 0 := by
              have := Int.emod_emod_of_dvd (-r) (Int.dvd_refl p)
              have h3 : t % p = (-r) % p := h
              have h4 := Int.emod_emod_of_dvd t (Int.dvd_refl p)
              rw [Int.add_emod, h3, ← Int.add_emod]
              have : -r + r = 0 := by omega
              rw [this]
              exact Int.zero_emod p
            have e1 : -t - r = -(t + r) := by omega
            rw [e1]
            exact Int.emod_eq_zero_of_dvd (Int.dvd_neg.mpr (Int.dvd_of_emod_eq_zero h2))
          exact Int.emod_eq_emod_iff_emod_sub_eq_zero.mpr this
        rw [e, Int.emod_eq_of_lt r0 r1]
      · intro h
        have e : t % p = (-r) % p := by
          have : (t - -r) % p = 0 := by
            have e1 : t - -r = -(-t - r) := by omega
            rw [e1]
            refine Int.emod_eq_zero_of_dvd (Int.dvd_neg.mpr (Int.dvd_of_emod_eq_zero ?_))
            refine Int.emod_eq_emod_iff_emod_sub_eq_zero.mp ?_
            rw [h, Int.emod_eq_of_lt r0 r1]
          exact Int.emod_eq_emod_iff_emod_sub_eq_zero.mpr this
        exact e
  have h2 : geLo (hi.map fun m => -m) t ↔ leHi hi (-t) := by
    cases hi with
    | none => rw [Option.map_none, geN, leN]
    | some m =>
      rw [Option.map_some, geS, leS]
      omega
  have h3 : leHi (lo.map fun m => -m) t ↔ geLo lo (-t) := by
    cases lo with
    | none => rw [Option.map_none, geN, leN]
    | some m =>
      rw [Option.map_some, geS, leS]
      omega
  rw [h1, h2, h3]
  exact ⟨fun ⟨a, b, c⟩ => ⟨a, c, b⟩, fun ⟨a, b, c⟩ => ⟨a, c, b⟩⟩
theorem turns_mem (hp : 0 < p) {ss : List Sp3} (ok : ∀ s ∈ ss, SpOk p s) : inSpans p (ss.map (turn p)) t ↔ inSpans p ss (-t) := by
  constructor
  · rintro ⟨s, hs, m⟩
    obtain ⟨z, hz, rfl⟩ := List.mem_map.mp hs
    exact ⟨z, hz, (turn_mem hp (ok z hz)).mp m⟩
  · rintro ⟨z, hz, m⟩
    exact ⟨_, List.mem_map.mpr ⟨z, hz, rfl⟩, (turn_mem hp (ok z hz)).mpr m⟩
theorem turn_ok (hp : 0 < p) {s : Sp3} : SpOk p (turn p s) := fun r e => by
  unfold turn at e
  cases h : s.res with
  | none => rw [h] at e; cases e
  | some q =>
    rw [h] at e
    have e := Option.some.inj e
    rw [← e]
    exact ⟨Int.emod_nonneg _ (by omega), Int.emod_lt_of_pos _ hp⟩
/-! ### the first member -/
def Before (m s : Int) : Prop := m.natAbs < s.natAbs ∨ (m.natAbs = s.natAbs ∧ m ≤ s)
def IsFirst (A : Int → Prop) : Option Int → Prop
  | none => ∀ s, ¬ A s
  | some m => A m ∧ ∀ s, A s → Before m s
theorem IsFirst.uniq (h : IsFirst A o) (h' : IsFirst A o') : o = o' := by
  cases o with
  | none =>
    cases o' with
    | none => rfl
    | some m => exact absurd h'.1 (h m)
  | some m =>
    cases o' with
    | none => exact absurd h.1 (h' m)
    | some m' =>
      have h1 := h.2 m' h'.1
      have h2 := h'.2 m h.1
      unfold Before at h1 h2
      have : m = m' := by omega
      rw [this]
theorem IsFirst.congr (e : ∀ t, A t ↔ B t) (h : IsFirst A o) : IsFirst B o := by
  have : A = B := funext fun t => propext (e t)
  rw [← this]
  exact h
theorem first_none (h1 : IsNext A 0 none) (h2 : IsLast A 0 none) : IsFirst A none := fun s q => by
  rcases Int.le_total 0 s with h | h
  · exact h1 s h q
  · exact h2 s h q
theorem first_next {m : Int} (h1 : IsNext A 0 (some m)) (h2 : IsLast A 0 o) (h : ∀ l, o = some l → Before m l) : IsFirst A (some m) := by
  refine ⟨h1.1, fun s q => ?_⟩
  rcases Int.le_total 0 s with c | c
  · have := h1.2.2 s c q
    have := h1.2.1
    unfold Before
    omega
  · cases o with
    | none => exact absurd q (h2 s c)
    | some l =>
      have a := h l rfl
      have b := h2.2.2 s c q
      have d := h2.2.1
      unfold Before at a ⊢
      omega
theorem first_last {m : Int} (h1 : IsNext A 0 o) (h2 : IsLast A 0 (some m)) (h : ∀ l, o = some l → Before m l) : IsFirst A (some m) := by
  refine ⟨h2.1, fun s q => ?_⟩
  rcases Int.le_total 0 s with c | c
  · cases o with
    | none => exact absurd q (h1 s c)
    | some l =>
      have a := h l rfl
      have b := h1.2.2 s c q
      have d := h1.2.1
      unfold Before at a ⊢
      omega
  · have := h2.2.2 s c q
    have := h2.2.1
    unfold Before
    omega
end
end Rn
end

section

namespace Rn
/-! ### without end -/
def Unb (A : Int → Prop) : Prop := (∀ b, ∃ t, t < b ∧ A t) ∨ (∀ b, ∃ t, b < t ∧ A t)
section
variable {A B : Int → Prop} {t m p r : Int}
theorem Unb.congr (e : ∀ t, A t ↔ B t) : Unb A ↔ Unb B := by
  have : A = B := funext fun t => propext (e t)
  rw [this]
theorem bounded {ss : List Sp3} (h : ∀ s ∈ ss, s.lo ≠ none ∧ s.hi ≠ none) : ∃ L M, ∀ t, inSpans p ss t → L ≤ t ∧ t ≤ M := by
  induction ss with
  | nil => exact ⟨0, 0, fun t ⟨_, hx, _⟩ => nomatch hx⟩
  | cons s ss ih =>
    obtain ⟨L, M, hb⟩ := ih fun z hz => h z (List.mem_cons_of_mem _ hz)
    obtain ⟨h1, h2⟩ := h s List.mem_cons_self
    obtain ⟨l, el⟩ := Option.ne_none_iff_exists'.mp h1
    obtain ⟨u, eu⟩ := Option.ne_none_iff_exists'.mp h2
    refine ⟨min l L, max u M, fun t q => ?_⟩
    rcases spans_cons.mp q with q | q
    · have a := q.2.1 l el
      have b := q.2.2 u eu
      omega
    · have a := hb t q
      omega
theorem unb_iff (hp : 0 < p) {ss : List Sp3} (ok : ∀ s ∈ ss, SpOk p s) : Unb (inSpans p ss) ↔ ∃ s ∈ ss, s.lo = none ∨ s.hi = none := by
  constructor
  · intro h
    rcases Classical.em (∃ s ∈ ss, s.lo = none ∨ s.hi = none) with c | c
    · exact c
    · obtain ⟨L, M, hb⟩ := bounded (p := p) (ss := ss) fun s hs => ⟨fun e => c ⟨s, hs, .inl e⟩, fun e => c ⟨s, hs, .inr e⟩⟩
      rcases h with h | h
      · obtain ⟨t, ht, q⟩ := h L
        have := hb t q
        omega
      · obtain ⟨t, ht, q⟩ := h M
        have := hb t q
        omega
  · rintro ⟨s, hs, h⟩
    have res : ∃ r, 0 ≤ r ∧ r < p ∧ ∀ t, t % p = r → ∀ q, s.res = some q → t % p = q := by
      cases e : s.res with
      | none => exact ⟨0, by omega, by omega, fun t _ q e => nomatch e⟩
      | some r =>
        obtain ⟨r0, r1⟩ := ok s hs r e
        exact ⟨r, r0, r1, fun t h q e => by cases e; exact h⟩
    obtain ⟨r, r0, r1, hr⟩ := res
    rcases h with h | h
    · refine .inl fun b => ?_
      obtain ⟨t, h1, h2⟩ := below hp r0 r1 (min b (s.hi.getD b))
      refine ⟨t, by omega, s, hs, hr t h1, (fun l e => by rw [h] at e; cases e), fun u e => ?_⟩
      rw [e] at h2
      have : (some u).getD b = u := rfl
      omega
    · refine .inr fun b => ?_
      obtain ⟨t, h1, h2⟩ := above hp r0 r1 (max b (s.lo.getD b))
      refine ⟨t, by omega, s, hs, hr t h1, fun u e => ?_, fun l e => by rw [h] at e; cases e⟩
      rw [e] at h2
      have : (some u).getD b = u := rfl
      omega
/-! ### rhythm -/
def EvPer (A : Int → Prop) (m : Int) : Prop := (∃ b, ∀ t, b ≤ t → (A t ↔ A (t + m))) ∧ (∃ b, ∀ t, t ≤ b → (A t ↔ A (t + m)))
structure IsRhythm (A : Int → Prop) (m : Int) : Prop where
  pos : 1 ≤ m
  per : EvPer A m
  least : ∀ k, 1 ≤ k → k < m → ¬ EvPer A k
theorem IsRhythm.uniq {n : Int} (h : IsRhythm A m) (h' : IsRhythm A n) : m = n := by
  rcases Int.lt_trichotomy m n with c | c | c
  · exact absurd h.per (h'.least m h.pos c)
  · exact c
  · exact absurd h'.per (h.least n h'.pos c)
theorem IsRhythm.congr (e : ∀ t, A t ↔ B t) (h : IsRhythm A m) : IsRhythm B m := by
  have : A = B := funext fun t => propext (e t)
  rw [← this]
  exact h
/-- residues that go on -/
def Alike (p : Int) (S : Int → Prop) (m : Int) : Prop := ∀ r, 0 ≤ r → r < p → S r → S ((r + m) % p)
theorem alike_iter (hp : 0 < p) {S : Int → Prop} (h : Alike p S m) : ∀ (k : Nat) (r : Int), 0 ≤ r → r < p → S r → S ((r + k * m) % p)
  | 0, r, r0, r1, hs => by
    have e : r + ((0 : Nat) : Int) * m = r := by simp
    rw [e, Int.emod_eq_of_lt r0 r1]
    exact hs
  | k + 1, r, r0, r1, hs => by
    have ih := alike_iter hp h k r r0 r1 hs
    have := h _ (Int.emod_nonneg _ (by omega)) (Int.emod_lt_of_pos _ hp) ih
    rw [Int.emod_add_emod] at this
    have e : r + ((k + 1 : Nat) : Int) * m = r + (k : Int) * m + m := by
      rw [Int.natCast_add, Int.add_mul]
      simp
      omega
    rw [e]
    exact this
theorem alike_iff (hp : 0 < p) {S : Int → Prop} (h : Alike p S m) (r0 : 0 ≤ r) (r1 : r < p) : S r ↔ S ((r + m) % p) := by
  refine ⟨h r r0 r1, fun q => ?_⟩
  have := alike_iter hp h (p.toNat - 1) _ (Int.emod_nonneg _ (by omega)) (Int.emod_lt_of_pos _ hp) q
  rw [Int.emod_add_emod] at this
  have e : r + m + ((p.toNat - 1 : Nat) : Int) * m = r + p * m := by
    have : ((p.toNat - 1 : Nat) : Int) = p - 1 := by omega
    rw [this, Int.sub_mul]
    omega
  rw [e, Int.add_mul_emod_self_left, Int.emod_eq_of_lt r0 r1] at this
  exact this
theorem per_up (hp : 0 < p) {S : Int → Prop} (m0 : 0 ≤ m) (tail : ∃ b, ∀ t, b ≤ t → (A t ↔ S (t % p))) : (∃ b, ∀ t, b ≤ t → (A t ↔ A (t + m))) ↔ Alike p S m := by
  obtain ⟨b, hb⟩ := tail
  constructor
  · rintro ⟨c, hc⟩ r r0 r1 hs
    obtain ⟨t, h1, h2⟩ := above hp r0 r1 (max b c)
    have q := (hc t (by omega)).mp ((hb t (by omega)).mpr (by rw [h1]; exact hs))
    have := (hb (t + m) (by omega)).mp q
    rw [← Int.emod_add_emod, h1] at this
    exact this
  · intro h
    refine ⟨b, fun t ht => ?_⟩
    rw [hb t ht, hb (t + m) (by omega), ← Int.emod_add_emod]
    exact alike_iff hp h (Int.emod_nonneg _ (by omega)) (Int.emod_lt_of_pos _ hp)
theorem per_down (hp : 0 < p) {S : Int → Prop} (m0 : 0 ≤ m) (tail : ∃ b, ∀ t, t ≤ b → (A t ↔ S (t % p))) : (∃ b, ∀ t, t ≤ b → (A t ↔ A (t + m))) ↔ Alike p S m := by
  obtain ⟨b, hb⟩ := tail
  constructor
  · rintro ⟨c, hc⟩ r r0 r1 hs
    obtain ⟨t, h1, h2⟩ := below hp r0 r1 (min (b - m) c)
    have q := (hc t (by omega)).mp ((hb t (by omega)).mpr (by rw [h1]; exact hs))
    have := (hb (t + m) (by omega)).mp q
    rw [← Int.emod_add_emod, h1] at this
    exact this
  · intro h
    refine ⟨b - m, fun t ht => ?_⟩
    rw [hb t (by omega), hb (t + m) (by omega), ← Int.emod_add_emod]
    exact alike_iff hp h (Int.emod_nonneg _ (by omega)) (Int.emod_lt_of_pos _ hp)
/-- residues of spans without an end, without a beginning -/
def ahd (ss : List Sp3) (r : Int) : Prop := ∃ s ∈ ss, s.hi = none ∧ ∀ q, s.res = some q → r = q
def bkd (ss : List Sp3) (r : Int) : Prop := ∃ s ∈ ss, s.lo = none ∧ ∀ q, s.res = some q → r = q
def Within (b : Int) (ss : List Sp3) : Prop := ∀ s ∈ ss, ∀ l, s.lo = some l ∨ s.hi = some l → -b ≤ l ∧ l ≤ b
theorem within_ex (ss : List Sp3) : ∃ b, 0 ≤ b ∧ Within b ss := by
  induction ss with
  | nil => exact ⟨0, by omega, fun s hs => nomatch hs⟩
  | cons s ss ih =>
    obtain ⟨b, b0, hb⟩ := ih
    have one : ∀ o : Option Int, ∃ c, 0 ≤ c ∧ ∀ l, o = some l → -c ≤ l ∧ l ≤ c := fun o => by
      cases o with
      | none => exact ⟨0, by omega, fun l e => nomatch e⟩
      | some x => exact ⟨x.natAbs, by omega, fun l e => by cases e; omega⟩
    obtain ⟨c, c0, hc⟩ := one s.lo
    obtain ⟨d, d0, hd⟩ := one s.hi
    refine ⟨max b (max c d), by omega, fun z hz l e => ?_⟩
    rcases List.mem_cons.mp hz with rfl | hz
    · rcases e with e | e
      · have := hc l e
        omega
      · have := hd l e
        omega
    · have := hb z hz l e
      omega
theorem tail_up {ss : List Sp3} {b : Int} (h : Within b ss) (ht : b < t) : inSpans p ss t ↔ ahd ss (t % p) := by
  constructor
  · rintro ⟨s, hs, h1, h2, h3⟩
    refine ⟨s, hs, ?_, h1⟩
    cases e : s.hi with
    | none => rfl
    | some u =>
      have := h3 u e
      have := h s hs u (.inr e)
      omega
  · rintro ⟨s, hs, h1, h2⟩
    refine ⟨s, hs, h2, fun l e => ?_, fun u e => by rw [h1] at e; cases e⟩
    have := h s hs l (.inl e)
    omega
theorem tail_down {ss : List Sp3} {b : Int} (h : Within b ss) (ht : t < -b) : inSpans p ss t ↔ bkd ss (t % p) := by
  constructor
  · rintro ⟨s, hs, h1, h2, h3⟩
    refine ⟨s, hs, ?_, h1⟩
    cases e : s.lo with
    | none => rfl
    | some u =>
      have := h2 u e
      have := h s hs u (.inl e)
      omega
  · rintro ⟨s, hs, h1, h2⟩
    refine ⟨s, hs, h2, fun u e => (by rw [h1] at e; cases e), fun l e => ?_⟩
    have := h s hs l (.inr e)
    omega
theorem evper_iff (hp : 0 < p) {ss : List Sp3} (m0 : 0 ≤ m) : EvPer (inSpans p ss) m ↔ Alike p (ahd ss) m ∧ Alike p (bkd ss) m := by
  obtain ⟨b, b0, hb⟩ := within_ex ss
  unfold EvPer
  rw [per_up hp (S := ahd ss) m0 ⟨b + 1, fun t ht => tail_up hb (by omega)⟩, per_down hp (S := bkd ss) m0 ⟨-b - 1, fun t ht => tail_down hb (by omega)⟩]
theorem alike_p (S : Int → Prop) : Alike p S p := fun r r0 r1 hs => by
  rw [Int.add_emod_right, Int.emod_eq_of_lt r0 r1]
  exact hs
/-- what a search from 1 on finds -/
theorem rhythm_of (hp : 0 < p) {ss : List Sp3} (h1 : 1 ≤ m) (h2 : m ≤ p) (h3 : m < p → Alike p (ahd ss) m ∧ Alike p (bkd ss) m) (h4 : ∀ k, 1 ≤ k → k < m → ¬ (Alike p (ahd ss) k ∧ Alike p (bkd ss) k)) : IsRhythm (inSpans p ss) m := by
  refine ⟨h1, ?_, fun k k1 k2 q => h4 k k1 k2 ((evper_iff hp (by omega)).mp q)⟩
  rw [evper_iff hp (by omega)]
  rcases Int.lt_or_le m p with c | c
  · exact h3 c
  · have e : m = p := by omega
    rw [e]
    exact ⟨alike_p _, alike_p _⟩
/-- a window of all residues far away -/
theorem window_up {ss : List Sp3} {b c : Int} (hp : 0 < p) (h : Within b ss) (hc : b < c) (m0 : 0 ≤ m) : (∀ t, c ≤ t → t < c + p → (inSpans p ss t ↔ inSpans p ss (t + m))) ↔ Alike p (ahd ss) m := by
  constructor
  · intro q r r0 r1 hs
    have e : (c + (r - c) % p) % p = r := upTo_mod r0 r1 c
    have g0 := Int.emod_nonneg (r - c) (show p ≠ 0 by omega)
    have g1 := Int.emod_lt_of_pos (r - c) hp
    have := (q (c + (r - c) % p) (by omega) (by omega)).mp ((tail_up h (by omega)).mpr (by rw [e]; exact hs))
    have := (tail_up (p := p) h (t := c + (r - c) % p + m) (by omega)).mp this
    rw [← Int.emod_add_emod, e] at this
    exact this
  · intro q t t0 t1
    rw [tail_up h (by omega), tail_up h (t := t + m) (by omega), ← Int.emod_add_emod]
    exact alike_iff hp q (Int.emod_nonneg _ (by omega)) (Int.emod_lt_of_pos _ hp)
theorem window_down {ss : List Sp3} {b c : Int} (hp : 0 < p) (h : Within b ss) (hc : c + p + m < -b) (m0 : 0 ≤ m) : (∀ t, c ≤ t → t < c + p → (inSpans p ss t ↔ inSpans p ss (t + m))) ↔ Alike p (bkd ss) m := by
  constructor
  · intro q r r0 r1 hs
    have e : (c + (r - c) % p) % p = r := upTo_mod r0 r1 c
    have g0 := Int.emod_nonneg (r - c) (show p ≠ 0 by omega)
    have g1 := Int.emod_lt_of_pos (r - c) hp
    have := (q (c + (r - c) % p) (by omega) (by omega)).mp ((tail_down h (by omega)).mpr (by rw [e]; exact hs))
    have := (tail_down (p := p) h (t := c + (r - c) % p + m) (by omega)).mp this
    rw [← Int.emod_add_emod, e] at this
    exact this
  · intro q t t0 t1
    rw [tail_down h (by omega), tail_down h (t := t + m) (by omega), ← Int.emod_add_emod]
    exact alike_iff hp q (Int.emod_nonneg _ (by omega)) (Int.emod_lt_of_pos _ hp)
/-- .. of runs -/
theorem ahd_runs {zs : List Run} : ahd (zs.map Run.span) r ↔ ∃ z ∈ zs, z.hi = none ∧ z.r = r := by
  constructor
  · rintro ⟨s, hs, h1, h2⟩
    obtain ⟨z, hz, rfl⟩ := List.mem_map.mp hs
    exact ⟨z, hz, h1, (h2 z.r rfl).symm⟩
  · rintro ⟨z, hz, h1, h2⟩
    exact ⟨z.span, List.mem_map.mpr ⟨z, hz, rfl⟩, h1, fun q e => by cases e; exact h2.symm⟩
theorem bkd_runs {zs : List Run} : bkd (zs.map Run.span) r ↔ ∃ z ∈ zs, z.lo = none ∧ z.r = r := by
  constructor
  · rintro ⟨s, hs, h1, h2⟩
    obtain ⟨z, hz, rfl⟩ := List.mem_map.mp hs
    exact ⟨z, hz, h1, (h2 z.r rfl).symm⟩
  · rintro ⟨z, hz, h1, h2⟩
    exact ⟨z.span, List.mem_map.mpr ⟨z, hz, rfl⟩, h1, fun q e => by cases e; exact h2.symm⟩
end
end Rn
end

section
set_option maxHeartbeats 4000000
namespace TM
open PySem PySem.Spec PyProof.Rows L2 EW
abbrev NNextIn : List Str := ["period", "runs", "time", "found", "residue", "least", "most", "run"]
theorem NextIn : FnScope NNextIn ["period", "runs", "time"] (defScope sNextIn) := ⟨rfl, rfl, rfl, by decide +kernel, rfl, by decide +kernel, by decide +kernel⟩
abbrev NLastIn : List Str := ["period", "runs", "time", "found", "residue", "least", "most", "run"]
theorem LastIn : FnScope NLastIn ["period", "runs", "time"] (defScope sLastIn) := ⟨rfl, rfl, rfl, by decide +kernel, rfl, by decide +kernel, by decide +kernel⟩
abbrev NReqI : List Str := ["value"]
theorem ReqI : FnScope NReqI ["value"] (defScope sReqI) := ⟨rfl, rfl, rfl, by decide +kernel, rfl, by decide +kernel, by decide +kernel⟩
abbrev NAfter : List Str := ["self", "time"]
theorem After : FnScope NAfter ["self", "time"] (defScope sAfter) := ⟨rfl, rfl, rfl, by decide +kernel, rfl, by decide +kernel, by decide +kernel⟩
abbrev NBefor : List Str := ["self", "time"]
theorem Befor : FnScope NBefor ["self", "time"] (defScope sBefor) := ⟨rfl, rfl, rfl, by decide +kernel, rfl, by decide +kernel, by decide +kernel⟩
theorem grt_at {lo : Option Int} {t s : Int} : Rn.geLo (grt lo (some t)) s ↔ Rn.geLo lo s ∧ t ≤ s := by
  rw [grt_iff, Rn.geS]
theorem lst_at {hi : Option Int} {t s : Int} : Rn.leHi (lst hi (some t)) s ↔ Rn.leHi hi s ∧ s ≤ t := by
  rw [lst_iff, Rn.leS]
theorem grt_some (lo : Option Int) (t : Int) : ∃ u, grt lo (some t) = some u := by
  cases lo with
  | none => exact ⟨t, rfl⟩
  | some l => exact ⟨_, rfl⟩
theorem lst_some (lo : Option Int) (t : Int) : ∃ u, lst lo (some t) = some u := by
  cases lo with
  | none => exact ⟨t, rfl⟩
  | some l => exact ⟨_, rfl⟩
def spNext (K : W.Frag) : Sp := fun vs H Q _ => ∃ (p t : Int) (l : Addr) (zs : List Rn.Run), vs = [.int p, .ref l, .int t] ∧ 0 < p ∧ RunsAt K H l p zs ∧ ∀ (o : Option Int) (H' : Hp), Same H H' → Rn.IsNext (Rn.inRuns p zs) t o → Q (ob o) H'
def spLast (K : W.Frag) : Sp := fun vs H Q _ => ∃ (p t : Int) (l : Addr) (zs : List Rn.Run), vs = [.int p, .ref l, .int t] ∧ 0 < p ∧ RunsAt K H l p zs ∧ ∀ (o : Option Int) (H' : Hp), Same H H' → Rn.IsLast (Rn.inRuns p zs) t o → Q (ob o) H'
theorem runs_snoc {p t : Int} {zs : List Rn.Run} {z : Rn.Run} : Rn.inRuns p zs t ∨ Rn.inSpan p ⟨some z.r, z.lo, z.hi⟩ t ↔ Rn.inRuns p (zs ++ [z]) t := by
  rw [Rn.inRuns_append, Rn.inRuns_one, Rn.span_S]
  rfl
section
variable {P : Program} {w : World} {K : W.Frag} {mg : Str → Option Value} {base : Heap}
theorem ok_nextIn {fd : FuncData} (F : FnP K "next_in" sNextIn fd) (T : Fre mg) (Drun_of : Df P w K mg base 2 "run_of" ["period", "residue", "least", "most"] spRunOf) (Dgreater_of : Df P w K mg base 1 "greater_of" ["one", "other"] (spTwo grt)) :
    FnOk P w K mg base CX0 3 (He.ga K "next_in") fd ["period", "runs", "time"] (spNext K) := by
  refine F.ok NextIn (fun vs H Q E h => ?_) (fun cdv A outer s H vs Q E hr h => ?_)
  · obtain ⟨p, t, l, zs, rfl, _⟩ := h
    rfl
  · obtain ⟨p, t, l, zs, rfl, hp, ⟨ys, hY, Ry, cz, hzl⟩, k⟩ := h
    have hyl := Ry.length
    have hbig : (10000000 : Nat) < sizeLine := by decide
    refine ⟨_, PSs.nox (pss_cons (ps_set (i := 3) NextIn.nd rfl (Or.inl rfl) (pe_lstS pa_nil))
      (pss_cons (ps_for PassesOwn.never rfl (pi_tupK (K := K) rfl (pv 1)) (pg_tup rfl (pgs_cons (pg_name (i := 4) NextIn.nd rfl (Or.inl rfl)) (pgs_cons (pg_name (i := 5) NextIn.nd rfl (Or.inl rfl)) (pgs_cons (pg_name (i := 6) NextIn.nd rfl (Or.inl rfl)) pgs_nil)))) (pss_cons (ps_cut (ps_set (i := 7) NextIn.nd rfl (Or.inl rfl) (pe_df Drun_of (hr.mono (by decide)) rfl (pa_cons (pv 0) (pa_cons (pv 4) (pa_cons (pe_df Dgreater_of (hr.mono (by decide)) rfl (pa_cons (pv 5) (pa_cons (pv 2) pa_nil))) (pa_cons (pv 6) pa_nil)))))))
      (pss_one (ps_if (pt_cmp (pc_notN (pv 7))) (pss_one (ps_expr (pe_bm PySem.F.plainAttrs_list PySem.F.slot_list_append PySem.F.type_list_append mt_append (pv 3) (pa_cons (pe_ix (ix_tupK K rfl) (pv 7) pe_int (fun _ _ => rfl)) pa_nil)))) pss_nil))))
      (pss_one (ps_ret (pe_ifExp (pt_cmpR (op_neDK K rfl hr.units) (pv 3) (pl_lst (K := K) (by show 0 ≤ sizeLine; decide) pls_nil) (nomark _)) (pe_callB (cr_minK K rfl rfl) (by rfl) T.min EW.boot_min (pa_cons (pv 3) pa_nil)) pe_non))))), ?_⟩
    refine ⟨Nat.zero_le _, fun G H1 n1 s1 e1 => ?_⟩
    refine ⟨_, rfl, l, rfl, ⟨_, SqT.same hY s1⟩, ?_⟩
    refine for_tup (K := K) (a := l) (xs := ys) (fun i σ' H' => ∃ (u4 u5 u6 u7 : Option V) (ms : List Int), σ' = [some (.int p), some (.ref l), some (.int t), some (.ref G), u4, u5, u6, u7] ∧ Same H H' ∧ H' G = some (.lst (ms.map V.int)) ∧ Rn.Nxs (Rn.inRuns p (zs.take i)) t ms ∧ ms.length ≤ i) ⟨_, _, _, _, [], rfl, s1, e1, ⟨(fun m hm => nomatch hm), fun s _ q => by obtain ⟨_, hx, _⟩ := q; rw [List.take_zero] at hx; cases hx⟩, Nat.le_refl _⟩ ?_ ?_ ?_
    · rintro i σ' H' _ ⟨u4, u5, u6, u7, ms, _, s2, _⟩
      exact SqT.same hY s2
    · rintro i x σ' H2 hx ⟨u4, u5, u6, u7, ms, rfl, s2, eG, hN, hml⟩
      obtain ⟨z, hz, Sx⟩ := pr_get Ry hx
      have mz := List.mem_of_getElem? hz
      have gz := cz.good z mz
      have hi : i < ys.length := (List.getElem?_eq_some_iff.mp hx).1
      have et : zs.take (i + 1) = zs.take i ++ [z] := by
        rw [List.take_add_one, hz]
        rfl
      obtain ⟨ax, rfl, hX⟩ := Tp.same Sx s2
      refine ⟨ax, _, rfl, hX, rfl, _, _, rfl, _, _, rfl, _, _, rfl, rfl, ?_⟩
      refine ⟨fun σ' H' => ∃ v, σ' = [some (.int p), some (.ref l), some (.int t), some (.ref G), some (.int z.r), some (ob z.lo), some (ob z.hi), some v] ∧ Same H2 H' ∧ ((v = .non ∧ Rn.IsNext (Rn.inSpan p ⟨some z.r, z.lo, z.hi⟩) t none) ∨ ∃ (q : Addr) (m : Int) (w1 w3 : V), v = .ref q ∧ H' q = some (.tup [w1, .int m, w3]) ∧ Rn.IsNext (Rn.inSpan p ⟨some z.r, z.lo, z.hi⟩) t (some m)), ?_, ?_⟩
      · refine ⟨_, rfl, _, rfl, _, rfl, _, rfl, z.lo, some t, rfl, _, rfl, p, z.r, grt z.lo (some t), z.hi, rfl, hp, ?_⟩
        cases e : Rn.runOf p z.r (grt z.lo (some t)) z.hi with
        | none => exact fun H3 s3 => ⟨_, rfl, s3, .inl ⟨rfl, Rn.next_run_no gz.r0 gz.r1 (fun s => grt_at) e⟩⟩
        | some y =>
          refine fun q H3 n3 s3 e3 => ?_
          obtain ⟨u, eu⟩ := grt_some z.lo t
          obtain ⟨m, em⟩ : ∃ m, y.lo = some m := by
            rw [eu] at e
            exact Rn.runOf_lo e
          rw [em] at e3
          exact ⟨_, rfl, s3, .inr ⟨q, m, _, _, rfl, e3, Rn.next_run gz.r0 gz.r1 (fun s => grt_at) e em⟩⟩
      rintro σ' H3 ⟨v, rfl, s3, h⟩
      have s23 := Same.trans s2 s3
      refine ⟨_, rfl, _, rfl, ?_⟩
      rcases h with ⟨rfl, hn⟩ | ⟨q, m, w1, w3, rfl, eq, hn⟩
      · refine iteF ⟨_, _, _, _, ms, rfl, s23, s3 _ _ eG, ?_, by omega⟩
        rw [et]
        exact (hN.skip hn).congr fun s => runs_snoc
      · refine iteT ⟨_, rfl, Or.inl ⟨rfl, _, SqL.of (s3 _ _ eG)⟩, _, rfl, q, _, _, _, rfl, rfl, SqT.of eq, rfl, G, _, _, rfl, rfl, s3 _ _ eG, by rw [List.length_map]; omega, ?_⟩
        refine ⟨_, _, _, _, ms ++ [m], rfl, same_upd s23 n1, by rw [upd_same, List.map_append]; rfl, ?_, by rw [List.length_append]; exact Nat.succ_le_succ hml⟩
        rw [et]
        exact (hN.add hn).congr fun s => runs_snoc
    · rintro σ' H2 ⟨u4, u5, u6, u7, ms, rfl, s2, eG, hN, hml⟩
      rw [hyl, List.take_length] at hN
      refine ⟨_, rfl, fun q H3 s3 d3 => neNil (.lst (SqL.of (s3 _ _ eG)) (ints_dp ms)) (shaped_ints ms) d3 ⟨_, rfl, ?_⟩⟩
      have s23 := Same.trans s2 s3
      cases ms with
      | nil => exact iteF (k none H3 s23 hN.empty)
      | cons m0 mr => exact iteT ⟨_, rfl, G, _, rfl, SqL.of (s3 _ _ eG), Nat.succ_pos _, fun m hm hl => k (some m) H3 s23 (hN.least hm hl)⟩
theorem ok_lastIn {fd : FuncData} (F : FnP K "last_in" sLastIn fd) (T : Fre mg) (Drun_of : Df P w K mg base 2 "run_of" ["period", "residue", "least", "most"] spRunOf) (Dlesser_of : Df P w K mg base 1 "lesser_of" ["one", "other"] (spTwo lst)) :
    FnOk P w K mg base CX0 3 (He.ga K "last_in") fd ["period", "runs", "time"] (spLast K) := by
  refine F.ok LastIn (fun vs H Q E h => ?_) (fun cdv A outer s H vs Q E hr h => ?_)
  · obtain ⟨p, t, l, zs, rfl, _⟩ := h
    rfl
  · obtain ⟨p, t, l, zs, rfl, hp, ⟨ys, hY, Ry, cz, hzl⟩, k⟩ := h
    have hyl := Ry.length
    have hbig : (10000000 : Nat) < sizeLine := by decide
    refine ⟨_, PSs.nox (pss_cons (ps_set (i := 3) LastIn.nd rfl (Or.inl rfl) (pe_lstS pa_nil))
      (pss_cons (ps_for PassesOwn.never rfl (pi_tupK (K := K) rfl (pv 1)) (pg_tup rfl (pgs_cons (pg_name (i := 4) LastIn.nd rfl (Or.inl rfl)) (pgs_cons (pg_name (i := 5) LastIn.nd rfl (Or.inl rfl)) (pgs_cons (pg_name (i := 6) LastIn.nd rfl (Or.inl rfl)) pgs_nil)))) (pss_cons (ps_cut (ps_set (i := 7) LastIn.nd rfl (Or.inl rfl) (pe_df Drun_of (hr.mono (by decide)) rfl (pa_cons (pv 0) (pa_cons (pv 4) (pa_cons (pv 5) (pa_cons (pe_df Dlesser_of (hr.mono (by decide)) rfl (pa_cons (pv 6) (pa_cons (pv 2) pa_nil))) pa_nil)))))))
      (pss_one (ps_if (pt_cmp (pc_notN (pv 7))) (pss_one (ps_expr (pe_bm PySem.F.plainAttrs_list PySem.F.slot_list_append PySem.F.type_list_append mt_append (pv 3) (pa_cons (pe_ix (ix_tupK K rfl) (pv 7) pe_int (fun _ _ => rfl)) pa_nil)))) pss_nil))))
      (pss_one (ps_ret (pe_ifExp (pt_cmpR (op_neDK K rfl hr.units) (pv 3) (pl_lst (K := K) (by show 0 ≤ sizeLine; decide) pls_nil) (nomark _)) (pe_callB (cr_maxK K rfl rfl) (by rfl) T.max EW.boot_max (pa_cons (pv 3) pa_nil)) pe_non))))), ?_⟩
    refine ⟨Nat.zero_le _, fun G H1 n1 s1 e1 => ?_⟩
    refine ⟨_, rfl, l, rfl, ⟨_, SqT.same hY s1⟩, ?_⟩
    refine for_tup (K := K) (a := l) (xs := ys) (fun i σ' H' => ∃ (u4 u5 u6 u7 : Option V) (ms : List Int), σ' = [some (.int p), some (.ref l), some (.int t), some (.ref G), u4, u5, u6, u7] ∧ Same H H' ∧ H' G = some (.lst (ms.map V.int)) ∧ Rn.Lss (Rn.inRuns p (zs.take i)) t ms ∧ ms.length ≤ i) ⟨_, _, _, _, [], rfl, s1, e1, ⟨(fun m hm => nomatch hm), fun s _ q => by obtain ⟨_, hx, _⟩ := q; rw [List.take_zero] at hx; cases hx⟩, Nat.le_refl _⟩ ?_ ?_ ?_
    · rintro i σ' H' _ ⟨u4, u5, u6, u7, ms, _, s2, _⟩
      exact SqT.same hY s2
    · rintro i x σ' H2 hx ⟨u4, u5, u6, u7, ms, rfl, s2, eG, hN, hml⟩
      obtain ⟨z, hz, Sx⟩ := pr_get Ry hx
      have mz := List.mem_of_getElem? hz
      have gz := cz.good z mz
      have hi : i < ys.length := (List.getElem?_eq_some_iff.mp hx).1
      have et : zs.take (i + 1) = zs.take i ++ [z] := by
        rw [List.take_add_one, hz]
        rfl
      obtain ⟨ax, rfl, hX⟩ := Tp.same Sx s2
      refine ⟨ax, _, rfl, hX, rfl, _, _, rfl, _, _, rfl, _, _, rfl, rfl, ?_⟩
      refine ⟨fun σ' H' => ∃ v, σ' = [some (.int p), some (.ref l), some (.int t), some (.ref G), some (.int z.r), some (ob z.lo), some (ob z.hi), some v] ∧ Same H2 H' ∧ ((v = .non ∧ Rn.IsLast (Rn.inSpan p ⟨some z.r, z.lo, z.hi⟩) t none) ∨ ∃ (q : Addr) (m : Int) (w1 w2 : V), v = .ref q ∧ H' q = some (.tup [w1, w2, .int m]) ∧ Rn.IsLast (Rn.inSpan p ⟨some z.r, z.lo, z.hi⟩) t (some m)), ?_, ?_⟩
      · refine ⟨_, rfl, _, rfl, _, rfl, _, rfl, _, rfl, z.hi, some t, rfl, p, z.r, z.lo, lst z.hi (some t), rfl, hp, ?_⟩
        cases e : Rn.runOf p z.r z.lo (lst z.hi (some t)) with
        | none => exact fun H3 s3 => ⟨_, rfl, s3, .inl ⟨rfl, Rn.last_run_no gz.r0 gz.r1 (fun s => lst_at) e⟩⟩
        | some y =>
          refine fun q H3 n3 s3 e3 => ?_
          obtain ⟨u, eu⟩ := lst_some z.hi t
          obtain ⟨m, em⟩ : ∃ m, y.hi = some m := by
            rw [eu] at e
            exact Rn.runOf_hi e
          rw [em] at e3
          exact ⟨_, rfl, s3, .inr ⟨q, m, _, _, rfl, e3, Rn.last_run gz.r0 gz.r1 (fun s => lst_at) e em⟩⟩
      rintro σ' H3 ⟨v, rfl, s3, h⟩
      have s23 := Same.trans s2 s3
      refine ⟨_, rfl, _, rfl, ?_⟩
      rcases h with ⟨rfl, hn⟩ | ⟨q, m, w1, w3, rfl, eq, hn⟩
      · refine iteF ⟨_, _, _, _, ms, rfl, s23, s3 _ _ eG, ?_, by omega⟩
        rw [et]
        exact (hN.skip hn).congr fun s => runs_snoc
      · refine iteT ⟨_, rfl, Or.inl ⟨rfl, _, SqL.of (s3 _ _ eG)⟩, _, rfl, q, _, _, _, rfl, rfl, SqT.of eq, rfl, G, _, _, rfl, rfl, s3 _ _ eG, by rw [List.length_map]; omega, ?_⟩
        refine ⟨_, _, _, _, ms ++ [m], rfl, same_upd s23 n1, by rw [upd_same, List.map_append]; rfl, ?_, by rw [List.length_append]; exact Nat.succ_le_succ hml⟩
        rw [et]
        exact (hN.add hn).congr fun s => runs_snoc
    · rintro σ' H2 ⟨u4, u5, u6, u7, ms, rfl, s2, eG, hN, hml⟩
      rw [hyl, List.take_length] at hN
      refine ⟨_, rfl, fun q H3 s3 d3 => neNil (.lst (SqL.of (s3 _ _ eG)) (ints_dp ms)) (shaped_ints ms) d3 ⟨_, rfl, ?_⟩⟩
      have s23 := Same.trans s2 s3
      cases ms with
      | nil => exact iteF (k none H3 s23 hN.empty)
      | cons m0 mr => exact iteT ⟨_, rfl, G, _, rfl, SqL.of (s3 _ _ eG), Nat.succ_pos _, fun m hm hl => k (some m) H3 s23 (hN.greatest hm hl)⟩
def spReqI : Sp := fun vs H Q _ => ∃ t : Int, vs = [.int t] ∧ Q .non H
theorem ok_reqI {fd : FuncData} (F : FnP K "require_integer" sReqI fd) (Dis_integer : Df P w K mg base 1 "is_integer" ["value"] (spIsInt K)) : FnOk P w K mg base CX0 2 (He.ga K "require_integer") fd ["value"] spReqI := by
  refine F.ok ReqI (fun vs H Q E h => ?_) (fun cdv A outer s H vs Q E hr h => ?_)
  · obtain ⟨t, rfl, _⟩ := h
    rfl
  · obtain ⟨t, rfl, k⟩ := h
    refine ⟨_, PSs.nox (pss_one (ps_if (pt_not (pt_val (pe_df Dis_integer (hr.mono (by decide)) rfl (pa_cons (pv 0) pa_nil)))) (pss_one ps_never) pss_nil)), ?_⟩
    exact ⟨_, rfl, _, _, true, false, rfl, .base (.int t), kit_ty kb1, (fun _ => kit_ty kb2), _, rfl, iteF k⟩
/-- v.at_or_after(t), v.at_or_before(t) -/
def spAfter (K : W.Frag) : Sp := fun vs H Q _ => ∃ (u : V) (p t : Int) (zs : List Rn.Run), vs = [u, .int t] ∧ Ob K (CT K) H u p zs ∧ ∀ (o : Option Int) (H' : Hp), Same H H' → Rn.IsNext (Rn.inRuns p zs) t o → Q (ob o) H'
def spBefor (K : W.Frag) : Sp := fun vs H Q _ => ∃ (u : V) (p t : Int) (zs : List Rn.Run), vs = [u, .int t] ∧ Ob K (CT K) H u p zs ∧ ∀ (o : Option Int) (H' : Hp), Same H H' → Rn.IsLast (Rn.inRuns p zs) t o → Q (ob o) H'
theorem ok_after {fd : FuncData} (F : FunD K "at_or_after" "Times.at_or_after" (defArgs sAfter) (defBody sAfter) (defScope sAfter) [] [] (He.ma K (CT K) "at_or_after") fd) (KT : Kl K mg "Times") (Drequire_integer : Df P w K mg base 2 "require_integer" ["value"] spReqI) (Dnext_in : Df P w K mg base 3 "next_in" ["period", "runs", "time"] (spNext K)) :
    FnOk P w K mg base CX0 4 (He.ma K (CT K) "at_or_after") fd ["self", "time"] (spAfter K) := by
  refine F.ok After (fun vs H Q E h => ?_) (fun cdv A outer s H vs Q E hr h => ?_)
  · obtain ⟨u, p, t, zs, rfl, _⟩ := h
    rfl
  · obtain ⟨u, p, t, zs, rfl, ⟨a, da, la, rfl, ha, Ra, p1, p2⟩, k⟩ := h
    refine ⟨_, PSs.nox (pss_cons (ps_expr (pe_df Drequire_integer (hr.mono (by decide)) rfl (pa_cons (pv 1) pa_nil)))
      (pss_one (ps_ret (pe_df Dnext_in (hr.mono (by decide)) rfl (pa_cons (pe_fldK K rfl (pv 0)) (pa_cons (pe_fldK K rfl (pv 0)) (pa_cons (pv 1) pa_nil))))))), ?_⟩
    refine ⟨_, rfl, t, rfl, ?_⟩
    exact ⟨_, rfl, a, _, da, _, _, rfl, ha, KT.cl, KT.np, rfl, _, rfl, a, _, da, _, _, rfl, ha, KT.cl, KT.nr, rfl, _, rfl, p, t, la, zs, rfl, by omega, Ra, k⟩
theorem ok_befor {fd : FuncData} (F : FunD K "at_or_before" "Times.at_or_before" (defArgs sBefor) (defBody sBefor) (defScope sBefor) [] [] (He.ma K (CT K) "at_or_before") fd) (KT : Kl K mg "Times") (Drequire_integer : Df P w K mg base 2 "require_integer" ["value"] spReqI) (Dlast_in : Df P w K mg base 3 "last_in" ["period", "runs", "time"] (spLast K)) :
    FnOk P w K mg base CX0 4 (He.ma K (CT K) "at_or_before") fd ["self", "time"] (spBefor K) := by
  refine F.ok Befor (fun vs H Q E h => ?_) (fun cdv A outer s H vs Q E hr h => ?_)
  · obtain ⟨u, p, t, zs, rfl, _⟩ := h
    rfl
  · obtain ⟨u, p, t, zs, rfl, ⟨a, da, la, rfl, ha, Ra, p1, p2⟩, k⟩ := h
    refine ⟨_, PSs.nox (pss_cons (ps_expr (pe_df Drequire_integer (hr.mono (by decide)) rfl (pa_cons (pv 1) pa_nil)))
      (pss_one (ps_ret (pe_df Dlast_in (hr.mono (by decide)) rfl (pa_cons (pe_fldK K rfl (pv 0)) (pa_cons (pe_fldK K rfl (pv 0)) (pa_cons (pv 1) pa_nil))))))), ?_⟩
    refine ⟨_, rfl, t, rfl, ?_⟩
    exact ⟨_, rfl, a, _, da, _, _, rfl, ha, KT.cl, KT.np, rfl, _, rfl, a, _, da, _, _, rfl, ha, KT.cl, KT.nr, rfl, _, rfl, p, t, la, zs, rfl, by omega, Ra, k⟩
end
end TM
end

section

namespace Rn
variable {p t m : Int}
/-! ### sets moved, and by another period -/
def shift (p m : Int) (s : Sp3) : Sp3 := ⟨s.res.map fun r => (r + m) % p, s.lo.map fun l => l + m, s.hi.map fun l => l + m⟩
theorem shift_ok (hp : 0 < p) {s : Sp3} : SpOk p (shift p m s) := fun r e => by
  unfold shift at e
  cases h : s.res with
  | none => rw [h] at e; cases e
  | some q =>
    rw [h] at e
    have e := Option.some.inj e
    rw [← e]
    exact ⟨Int.emod_nonneg _ (by omega), Int.emod_lt_of_pos _ hp⟩
theorem mod_move {r : Int} (r0 : 0 ≤ r) (r1 : r < p) : t % p = (r + m) % p ↔ (t - m) % p = r := by
  constructor
  · intro h
    have e : (t - m) % p = r % p := by
      have q := Int.emod_eq_emod_iff_emod_sub_eq_zero.mp h
      refine Int.emod_eq_emod_iff_emod_sub_eq_zero.mpr ?_
      rw [show t - m - r = t - (r + m) by omega]
      exact q
    rw [e, Int.emod_eq_of_lt r0 r1]
  · intro h
    have e : (t - m) % p = r % p := by rw [h, Int.emod_eq_of_lt r0 r1]
    have q := Int.emod_eq_emod_iff_emod_sub_eq_zero.mp e
    refine Int.emod_eq_emod_iff_emod_sub_eq_zero.mpr ?_
    rw [show t - (r + m) = t - m - r by omega]
    exact q
theorem shift_mem {z : Run} (g : Good p z) : inSpan p (shift p m z.span) t ↔ inRun p z (t - m) := by
  obtain ⟨r, lo, hi⟩ := z
  have h1 : geLo (lo.map fun l => l + m) t ↔ geLo lo (t - m) := by
    cases lo with
    | none => rw [Option.map_none, geN, geN]
    | some l =>
      rw [Option.map_some, geS, geS]
      omega
  have h2 : leHi (hi.map fun l => l + m) t ↔ leHi hi (t - m) := by
    cases hi with
    | none => rw [Option.map_none, leN, leN]
    | some l =>
      rw [Option.map_some, leS, leS]
      omega
  show inSpan p ⟨some ((r + m) % p), lo.map fun l => l + m, hi.map fun l => l + m⟩ t ↔ _
  rw [span_S, run_mk, h1, h2, mod_move g.r0 g.r1]
theorem shifts_mem {zs : List Run} (g : ∀ z ∈ zs, Good p z) : inSpans p (zs.map fun z => shift p m z.span) t ↔ inRuns p zs (t - m) := by
  constructor
  · rintro ⟨s, hs, h⟩
    obtain ⟨z, hz, rfl⟩ := List.mem_map.mp hs
    exact ⟨z, hz, (shift_mem (g z hz)).mp h⟩
  · rintro ⟨z, hz, h⟩
    exact ⟨_, List.mem_map.mpr ⟨z, hz, rfl⟩, (shift_mem (g z hz)).mpr h⟩
theorem turns_runs (hp : 0 < p) {zs : List Run} (g : ∀ z ∈ zs, Good p z) : inSpans p (zs.map fun z => turn p z.span) t ↔ inRuns p zs (-t) := by
  have e : zs.map (fun z => turn p z.span) = (zs.map Run.span).map (turn p) := by rw [List.map_map]; rfl
  rw [e, turns_mem hp (runs_spok g), spans_runs]
def byOf (p : Int) (n : Nat) (z : Run) : List Sp3 := (List.range n).map fun (i : Nat) => ⟨some (z.r + p * (i : Int)), z.lo, z.hi⟩
theorem by_ok {n : Nat} {z : Run} (hp : 0 < p) (g : Good p z) : ∀ s ∈ byOf p n z, SpOk (p * (n : Int)) s := fun s hs r e => by
  obtain ⟨i, hi, rfl⟩ := List.mem_map.mp hs
  have hi := List.mem_range.mp hi
  have e := Option.some.inj e
  have g0 := g.r0
  have g1 := g.r1
  have h1 : p * (i : Int) + p ≤ p * (n : Int) := by
    have : p * ((i : Int) + 1) ≤ p * (n : Int) := Int.mul_le_mul_of_nonneg_left (by omega) (by omega)
    rw [Int.mul_add] at this
    omega
  have h0 : 0 ≤ p * (i : Int) := Int.mul_nonneg (by omega) (by omega)
  omega
theorem by_mem {n : Nat} {z : Run} (hp : 0 < p) (g : Good p z) (hn : 0 < n) : inSpans (p * (n : Int)) (byOf p n z) t ↔ inRun p z t := by
  have hq : 0 < p * (n : Int) := Int.mul_pos hp (by omega)
  have hd : t % (p * (n : Int)) % p = t % p := Int.emod_emod_of_dvd t ⟨n, rfl⟩
  constructor
  · rintro ⟨s, hs, h1, h2⟩
    obtain ⟨i, hi, rfl⟩ := List.mem_map.mp hs
    refine ⟨?_, h2⟩
    have h1 := h1 _ rfl
    rw [← hd, h1, Int.add_mul_emod_self_left, Int.emod_eq_of_lt g.r0 g.r1]
  · rintro ⟨h1, h2⟩
    have t0 := Int.emod_nonneg t (show p * (n : Int) ≠ 0 by omega)
    have t1 := Int.emod_lt_of_pos t hq
    have k0 : 0 ≤ t % (p * (n : Int)) / p := Int.ediv_nonneg t0 (by omega)
    have k1 : t % (p * (n : Int)) / p < n := by
      refine Int.ediv_lt_of_lt_mul hp ?_
      rw [Int.mul_comm (n : Int) p]
      exact t1
    refine ⟨_, List.mem_map.mpr ⟨(t % (p * (n : Int)) / p).toNat, List.mem_range.mpr (by omega), rfl⟩, fun r e => ?_, h2⟩
    have e := Option.some.inj e
    have ek : (((t % (p * (n : Int)) / p).toNat : Nat) : Int) = t % (p * (n : Int)) / p := by omega
    rw [ek] at e
    rw [← e, ← h1, ← hd]
    have := Int.emod_add_mul_ediv (t % (p * (n : Int))) p
    omega
theorem bys_mem {n : Nat} {zs : List Run} (hp : 0 < p) (g : ∀ z ∈ zs, Good p z) (hn : 0 < n) : inSpans (p * (n : Int)) (zs.flatMap (byOf p n)) t ↔ inRuns p zs t := by
  constructor
  · rintro ⟨s, hs, h⟩
    obtain ⟨z, hz, hs⟩ := List.mem_flatMap.mp hs
    exact ⟨z, hz, (by_mem hp (g z hz) hn).mp ⟨s, hs, h⟩⟩
  · rintro ⟨z, hz, h⟩
    obtain ⟨s, hs, h⟩ := (by_mem hp (g z hz) hn).mpr h
    exact ⟨s, List.mem_flatMap.mpr ⟨z, hz, hs⟩, h⟩
theorem bys_len {n : Nat} : ∀ {zs : List Run}, (zs.flatMap (byOf p n)).length = zs.length * n
  | [] => by simp
  | z :: zs => by
    rw [List.flatMap_cons, List.length_append, bys_len (zs := zs), List.length_cons, Nat.succ_mul]
    unfold byOf
    rw [List.length_map, List.length_range]
    omega
end Rn
end

section

namespace EW
open PySem PySem.Spec PyProof.Rows L2
theorem loop_rgc {lo c : Int} {n : Nat} {H0 : Hp} {Qd : Hp → Prop} {B : V → Hp → (Hp → Prop) → Prop} (Pv : Nat → Hp → Prop) (h0 : Pv 0 H0)
    (hs : ∀ i H, i < n → Pv i H → B (.int (lo + (i : Nat) * c)) H (Pv (i + 1))) (hd : ∀ H, Pv n H → Qd H) :
    ∃ W : Nat → Nat → Hp → Prop, (∃ m, W 0 m H0) ∧ ∀ i m H, W i m H → ((Itc lo c n).stop i H ∧ Qd H) ∨ ((Itc lo c n).go i H ∧ ∃ Nx : Hp → Prop, (∀ H', Nx H' → ∃ m', m' < m ∧ W (i + 1) m' H') ∧ ∀ x H', (Itc lo c n).yld i H x H' → B x H' Nx) := by
  refine ⟨fun i m H => m = n - i ∧ i ≤ n ∧ Pv i H, ⟨n, rfl, Nat.zero_le _, h0⟩, ?_⟩
  rintro i m H ⟨rfl, hi, p⟩
  rcases Nat.lt_or_ge i n with hlt | hge
  · refine .inr ⟨hlt, Pv (i + 1), fun H' p' => ⟨n - (i + 1), by omega, rfl, hlt, p'⟩, fun x H' y => ?_⟩
    obtain ⟨rfl, rfl⟩ := y
    exact hs i _ hlt p
  · obtain rfl : i = n := by omega
    exact .inl ⟨Nat.le_refl _, hd H p⟩
/-- range(r, p * n, p) -/
theorem rgc_by {r p : Int} {n : Nat} (hp : 0 < p) (r0 : 0 ≤ r) (r1 : r < p) (hn : 0 < n) (h : p * (n : Int) ≤ 400) : RgC r (p * (n : Int)) p n := by
  have h1 : p ≤ p * (n : Int) := by
    have : p * 1 ≤ p * (n : Int) := Int.mul_le_mul_of_nonneg_left (by omega) (by omega)
    omega
  have sz : Builtin.Range.rangeSize r (p * (n : Int)) p = n := by
    unfold Builtin.Range.rangeSize
    rw [if_pos (by omega), if_pos (by omega)]
    have e : p * (n : Int) - r - 1 = (p - 1 - r) + p * ((n : Int) - 1) := by
      rw [Int.mul_sub]
      omega
    rw [e, Int.add_mul_ediv_left _ _ (by omega), Int.ediv_eq_zero_of_lt (by omega) (by omega)]
    omega
  have h2 : (n : Int) ≤ p * (n : Int) := by
    have : 1 * (n : Int) ≤ p * (n : Int) := Int.mul_le_mul_of_nonneg_right (by omega) (by omega)
    omega
  refine ⟨by omega, by omega, ?_, sz⟩
  unfold Builtin.Range.small
  rw [sz]
  simp only [Builtin.Range.rangeFitsLong, Bool.and_eq_true, Bool.or_eq_true, decide_eq_true_eq, beq_iff_eq, if_pos (show p > 0 by omega)]
  omega
end EW
end

section
set_option maxHeartbeats 4000000
namespace TM
open PySem PySem.Spec PyProof.Rows L2 EW
abbrev NShift : List Str := ["self", "many", "spans", "residue", "least", "most", "low", "high"]
theorem Shift : FnScope NShift ["self", "many"] (defScope sShift) := ⟨rfl, rfl, rfl, by decide +kernel, rfl, by decide +kernel, by decide +kernel⟩
abbrev NTurn : List Str := ["self", "spans", "residue", "least", "most", "low", "high"]
theorem Turn : FnScope NTurn ["self"] (defScope sTurn) := ⟨rfl, rfl, rfl, by decide +kernel, rfl, by decide +kernel, by decide +kernel⟩
abbrev NBy : List Str := ["self", "period", "spans", "residue", "least", "most", "one"]
theorem By : FnScope NBy ["self", "period"] (defScope sBy) := ⟨rfl, rfl, rfl, by decide +kernel, rfl, by decide +kernel, by decide +kernel⟩
def spShift (K : W.Frag) : Sp := fun vs H Q _ => ∃ (u : V) (p m : Int) (zs : List Rn.Run), vs = [u, .int m] ∧ Ob K (CT K) H u p zs ∧ Made K H p (fun t => Rn.inRuns p zs (t - m)) zs.length Q
def spTurn (K : W.Frag) : Sp := fun vs H Q _ => ∃ (u : V) (p : Int) (zs : List Rn.Run), vs = [u] ∧ Ob K (CT K) H u p zs ∧ Made K H p (fun t => Rn.inRuns p zs (-t)) zs.length Q
def spBy (K : W.Frag) : Sp := fun vs H Q _ => ∃ (u : V) (p : Int) (n : Nat) (zs : List Rn.Run), vs = [u, .int (p * (n : Int))] ∧ 0 < n ∧ p * (n : Int) ≤ 400 ∧ Ob K (CT K) H u p zs ∧ zs.length * n ≤ 10000000 ∧ Made K H (p * (n : Int)) (Rn.inRuns p zs) (zs.length * n) Q
section
variable {P : Program} {w : World} {K : W.Frag} {mg : Str → Option Value} {base : Heap}
theorem ok_shift {fd : FuncData} (F : FunD K "shifted" "Times.shifted" (defArgs sShift) (defBody sShift) (defScope sShift) [] [] (He.ma K (CT K) "shifted") fd) (T : Fre mg) (KT : Kl K mg "Times") (Drequire_integer : Df P w K mg base 2 "require_integer" ["value"] spReqI) (Dtimes_in_spans : Df P w K mg base 9 "times_in_spans" ["period", "spans"] (spTimesIn K)) :
    FnOk P w K mg base CX0 10 (He.ma K (CT K) "shifted") fd ["self", "many"] (spShift K) := by
  refine F.ok Shift (fun vs H Q E h => ?_) (fun cdv A outer s H vs Q E hr h => ?_)
  · obtain ⟨u, p, m, zs, rfl, _⟩ := h
    rfl
  · obtain ⟨u, p, m, zs, rfl, ⟨x, da, la, rfl, ha, ⟨ys, hY, Ry, cz, hzl⟩, p1, p2⟩, k⟩ := h
    have hyl := Ry.length
    have hbig : (10000000 : Nat) < sizeLine := by decide
    refine ⟨_, PSs.nox (pss_cons (ps_expr (pe_df Drequire_integer (hr.mono (by decide)) rfl (pa_cons (pv 1) pa_nil)))
      (pss_cons (ps_set (i := 2) Shift.nd rfl (Or.inl rfl) (pe_lstS pa_nil))
      (pss_cons (ps_for PassesOwn.never rfl (pi_tupK (K := K) rfl (pe_fldK K rfl (pv 0))) (pg_tup rfl (pgs_cons (pg_name (i := 3) Shift.nd rfl (Or.inl rfl)) (pgs_cons (pg_name (i := 4) Shift.nd rfl (Or.inl rfl)) (pgs_cons (pg_name (i := 5) Shift.nd rfl (Or.inl rfl)) pgs_nil)))) (pss_cons (ps_cut (ps_par (i := 6) (j := 7) (by rfl) Shift.nd rfl rfl (by decide) rfl rfl (pa_cons (pe_ifExp (pt_cmp (pc_isN (pv 4))) pe_non (pe_op op_add (pv 4) (pv 1))) (pa_cons (pe_ifExp (pt_cmp (pc_isN (pv 5))) pe_non (pe_op op_add (pv 5) (pv 1))) pa_nil)) (by rfl)))
      (pss_one (ps_expr (pe_bm PySem.F.plainAttrs_list PySem.F.slot_list_append PySem.F.type_list_append mt_append (pv 2) (pa_cons (pe_tupS (pa_cons (pe_op op_mod (pe_callTy call_int1 (by rfl) T.int EW.boot_int (pa_cons (pe_op op_add (pv 3) (pv 1)) pa_nil)) (pe_fldK K rfl (pv 0))) (pa_cons (pv 6) (pa_cons (pv 7) pa_nil)))) pa_nil))))))
      (pss_one (ps_ret (pe_df Dtimes_in_spans (hr.mono (by decide)) rfl (pa_cons (pe_fldK K rfl (pv 0)) (pa_cons (pv 2) pa_nil)))))))), ?_⟩
    refine ⟨_, rfl, m, rfl, ?_⟩
    refine ⟨Nat.zero_le _, fun G H1 n1 s1 e1 => ?_⟩
    refine ⟨_, rfl, x, _, da, _, _, rfl, s1 _ _ ha, KT.cl, KT.nr, rfl, la, rfl, ⟨_, SqT.same hY s1⟩, ?_⟩
    refine for_tup (K := K) (a := la) (xs := ys) (fun i σ' H' => ∃ (u3 u4 u5 u6 u7 : Option V) (xs : List V), σ' = [some (.ref x), some (.int m), some (.ref G), u3, u4, u5, u6, u7] ∧ Same H H' ∧ H' G = some (.lst xs) ∧ Sns K H' xs ((zs.take i).map fun z => Rn.shift p m z.span)) ⟨_, _, _, _, _, [], rfl, s1, e1, .nil⟩ ?_ ?_ ?_
    · rintro i σ' H' _ ⟨u3, u4, u5, u6, u7, xs, _, s2, _⟩
      exact SqT.same hY s2
    · rintro i v σ' H2 hx ⟨u3, u4, u5, u6, u7, xs, rfl, s2, eG, SG⟩
      obtain ⟨z, hz, Sx⟩ := pr_get Ry hx
      have hi : i < ys.length := (List.getElem?_eq_some_iff.mp hx).1
      have et : ((zs.take (i + 1)).map fun z => Rn.shift p m z.span) = ((zs.take i).map fun z => Rn.shift p m z.span) ++ [Rn.shift p m z.span] := by
        rw [List.take_add_one, hz, List.map_append]
        rfl
      have zl := SG.length
      rw [List.length_map, List.length_take] at zl
      obtain ⟨ax, rfl, hX⟩ := Tp.same Sx s2
      obtain ⟨r, lo, hi'⟩ := z
      refine ⟨ax, _, rfl, hX, rfl, _, _, rfl, _, _, rfl, _, _, rfl, rfl, ?_⟩
      refine ⟨fun σ' H' => H' = H2 ∧ σ' = [some (.ref x), some (.int m), some (.ref G), some (.int r), some (ob lo), some (ob hi'), some (ob (lo.map fun l => l + m)), some (ob (hi'.map fun l => l + m))], ?_, ?_⟩
      · refine ⟨_, rfl, _, rfl, ?_⟩
        cases lo with
        | none =>
          refine iteT ⟨_, rfl, _, rfl, ?_⟩
          cases hi' with
          | none => exact iteT ⟨_, _, rfl, rfl, rfl⟩
          | some h => exact iteF ⟨_, rfl, _, rfl, _, _, rfl, rfl, _, _, rfl, rfl, rfl⟩
        | some l =>
          refine iteF ⟨_, rfl, _, rfl, _, _, rfl, rfl, _, rfl, _, rfl, ?_⟩
          cases hi' with
          | none => exact iteT ⟨_, _, rfl, rfl, rfl⟩
          | some h => exact iteF ⟨_, rfl, _, rfl, _, _, rfl, rfl, _, _, rfl, rfl, rfl⟩
      rintro σ' H3 ⟨rfl, rfl⟩
      refine ⟨_, rfl, Or.inl ⟨rfl, _, SqL.of eG⟩, ?_⟩
      refine ⟨_, rfl, _, rfl, _, _, rfl, rfl, Or.inl ⟨_, rfl, ?_⟩⟩
      refine ⟨_, rfl, x, _, da, _, _, rfl, s2 _ _ ha, KT.cl, KT.np, rfl, _, _, rfl, rfl, (by show 0 < p; omega), ?_⟩
      refine ⟨_, rfl, _, rfl, (by show 3 ≤ sizeLine; decide), fun q H4 n4 s4 e4 => ?_⟩
      refine ⟨G, xs, _, rfl, rfl, s4 _ _ eG, by omega, ?_⟩
      refine ⟨_, _, _, _, _, xs ++ [.ref q], rfl, same_upd (Same.trans s2 s4) n1, upd_same, ?_⟩
      rw [et]
      exact Sns.kept (pr_append (Sns.same SG s4) (.cons (Tp.of e4) .nil)) (s4 _ _ eG) Kept.upd
    · rintro σ' H2 ⟨u3, u4, u5, u6, u7, xs, rfl, s2, eG, SG⟩
      rw [hyl, List.take_length] at SG
      have hle : ((zs.map fun z => Rn.shift p m z.span).flatMap (Rn.foundOf p)).length ≤ zs.length := Nat.le_trans (Rn.found_le fun s hs => by obtain ⟨z, _, rfl⟩ := List.mem_map.mp hs; exact ⟨_, rfl⟩) (by rw [List.length_map]; exact Nat.le_refl _)
      refine ⟨_, rfl, x, _, da, _, _, rfl, s2 _ _ ha, KT.cl, KT.np, rfl, _, rfl, p, G, xs, _, rfl, p1, p2, SqL.of eG, SG, ⟨fun s hs => ?_, by omega⟩, k.told s2 p1 p2 (fun t => Rn.shifts_mem cz.good) hle⟩
      obtain ⟨z, _, rfl⟩ := List.mem_map.mp hs
      exact Rn.shift_ok (by omega)
theorem ok_turn {fd : FuncData} (F : FunD K "turned" "Times.turned" (defArgs sTurn) (defBody sTurn) (defScope sTurn) [] [] (He.ma K (CT K) "turned") fd) (T : Fre mg) (KT : Kl K mg "Times") (Dtimes_in_spans : Df P w K mg base 9 "times_in_spans" ["period", "spans"] (spTimesIn K)) :
    FnOk P w K mg base CX0 10 (He.ma K (CT K) "turned") fd ["self"] (spTurn K) := by
  refine F.ok Turn (fun vs H Q E h => ?_) (fun cdv A outer s H vs Q E hr h => ?_)
  · obtain ⟨u, p, zs, rfl, _⟩ := h
    rfl
  · obtain ⟨u, p, zs, rfl, ⟨x, da, la, rfl, ha, ⟨ys, hY, Ry, cz, hzl⟩, p1, p2⟩, k⟩ := h
    have hyl := Ry.length
    have hbig : (10000000 : Nat) < sizeLine := by decide
    refine ⟨_, PSs.nox (pss_cons (ps_set (i := 1) Turn.nd rfl (Or.inl rfl) (pe_lstS pa_nil))
      (pss_cons (ps_for PassesOwn.never rfl (pi_tupK (K := K) rfl (pe_fldK K rfl (pv 0))) (pg_tup rfl (pgs_cons (pg_name (i := 2) Turn.nd rfl (Or.inl rfl)) (pgs_cons (pg_name (i := 3) Turn.nd rfl (Or.inl rfl)) (pgs_cons (pg_name (i := 4) Turn.nd rfl (Or.inl rfl)) pgs_nil)))) (pss_cons (ps_cut (ps_par (i := 5) (j := 6) (by rfl) Turn.nd rfl rfl (by decide) rfl rfl (pa_cons (pe_ifExp (pt_cmp (pc_isN (pv 4))) pe_non (pe_un un_neg (pv 4))) (pa_cons (pe_ifExp (pt_cmp (pc_isN (pv 3))) pe_non (pe_un un_neg (pv 3))) pa_nil)) (by rfl)))
      (pss_one (ps_expr (pe_bm PySem.F.plainAttrs_list PySem.F.slot_list_append PySem.F.type_list_append mt_append (pv 1) (pa_cons (pe_tupS (pa_cons (pe_op op_mod (pe_callTy call_int1 (by rfl) T.int EW.boot_int (pa_cons (pe_un un_neg (pv 2)) pa_nil)) (pe_fldK K rfl (pv 0))) (pa_cons (pv 5) (pa_cons (pv 6) pa_nil)))) pa_nil))))))
      (pss_one (ps_ret (pe_df Dtimes_in_spans (hr.mono (by decide)) rfl (pa_cons (pe_fldK K rfl (pv 0)) (pa_cons (pv 1) pa_nil))))))), ?_⟩
    refine ⟨Nat.zero_le _, fun G H1 n1 s1 e1 => ?_⟩
    refine ⟨_, rfl, x, _, da, _, _, rfl, s1 _ _ ha, KT.cl, KT.nr, rfl, la, rfl, ⟨_, SqT.same hY s1⟩, ?_⟩
    refine for_tup (K := K) (a := la) (xs := ys) (fun i σ' H' => ∃ (u3 u4 u5 u6 u7 : Option V) (xs : List V), σ' = [some (.ref x), some (.ref G), u3, u4, u5, u6, u7] ∧ Same H H' ∧ H' G = some (.lst xs) ∧ Sns K H' xs ((zs.take i).map fun z => Rn.turn p z.span)) ⟨_, _, _, _, _, [], rfl, s1, e1, .nil⟩ ?_ ?_ ?_
    · rintro i σ' H' _ ⟨u3, u4, u5, u6, u7, xs, _, s2, _⟩
      exact SqT.same hY s2
    · rintro i v σ' H2 hx ⟨u3, u4, u5, u6, u7, xs, rfl, s2, eG, SG⟩
      obtain ⟨z, hz, Sx⟩ := pr_get Ry hx
      have hi : i < ys.length := (List.getElem?_eq_some_iff.mp hx).1
      have et : ((zs.take (i + 1)).map fun z => Rn.turn p z.span) = ((zs.take i).map fun z => Rn.turn p z.span) ++ [Rn.turn p z.span] := by
        rw [List.take_add_one, hz, List.map_append]
        rfl
      have zl := SG.length
      rw [List.length_map, List.length_take] at zl
      obtain ⟨ax, rfl, hX⟩ := Tp.same Sx s2
      obtain ⟨r, lo, hi'⟩ := z
      refine ⟨ax, _, rfl, hX, rfl, _, _, rfl, _, _, rfl, _, _, rfl, rfl, ?_⟩
      refine ⟨fun σ' H' => H' = H2 ∧ σ' = [some (.ref x), some (.ref G), some (.int r), some (ob lo), some (ob hi'), some (ob (hi'.map fun l => -l)), some (ob (lo.map fun l => -l))], ?_, ?_⟩
      · refine ⟨_, rfl, _, rfl, ?_⟩
        cases hi' with
        | none =>
          refine iteT ⟨_, rfl, _, rfl, ?_⟩
          cases lo with
          | none => exact iteT ⟨_, _, rfl, rfl, rfl⟩
          | some h => exact iteF ⟨_, rfl, _, rfl, _, _, rfl, rfl, rfl⟩
        | some l =>
          refine iteF ⟨_, rfl, _, rfl, _, rfl, _, rfl, ?_⟩
          cases lo with
          | none => exact iteT ⟨_, _, rfl, rfl, rfl⟩
          | some h => exact iteF ⟨_, rfl, _, rfl, _, _, rfl, rfl, rfl⟩
      rintro σ' H3 ⟨rfl, rfl⟩
      refine ⟨_, rfl, Or.inl ⟨rfl, _, SqL.of eG⟩, ?_⟩
      refine ⟨_, rfl, _, rfl, Or.inl ⟨_, rfl, ?_⟩⟩
      refine ⟨_, rfl, x, _, da, _, _, rfl, s2 _ _ ha, KT.cl, KT.np, rfl, _, _, rfl, rfl, (by show 0 < p; omega), ?_⟩
      refine ⟨_, rfl, _, rfl, (by show 3 ≤ sizeLine; decide), fun q H4 n4 s4 e4 => ?_⟩
      refine ⟨G, xs, _, rfl, rfl, s4 _ _ eG, by omega, ?_⟩
      refine ⟨_, _, _, _, _, xs ++ [.ref q], rfl, same_upd (Same.trans s2 s4) n1, upd_same, ?_⟩
      rw [et]
      exact Sns.kept (pr_append (Sns.same SG s4) (.cons (Tp.of e4) .nil)) (s4 _ _ eG) Kept.upd
    · rintro σ' H2 ⟨u3, u4, u5, u6, u7, xs, rfl, s2, eG, SG⟩
      rw [hyl, List.take_length] at SG
      have hle : ((zs.map fun z => Rn.turn p z.span).flatMap (Rn.foundOf p)).length ≤ zs.length := Nat.le_trans (Rn.found_le fun s hs => by obtain ⟨z, _, rfl⟩ := List.mem_map.mp hs; exact ⟨_, rfl⟩) (by rw [List.length_map]; exact Nat.le_refl _)
      refine ⟨_, rfl, x, _, da, _, _, rfl, s2 _ _ ha, KT.cl, KT.np, rfl, _, rfl, p, G, xs, _, rfl, p1, p2, SqL.of eG, SG, ⟨fun s hs => ?_, by omega⟩, k.told s2 p1 p2 (fun t => Rn.turns_runs (by omega) cz.good) hle⟩
      obtain ⟨z, _, rfl⟩ := List.mem_map.mp hs
      exact Rn.turn_ok (by omega)
theorem ok_by {fd : FuncData} (F : FunD K "by" "Times.by" (defArgs sBy) (defBody sBy) (defScope sBy) [] [] (He.ma K (CT K) "by") fd) (T : Fre mg) (gM : ∃ t, mg "MAX_PERIOD_times" = some (.int 400 t)) (KT : Kl K mg "Times") (Dis_between : Df P w K mg base 2 "is_between" ["value", "least", "most"] spBetween) (Dtimes_in_spans : Df P w K mg base 9 "times_in_spans" ["period", "spans"] (spTimesIn K)) :
    FnOk P w K mg base CX0 10 (He.ma K (CT K) "by") fd ["self", "period"] (spBy K) := by
  refine F.ok By (fun vs H Q E h => ?_) (fun cdv A outer s H vs Q E hr h => ?_)
  · obtain ⟨u, p, n, zs, rfl, _⟩ := h
    rfl
  · obtain ⟨u, p, n, zs, rfl, hn, h4, ⟨x, da, la, rfl, ha, ⟨ys, hY, Ry, cz, hzl⟩, p1, p2⟩, hz, k⟩ := h
    obtain ⟨tk, gs⟩ := gM
    have hyl := Ry.length
    have hbig : (11000000 : Nat) < sizeLine := by decide
    have q1 : 1 ≤ p * (n : Int) := Int.mul_pos (by omega) (by omega)
    refine ⟨_, PSs.nox (pss_cons (ps_if (PW.pt (pw_or (pt_not (pt_val (pe_df Dis_between (hr.mono (by decide)) rfl (pa_cons (pv 1) (pa_cons pe_int (pa_cons (pe_glob (v := .int 400) rfl gs ⟨tk, rfl⟩) pa_nil)))))) (pw_or1 (pt_cmpR op_ne (pe_op op_mod (pe_callTy call_int1 (by rfl) T.int EW.boot_int (pa_cons (pv 1) pa_nil)) (pe_fldK K rfl (pv 0))) pe_int (nomark _))))) (pss_one ps_never) pss_nil)
      (pss_cons (ps_set (i := 2) By.nd rfl (Or.inl rfl) (pe_lstS pa_nil))
      (pss_cons (ps_for PassesOwn.never rfl (pi_tupK (K := K) rfl (pe_fldK K rfl (pv 0))) (pg_tup rfl (pgs_cons (pg_name (i := 3) By.nd rfl (Or.inl rfl)) (pgs_cons (pg_name (i := 4) By.nd rfl (Or.inr rfl)) (pgs_cons (pg_name (i := 5) By.nd rfl (Or.inr rfl)) pgs_nil)))) (pss_one (ps_expr (pe_bm PySem.F.plainAttrs_list PySem.F.slot_list_extend PySem.F.type_list_extend mt_extend (pv 2) (pa_cons (pe_lc (own := [("one", 6)]) (g := gName 6) (tt := tYes) (by rfl) By.nd (pi_range3 rfl T.range (pa_cons (pv 3) (pa_cons (pv 1) (pa_cons (pe_fldK K rfl (pv 0)) pa_nil)))) (blkOk_by (own := [("one", 6)]) (N := NBy) (sc := defScope sBy) (by decide +kernel)) (fun _ _ _ _ _ => (pg_name (i := 6) By.nd rfl (Or.inl rfl))) (fun _ _ _ _ _ => pts_nil) (fun _ _ _ _ _ => (pe_tupS (pa_cons (pv 6) (pa_cons (pv 4) (pa_cons (pv 5) pa_nil)))))) pa_nil)))))
      (pss_one (ps_ret (pe_df Dtimes_in_spans (hr.mono (by decide)) rfl (pa_cons (pv 1) (pa_cons (pv 2) pa_nil)))))))), ?_⟩
    refine ⟨_, rfl, p * (n : Int), 1, 400, rfl, _, rfl, ?_⟩
    rw [decide_eq_true q1, decide_eq_true h4]
    refine iteF ⟨_, rfl, Or.inl ⟨_, rfl, _, rfl, x, _, da, _, _, rfl, ha, KT.cl, KT.np, rfl, _, _, rfl, rfl, (by show 0 < p; omega), rfl, _, rfl, iteC ?_ ?_⟩⟩
    · show (!decide (V.int (p * (n : Int) % p) = V.int 0)) = false
      rw [Int.mul_emod_right]
      rfl
    refine ⟨Nat.zero_le _, fun G H1 n1 s1 e1 => ?_⟩
    refine ⟨_, rfl, x, _, da, _, _, rfl, s1 _ _ ha, KT.cl, KT.nr, rfl, la, rfl, ⟨_, SqT.same hY s1⟩, ?_⟩
    refine for_tup (K := K) (a := la) (xs := ys) (fun i σ' H' => ∃ (u3 u4 u5 u6 : Option V) (xs : List V), σ' = [some (.ref x), some (.int (p * (n : Int))), some (.ref G), u3, u4, u5, u6] ∧ Same H H' ∧ H' G = some (.lst xs) ∧ Sns K H' xs ((zs.take i).flatMap (Rn.byOf p n))) ⟨_, _, _, _, [], rfl, s1, e1, .nil⟩ ?_ ?_ ?_
    · rintro i σ' H' _ ⟨u3, u4, u5, u6, xs, _, s2, _⟩
      exact SqT.same hY s2
    · rintro i v σ' H2 hx ⟨u3, u4, u5, u6, xs, rfl, s2, eG, SG⟩
      obtain ⟨z, hz', Sx⟩ := pr_get Ry hx
      have gz := cz.good z (List.mem_of_getElem? hz')
      have hi : i < ys.length := (List.getElem?_eq_some_iff.mp hx).1
      have et : (zs.take (i + 1)).flatMap (Rn.byOf p n) = (zs.take i).flatMap (Rn.byOf p n) ++ Rn.byOf p n z := by
        rw [List.take_add_one, hz', List.flatMap_append]
        simp
      have zl := SG.length
      rw [Rn.bys_len, List.length_take] at zl
      have zl2 : xs.length ≤ 10000000 := by
        rw [zl]
        refine Nat.le_trans (Nat.mul_le_mul_right n (Nat.min_le_right _ _)) hz
      have nsm : n ≤ 400 := by
        have : (1 : Int) * (n : Int) ≤ p * (n : Int) := Int.mul_le_mul_of_nonneg_right (by omega) (by omega)
        omega
      obtain ⟨ax, rfl, hX⟩ := Tp.same Sx s2
      obtain ⟨r, lo, hi'⟩ := z
      refine ⟨ax, _, rfl, hX, rfl, _, _, rfl, _, _, rfl, _, _, rfl, rfl, ?_⟩
      refine ⟨_, rfl, Or.inl ⟨rfl, _, SqL.of eG⟩, ?_⟩
      refine ⟨_, rfl, _, rfl, _, rfl, x, _, da, _, _, rfl, s2 _ _ ha, KT.cl, KT.np, rfl, r, p * (n : Int), p, n, rfl, rgc_by (by omega) gz.r0 gz.r1 hn h4, fun D hD => ?_⟩
      refine loop_rgc (lo := r) (c := p) (n := n) (fun j H' => ∃ acc : List V, H' D = some (.lst acc) ∧ Same H2 H' ∧ Sns K H' acc (Rn.byOf p j ⟨r, lo, hi'⟩)) ⟨[], upd_same, upd_new hD, .nil⟩ ?_ ?_
      · rintro j H3 hj ⟨acc, eD, s3, SD⟩
        have al := SD.length
        unfold Rn.byOf at al
        rw [List.length_map, List.length_range] at al
        refine ⟨rfl, _, rfl, _, rfl, _, rfl, (by show 3 ≤ sizeLine; decide), fun q H4 n4 s4 e4 => ⟨acc, s4 _ _ eD, by omega, acc ++ [.ref q], upd_same, same_upd (Same.trans s3 s4) hD, ?_⟩⟩
        have eb : Rn.byOf p (j + 1) ⟨r, lo, hi'⟩ = Rn.byOf p j ⟨r, lo, hi'⟩ ++ [⟨some (r + p * (j : Int)), lo, hi'⟩] := by
          unfold Rn.byOf
          rw [List.range_succ, List.map_append]
          rfl
        rw [eb]
        refine Sns.kept (pr_append (Sns.same SD s4) (.cons ?_ .nil)) (s4 _ _ eD) Kept.upd
        refine Tp.of ?_
        rw [e4, Int.mul_comm (j : Int) p]
        rfl
      · rintro H3 ⟨acc, eD, s3, SD⟩
        have al := SD.length
        unfold Rn.byOf at al
        rw [List.length_map, List.length_range] at al
        refine ⟨G, D, xs, acc, rfl, rfl, s3 _ _ eG, eD, by omega, ?_⟩
        refine ⟨_, _, _, _, xs ++ acc, rfl, same_upd (Same.trans s2 s3) n1, upd_same, ?_⟩
        rw [et]
        exact Sns.kept (pr_append (Sns.same SG s3) SD) (s3 _ _ eG) Kept.upd
    · rintro σ' H2 ⟨u3, u4, u5, u6, xs, rfl, s2, eG, SG⟩
      rw [hyl, List.take_length] at SG
      have hle : ((zs.flatMap (Rn.byOf p n)).flatMap (Rn.foundOf (p * (n : Int)))).length ≤ zs.length * n := Nat.le_trans (Rn.found_le fun s hs => by
        obtain ⟨z, _, hs⟩ := List.mem_flatMap.mp hs
        obtain ⟨i, _, rfl⟩ := List.mem_map.mp hs
        exact ⟨_, rfl⟩) (by rw [Rn.bys_len]; exact Nat.le_refl _)
      refine ⟨_, rfl, _, rfl, p * (n : Int), G, xs, _, rfl, q1, h4, SqL.of eG, SG, ⟨fun s hs => ?_, by omega⟩, k.told s2 q1 h4 (fun t => Rn.bys_mem (by omega) cz.good hn) hle⟩
      obtain ⟨z, hz, hs⟩ := List.mem_flatMap.mp hs
      exact Rn.by_ok (by omega) (cz.good z hz) s hs
end
end TM
end

section

namespace Rn
/-! ### numbers of members in windows -/
open Classical in
noncomputable def cntN (A : Int → Prop) (lo : Int) : Nat → Nat
  | 0 => 0
  | n + 1 => cntN A lo n + (if A (lo + (n : Int)) then 1 else 0)
noncomputable def cnt (A : Int → Prop) (lo hi : Int) : Nat := cntN A lo (hi + 1 - lo).toNat
section
variable {A B : Int → Prop} {lo hi : Int}
theorem cntN_congr : ∀ {n : Nat}, (∀ t, lo ≤ t → t < lo + (n : Int) → (A t ↔ B t)) → cntN A lo n = cntN B lo n
  | 0, _ => rfl
  | n + 1, h => by
    unfold cntN
    rw [cntN_congr (n := n) fun t h1 h2 => h t h1 (by omega)]
    have e := h (lo + (n : Int)) (by omega) (by omega)
    by_cases c : A (lo + (n : Int))
    · rw [if_pos c, if_pos (e.mp c)]
    · rw [if_neg c, if_neg fun z => c (e.mpr z)]
theorem cnt_congr (h : ∀ t, lo ≤ t → t ≤ hi → (A t ↔ B t)) : cnt A lo hi = cnt B lo hi := cntN_congr fun t h1 h2 => h t h1 (by omega)
theorem cntN_or : ∀ {n : Nat}, (∀ t, A t → B t → False) → cntN (fun t => A t ∨ B t) lo n = cntN A lo n + cntN B lo n
  | 0, _ => rfl
  | n + 1, h => by
    unfold cntN
    rw [cntN_or (n := n) h]
    by_cases c : A (lo + (n : Int))
    · rw [if_pos c, if_neg fun z => h _ c z, if_pos (.inl c)]
      omega
    · by_cases d : B (lo + (n : Int))
      · rw [if_neg c, if_pos d, if_pos (.inr d)]
        omega
      · rw [if_neg c, if_neg d, if_neg fun z => z.elim c d]
        omega
theorem cnt_or (h : ∀ t, A t → B t → False) : cnt (fun t => A t ∨ B t) lo hi = cnt A lo hi + cnt B lo hi := cntN_or h
theorem cntN_none : ∀ {n : Nat}, (∀ t, lo ≤ t → t < lo + (n : Int) → ¬ A t) → cntN A lo n = 0
  | 0, _ => rfl
  | n + 1, h => by
    unfold cntN
    rw [cntN_none (n := n) fun t h1 h2 => h t h1 (by omega), if_neg (h _ (by omega) (by omega))]
theorem cnt_none (h : ∀ t, lo ≤ t → t ≤ hi → ¬ A t) : cnt A lo hi = 0 := cntN_none fun t h1 h2 => h t h1 (by omega)
theorem cntN_sub : ∀ {n : Nat}, (∀ t, lo ≤ t → t < lo + (n : Int) → A t → B t) → cntN A lo n ≤ cntN B lo n
  | 0, _ => Nat.le_refl _
  | n + 1, h => by
    unfold cntN
    have i := cntN_sub (n := n) fun t h1 h2 => h t h1 (by omega)
    have e := h (lo + (n : Int)) (by omega) (by omega)
    by_cases c : A (lo + (n : Int))
    · rw [if_pos c, if_pos (e c)]
      omega
    · rw [if_neg c]
      omega
theorem cnt_sub (h : ∀ t, lo ≤ t → t ≤ hi → A t → B t) : cnt A lo hi ≤ cnt B lo hi := cntN_sub fun t h1 h2 => h t h1 (by omega)
theorem cntN_mono {n m : Nat} (h : n ≤ m) : cntN A lo n ≤ cntN A lo m := by
  induction h with
  | refl => exact Nat.le_refl _
  | step h ih =>
    refine Nat.le_trans ih ?_
    show _ ≤ cntN A lo _ + _
    omega
theorem cnt_mono {hi' : Int} (h : hi ≤ hi') : cnt A lo hi ≤ cnt A lo hi' := cntN_mono (by omega)
theorem cntN_le {n : Nat} : cntN A lo n ≤ n := by
  induction n with
  | zero => exact Nat.le_refl _
  | succ n this =>
    unfold cntN
    split <;> omega
theorem cnt_le : cnt A lo hi ≤ (hi + 1 - lo).toNat := cntN_le
theorem cnt_nil (h : hi < lo) : cnt A lo hi = 0 := by
  unfold cnt
  rw [show (hi + 1 - lo).toNat = 0 by omega]
  rfl
theorem cnt_yes (h : lo ≤ hi) (c : A hi) : cnt A lo hi = cnt A lo (hi - 1) + 1 := by
  unfold cnt
  rw [show (hi + 1 - lo).toNat = (hi - 1 + 1 - lo).toNat + 1 by omega]
  show cntN A lo _ + _ = _
  rw [if_pos (by rw [show lo + (((hi - 1 + 1 - lo).toNat : Nat) : Int) = hi by omega]; exact c)]
theorem cnt_no (c : ¬ A hi) : cnt A lo hi = cnt A lo (hi - 1) := by
  by_cases h : lo ≤ hi
  · unfold cnt
    rw [show (hi + 1 - lo).toNat = (hi - 1 + 1 - lo).toNat + 1 by omega]
    show cntN A lo _ + _ = _
    rw [if_neg (by rw [show lo + (((hi - 1 + 1 - lo).toNat : Nat) : Int) = hi by omega]; exact c)]
    rfl
  · rw [cnt_nil (by omega), cnt_nil (by omega)]
theorem cntN_add : ∀ {n m : Nat}, cntN A lo (n + m) = cntN A lo n + cntN A (lo + (n : Int)) m
  | n, 0 => rfl
  | n, m + 1 => by
    show cntN A lo (n + m) + _ = _ + (cntN A (lo + (n : Int)) m + _)
    rw [cntN_add (n := n) (m := m), show lo + ((Nat.add n m : Nat) : Int) = lo + (n : Int) + (m : Int) by show lo + ((n + m : Nat) : Int) = _; omega]
    omega
/-- a window cut in two -/
theorem cnt_cut {c : Int} (h1 : lo ≤ c + 1) (h2 : c ≤ hi) : cnt A lo hi = cnt A lo c + cnt A (c + 1) hi := by
  unfold cnt
  rw [show (hi + 1 - lo).toNat = (c + 1 - lo).toNat + (hi + 1 - (c + 1)).toNat by omega, cntN_add, show lo + (((c + 1 - lo).toNat : Nat) : Int) = c + 1 by omega]
theorem cnt_point {x : Int} (h1 : lo ≤ x) (h2 : x ≤ hi) : cnt (fun t => t = x) lo hi = 1 := by
  rw [cnt_cut (c := x) (by omega) h2, cnt_yes (A := fun t => t = x) h1 rfl, cnt_none (lo := lo) (hi := x - 1) fun t _ h => by omega, cnt_none (lo := x + 1) (hi := hi) fun t h _ => by omega]
/-- every p-th -/
theorem cnt_steps {p r a : Int} (hp : 0 < p) (ea : a % p = r) (h1 : lo ≤ a) {k : Nat} (h : a + p * (k : Int) ≤ hi) : cnt (fun t => t % p = r ∧ a ≤ t ∧ t ≤ a + p * (k : Int)) lo hi = k + 1 := by
  induction k with
  | zero =>
    have e : cnt (fun t => t % p = r ∧ a ≤ t ∧ t ≤ a + p * ((0 : Nat) : Int)) lo hi = cnt (fun t => t = a) lo hi := cnt_congr fun t _ _ => ⟨fun z => by omega, fun z => by subst z; exact ⟨ea, by omega, by omega⟩⟩
    rw [e, cnt_point h1 (by omega)]
  | succ k ih =>
    have eS : p * ((k + 1 : Nat) : Int) = p * (k : Int) + p := by
      rw [Int.natCast_add, Int.mul_add]
      omega
    have k0 : 0 ≤ p * (k : Int) := Int.mul_nonneg (by omega) (by omega)
    have ih := ih (by omega)
    have em : (a + p * (k : Int) + p) % p = r := by
      rw [Int.add_emod_right, Int.add_mul_emod_self_left]
      exact ea
    have e : cnt (fun t => t % p = r ∧ a ≤ t ∧ t ≤ a + p * ((k + 1 : Nat) : Int)) lo hi = cnt (fun t => (t % p = r ∧ a ≤ t ∧ t ≤ a + p * (k : Int)) ∨ t = a + p * (k : Int) + p) lo hi := by
      refine cnt_congr fun t _ _ => ⟨fun ⟨z1, z2, z3⟩ => ?_, fun z => ?_⟩
      · by_cases c : t ≤ a + p * (k : Int)
        · exact .inl ⟨z1, z2, c⟩
        · right
          have q := step_of hp (a := a + p * (k : Int)) (b := t) (by rw [Int.add_mul_emod_self_left, ea, z1]) (by omega)
          have q2 : ¬ (a + p * (k : Int) + p < t) := fun z => by
            have := step_of hp (a := a + p * (k : Int) + p) (b := t) (by rw [em, z1]) z
            omega
          omega
      · rcases z with ⟨z1, z2, z3⟩ | z
        · exact ⟨z1, z2, by omega⟩
        · subst z
          exact ⟨em, by omega, by omega⟩
    rw [e, cnt_or fun t h1 h2 => by omega, ih, cnt_point (by omega) (by omega)]
end
/-! ### the members of runs, run by run -/
section
variable {p : Int} {lo hi : Int}
theorem cnt_run {x : Run} {a b : Int} (hp : 0 < p) (g : Good p x) (ea : x.lo = some a) (eb : x.hi = some b) (h1 : lo ≤ a) (h2 : b ≤ hi) : (cnt (inRun p x) lo hi : Int) = (b - a) / p + 1 := by
  have ma := (in_lo g ea).1
  have mb := (in_hi g eb).1
  have hab := (in_lo g ea).2.2 b eb
  obtain ⟨k, hk⟩ := dvd_of_mods (p := p) (a := b) (b := a) (by rw [ma, mb])
  have k0 : 0 ≤ k := by
    by_cases c : 0 ≤ k
    · exact c
    · have := Int.mul_neg_of_pos_of_neg hp (show k < 0 by omega)
      omega
  have ek : ((k.toNat : Nat) : Int) = k := by omega
  have q := cnt_steps (lo := lo) (hi := hi) (k := k.toNat) hp ma h1 (by rw [ek]; omega)
  rw [ek] at q
  have e : cnt (inRun p x) lo hi = cnt (fun t => t % p = x.r ∧ a ≤ t ∧ t ≤ a + p * k) lo hi := cnt_congr fun t _ _ => by
    unfold inRun
    rw [ea, eb, geS, leS, show a + p * k = b by omega]
  rw [e, q, hk, Int.mul_ediv_cancel_left _ (by omega)]
  omega
theorem cnt_runs {z : Run} {zs : List Run} (hp : 0 < p) (c : Canon p (zs ++ [z])) : cnt (inRuns p (zs ++ [z])) lo hi = cnt (inRuns p zs) lo hi + cnt (inRun p z) lo hi := by
  rw [← cnt_or fun t h1 h2 => ?_]
  · exact cnt_congr fun t _ _ => by rw [inRuns_append, inRuns_one]
  · obtain ⟨x, hx, mx⟩ := h1
    have q := (List.pairwise_append.mp c.pw).2.2 x hx z List.mem_cons_self
    exact q.apart hp mx h2
end
/-! ### the member with an index -/
def IsKth (A : Int → Prop) (s : Int) (k : Nat) : Option Int → Prop
  | none => ∀ h, cnt A s h ≤ k
  | some m => A m ∧ s ≤ m ∧ cnt A s m = k + 1
section
variable {A B : Int → Prop} {s : Int} {k : Nat} {o o' : Option Int}
theorem cnt_lt {m m' : Int} (h : m < m') (hs : s ≤ m') (c : A m') : cnt A s m < cnt A s m' := by
  rw [cnt_yes hs c]
  exact Nat.lt_succ_of_le (cnt_mono (by omega))
theorem IsKth.uniq (h : IsKth A s k o) (h' : IsKth A s k o') : o = o' := by
  cases o with
  | none =>
    cases o' with
    | none => rfl
    | some m =>
      have := h m
      have := h'.2.2
      omega
  | some m =>
    cases o' with
    | none =>
      have := h' m
      have := h.2.2
      omega
    | some n =>
      rcases Int.lt_trichotomy m n with c | c | c
      · have := cnt_lt c h'.2.1 h'.1
        have := h.2.2
        have := h'.2.2
        omega
      · rw [c]
      · have := cnt_lt c h.2.1 h.1
        have := h.2.2
        have := h'.2.2
        omega
theorem IsKth.congr (e : ∀ t, A t ↔ B t) (h : IsKth A s k o) : IsKth B s k o := by
  cases o with
  | none => exact fun hi => by rw [← cnt_congr fun t _ _ => e t]; exact h hi
  | some m => exact ⟨(e m).mp h.1, h.2.1, by rw [← cnt_congr fun t _ _ => e t]; exact h.2.2⟩
/-- where the halving ends -/
theorem kth_at {m : Int} (h1 : s ≤ m) (h2 : cnt A s (m - 1) ≤ k) (h3 : k < cnt A s m) : IsKth A s k (some m) := by
  by_cases c : A m
  · refine ⟨c, h1, ?_⟩
    have := cnt_yes h1 c
    omega
  · have := cnt_no (lo := s) c
    omega
/-- no more members than k: none with the index k -/
theorem kth_no {p b : Int} {ss : List Sp3} (hp : 0 < p) (hb : ∀ x ∈ ss, ∀ l, x.lo = some l ∨ x.hi = some l → l ≤ b) (hs : s ≤ b) (h : cnt (inSpans p ss) s (b + p * ((k : Int) + 1)) ≤ k) : IsKth (inSpans p ss) s k none := by
  have no : ∀ t, b < t → ¬ inSpans p ss t := by
    rintro t ht ⟨x, hx, m1, m2, m3⟩
    have hN : x.hi = none := by
      cases e : x.hi with
      | none => rfl
      | some l =>
        have := m3 l e
        have := hb x hx l (.inr e)
        omega
    have r0 := Int.emod_nonneg t (show p ≠ 0 by omega)
    have r1 := Int.emod_lt_of_pos t hp
    have ul := upTo_le (p := p) (r := t % p) hp (b + 1)
    have um := upTo_mod r0 r1 (b + 1)
    have q := cnt_steps (lo := s) (hi := b + p * ((k : Int) + 1)) (k := k) hp um (by omega) (by rw [Int.mul_add]; omega)
    have q2 : cnt (fun u => u % p = t % p ∧ upTo p (t % p) (b + 1) ≤ u ∧ u ≤ upTo p (t % p) (b + 1) + p * (k : Int)) s (b + p * ((k : Int) + 1)) ≤ cnt (inSpans p ss) s (b + p * ((k : Int) + 1)) := by
      refine cnt_sub fun u _ _ hu => ⟨x, hx, fun r e => by rw [hu.1]; exact m1 r e, fun l e => ?_, fun l e => ?_⟩
      · have := hb x hx l (.inl e)
        omega
      · rw [hN] at e
        cases e
    omega
  intro h'
  rcases Int.lt_or_le h' (b + p * ((k : Int) + 1)) with c | c
  · exact Nat.le_trans (cnt_mono (by omega)) h
  · have pk : 0 ≤ p * ((k : Int) + 1) := Int.mul_nonneg (by omega) (by omega)
    rw [cnt_cut (c := b + p * ((k : Int) + 1)) (by omega) c, cnt_none (lo := b + p * ((k : Int) + 1) + 1) fun t h1 _ => no t (by omega)]
    exact h
theorem kth_noR {p b : Int} {zs : List Run} (hp : 0 < p) (hb : ∀ z ∈ zs, ∀ l, z.lo = some l ∨ z.hi = some l → l ≤ b) (hs : s ≤ b) (h : cnt (inRuns p zs) s (b + p * ((k : Int) + 1)) ≤ k) : IsKth (inRuns p zs) s k none :=
  (kth_no (ss := zs.map Run.span) hp (fun x hx l e => by obtain ⟨z, hz, rfl⟩ := List.mem_map.mp hx; exact hb z hz l e) hs (by rw [cnt_congr fun t _ _ => spans_runs]; exact h)).congr fun t => spans_runs
/-- fit for a product -/
def Fit (n : Nat) : Prop := n < 2 ^ 1000
end
end Rn
end

section
set_option maxHeartbeats 4000000
namespace TM
open PySem PySem.Spec PyProof.Rows L2 EW
abbrev NManyIn : List Str := ["period", "runs", "low", "high", "total", "residue", "least", "most", "run"]
theorem ManyIn : FnScope NManyIn ["period", "runs", "low", "high"] (defScope sManyIn) := ⟨rfl, rfl, rfl, by decide +kernel, rfl, by decide +kernel, by decide +kernel⟩
abbrev NFarEnd : List Str := ["period", "runs", "start", "many", "told", "residue", "least", "most", "bound"]
theorem FarEnd : FnScope NFarEnd ["period", "runs", "start", "many"] (defScope sFarEnd) := ⟨rfl, rfl, rfl, by decide +kernel, rfl, by decide +kernel, by decide +kernel⟩
abbrev NKthIn : List Str := ["period", "runs", "index", "start", "low", "high", "middle"]
theorem KthIn : FnScope NKthIn ["period", "runs", "index", "start"] (defScope sKthIn) := ⟨rfl, rfl, rfl, by decide +kernel, rfl, by decide +kernel, by decide +kernel⟩
abbrev NKth : List Str := ["self", "index", "start"]
theorem Kth : FnScope NKth ["self", "index", "start"] (defScope sKth) := ⟨rfl, rfl, rfl, by decide +kernel, rfl, by decide +kernel, by decide +kernel⟩
def spMany (K : W.Frag) : Sp := fun vs H Q _ => ∃ (p a b : Int) (l : Addr) (zs : List Rn.Run), vs = [.int p, .ref l, .int a, .int b] ∧ 0 < p ∧ p ≤ 400 ∧ RunsAt K H l p zs ∧ ∀ (n : Int) (H' : Hp), Same H H' → n = (Rn.cnt (Rn.inRuns p zs) a b : Int) → Q (.int n) H'
def spFar (K : W.Frag) : Sp := fun vs H Q _ => ∃ (p a m : Int) (l : Addr) (zs : List Rn.Run), vs = [.int p, .ref l, .int a, .int m] ∧ 0 < p ∧ p ≤ 400 ∧ Rn.Fit m.natAbs ∧ RunsAt K H l p zs ∧ zs.length ≤ 1000000 ∧ ∀ (b : Int) (H' : Hp), Same H H' → a ≤ b → (∀ z ∈ zs, ∀ x, z.lo = some x ∨ z.hi = some x → x ≤ b) → Q (.int (b + p * m)) H'
def spKthIn (K : W.Frag) : Sp := fun vs H Q _ => ∃ (p a : Int) (i : Nat) (l : Addr) (zs : List Rn.Run), vs = [.int p, .ref l, .int i, .int a] ∧ 0 < p ∧ p ≤ 400 ∧ Rn.Fit (i + 1) ∧ RunsAt K H l p zs ∧ zs.length ≤ 1000000 ∧ ∀ (o : Option Int) (H' : Hp), Same H H' → Rn.IsKth (Rn.inRuns p zs) a i o → Q (ob o) H'
def spKth (K : W.Frag) : Sp := fun vs H Q _ => ∃ (u : V) (p a : Int) (i : Nat) (zs : List Rn.Run), vs = [u, .int i, .int a] ∧ Ob K (CT K) H u p zs ∧ Rn.Fit (i + 1) ∧ zs.length ≤ 1000000 ∧ ∀ (o : Option Int) (H' : Hp), Same H H' → Rn.IsKth (Rn.inRuns p zs) a i o → Q (ob o) H'
theorem not_of {P : Prop} [Decidable P] (h : ¬ decide P = true) : ¬ P := fun z => h (decide_eq_true z)
theorem p_small {p : Int} (h0 : 0 < p) (h : p ≤ 400) : p.natAbs < 2 ^ 9 := by
  have : (2 : Nat) ^ 9 = 512 := by decide
  omega
section
variable {P : Program} {w : World} {K : W.Frag} {mg : Str → Option Value} {base : Heap}
theorem ok_manyIn {fd : FuncData} (F : FnP K "many_in" sManyIn fd) (T : Fre mg) (Drun_of : Df P w K mg base 2 "run_of" ["period", "residue", "least", "most"] spRunOf) (Dgreater_of : Df P w K mg base 1 "greater_of" ["one", "other"] (spTwo grt)) (Dlesser_of : Df P w K mg base 1 "lesser_of" ["one", "other"] (spTwo lst)) :
    FnOk P w K mg base CX0 3 (He.ga K "many_in") fd ["period", "runs", "low", "high"] (spMany K) := by
  refine F.ok ManyIn (fun vs H Q E h => ?_) (fun cdv A outer s H vs Q E hr h => ?_)
  · obtain ⟨p, a, b, l, zs, rfl, _⟩ := h
    rfl
  · obtain ⟨p, a, b, l, zs, rfl, hp, p2, ⟨ys, hY, Ry, cz, hzl⟩, k⟩ := h
    have hyl := Ry.length
    refine ⟨_, PSs.nox (pss_cons (ps_set (i := 4) ManyIn.nd rfl (Or.inl rfl) pe_int)
      (pss_cons (ps_for PassesOwn.never rfl (pi_tupK (K := K) rfl (pv 1)) (pg_tup rfl (pgs_cons (pg_name (i := 5) ManyIn.nd rfl (Or.inl rfl)) (pgs_cons (pg_name (i := 6) ManyIn.nd rfl (Or.inl rfl)) (pgs_cons (pg_name (i := 7) ManyIn.nd rfl (Or.inl rfl)) pgs_nil)))) (pss_cons (ps_cut (ps_set (i := 8) ManyIn.nd rfl (Or.inl rfl) (pe_df Drun_of (hr.mono (by decide)) rfl (pa_cons (pv 0) (pa_cons (pv 5) (pa_cons (pe_df Dgreater_of (hr.mono (by decide)) rfl (pa_cons (pv 6) (pa_cons (pv 2) pa_nil))) (pa_cons (pe_df Dlesser_of (hr.mono (by decide)) rfl (pa_cons (pv 7) (pa_cons (pv 3) pa_nil))) pa_nil)))))))
      (pss_one (ps_if (pt_cmp (pc_notN (pv 8))) (pss_one (ps_aug (i := 4) ManyIn.nd rfl (Or.inl rfl) (pe_op op_add (pe_op op_fdivW (pe_op op_sub (pe_ix (ix_tupK K rfl) (pv 8) pe_int (fun _ _ => rfl)) (pe_ix (ix_tupK K rfl) (pv 8) pe_int (fun _ _ => rfl))) (pv 0)) pe_int) ip_add)) pss_nil))))
      (pss_one (ps_ret (pv 4))))), ?_⟩
    refine ⟨_, rfl, l, rfl, ⟨_, hY⟩, ?_⟩
    refine for_tup (K := K) (a := l) (xs := ys) (fun i σ' H' => ∃ (n : Int) (u5 u6 u7 u8 : Option V), σ' = [some (.int p), some (.ref l), some (.int a), some (.int b), some (.int n), u5, u6, u7, u8] ∧ Same H H' ∧ n = (Rn.cnt (Rn.inRuns p (zs.take i)) a b : Int)) ⟨0, _, _, _, _, rfl, Same.refl H, ?_⟩ ?_ ?_ ?_
    · rw [Rn.cnt_none fun t _ _ q => by obtain ⟨_, hx, _⟩ := q; rw [List.take_zero] at hx; cases hx]
      rfl
    · rintro i σ' H' _ ⟨n, u5, u6, u7, u8, _, s2, _⟩
      exact SqT.same hY s2
    · rintro i x σ' H2 hx ⟨n, u5, u6, u7, u8, rfl, s2, hn⟩
      obtain ⟨z, hz, Sx⟩ := pr_get Ry hx
      have mz := List.mem_of_getElem? hz
      have gz := cz.good z mz
      have et : zs.take (i + 1) = zs.take i ++ [z] := by
        rw [List.take_add_one, hz]
        rfl
      have ct : Rn.Canon p (zs.take i ++ [z]) := by
        rw [← et]
        exact ⟨fun y hy => cz.good y (List.mem_of_mem_take hy), List.Pairwise.sublist (List.take_sublist _ _) cz.pw⟩
      have step : ∀ c : Int, c = (Rn.cnt (Rn.inRun p z) a b : Int) → n + c = (Rn.cnt (Rn.inRuns p (zs.take (i + 1))) a b : Int) := fun c hc => by
        rw [et, Rn.cnt_runs hp ct]
        omega
      obtain ⟨ax, rfl, hX⟩ := Tp.same Sx s2
      refine ⟨ax, _, rfl, hX, rfl, _, _, rfl, _, _, rfl, _, _, rfl, rfl, ?_⟩
      refine ⟨fun σ' H' => ∃ v, σ' = [some (.int p), some (.ref l), some (.int a), some (.int b), some (.int n), some (.int z.r), some (ob z.lo), some (ob z.hi), some v] ∧ Same H2 H' ∧ ((v = .non ∧ Rn.cnt (Rn.inRun p z) a b = 0) ∨ ∃ (q : Addr) (c d : Int) (w1 : V), v = .ref q ∧ H' q = some (.tup [w1, .int c, .int d]) ∧ (Rn.cnt (Rn.inRun p z) a b : Int) = (d - c) / p + 1), ?_, ?_⟩
      · refine ⟨_, rfl, _, rfl, _, rfl, _, rfl, z.lo, some a, rfl, _, rfl, _, rfl, z.hi, some b, rfl, p, z.r, grt z.lo (some a), lst z.hi (some b), rfl, hp, ?_⟩
        cases e : Rn.runOf p z.r (grt z.lo (some a)) (lst z.hi (some b)) with
        | none => exact fun H3 s3 => ⟨_, rfl, s3, .inl ⟨rfl, Rn.cnt_none fun t h1 h2 hz => Rn.runOf_none gz.r0 gz.r1 e t ⟨hz.1, grt_at.mpr ⟨hz.2.1, h1⟩, lst_at.mpr ⟨hz.2.2, h2⟩⟩⟩⟩
        | some y =>
          refine fun q H3 n3 s3 e3 => ?_
          obtain ⟨g, er, m⟩ := Rn.runOf_some gz.r0 gz.r1 e
          obtain ⟨u, eu⟩ := grt_some z.lo a
          obtain ⟨v, ev⟩ := lst_some z.hi b
          obtain ⟨c, ec⟩ : ∃ m, y.lo = some m := by
            rw [eu] at e
            exact Rn.runOf_lo e
          obtain ⟨d, ed⟩ : ∃ m, y.hi = some m := by
            rw [ev] at e
            exact Rn.runOf_hi e
          rw [ec, ed] at e3
          refine ⟨_, rfl, s3, .inr ⟨q, c, d, _, rfl, e3, ?_⟩⟩
          have hc := (m c).mp (Rn.in_lo g ec)
          have hd := (m d).mp (Rn.in_hi g ed)
          have eq : Rn.cnt (Rn.inRun p z) a b = Rn.cnt (Rn.inRun p y) a b := Rn.cnt_congr fun t h1 h2 => by
            rw [m, grt_at, lst_at]
            exact ⟨fun z => ⟨z.1, ⟨z.2.1, h1⟩, z.2.2, h2⟩, fun z => ⟨z.1, z.2.1.1, z.2.2.1⟩⟩
          rw [eq]
          exact Rn.cnt_run hp g ec ed (grt_at.mp hc.2.1).2 (lst_at.mp hd.2.2).2
      rintro σ' H3 ⟨v, rfl, s3, h⟩
      have s23 := Same.trans s2 s3
      refine ⟨_, rfl, _, rfl, ?_⟩
      rcases h with ⟨rfl, hn0⟩ | ⟨q, c, d, w1, rfl, eq, hc⟩
      · refine iteF ⟨n, _, _, _, _, rfl, s23, ?_⟩
        have := step 0 (by rw [hn0]; rfl)
        omega
      · refine iteT ⟨_, rfl, _, rfl, q, _, _, _, rfl, rfl, SqT.of eq, rfl, _, rfl, q, _, _, _, rfl, rfl, SqT.of eq, rfl, _, _, rfl, rfl, _, rfl, _, _, rfl, rfl, wide_div hp (p_small hp p2) (by decide) (by decide), _, _, rfl, rfl, _, _, rfl, rfl, ?_⟩
        exact ⟨_, _, _, _, _, rfl, s23, step _ hc.symm⟩
    · rintro σ' H2 ⟨n, u5, u6, u7, u8, rfl, s2, hn⟩
      rw [hyl, List.take_length] at hn
      exact ⟨_, rfl, k n H2 s2 hn⟩
theorem ok_farEnd {fd : FuncData} (F : FnP K "far_end" sFarEnd fd) (T : Fre mg) : FnOk P w K mg base CX0 1 (He.ga K "far_end") fd ["period", "runs", "start", "many"] (spFar K) := by
  refine F.ok FarEnd (fun vs H Q E h => ?_) (fun cdv A outer s H vs Q E hr h => ?_)
  · obtain ⟨p, a, m, l, zs, rfl, _⟩ := h
    rfl
  · obtain ⟨p, a, m, l, zs, rfl, hp, p2, hm', ⟨ys, hY, Ry, cz, hzl⟩, hzz, k⟩ := h
    have hyl := Ry.length
    have hbig : (16000000 : Nat) < sizeLine := by decide
    refine ⟨_, PSs.nox (pss_cons (ps_cut (ps_setLc2 (i := 4) (own := [("residue", 5), ("least", 6), ("most", 7), ("bound", 8)]) (vs1 := [8]) (g := gTup K 3 (gCons (gName 5) (gCons (gName 6) (gCons (gName 7) gNil)))) (g1 := gName 8) (tt := tYes) (tt1 := _) (by rfl) FarEnd.nd rfl rfl (sw_true rfl rfl rfl (by decide +kernel)) (pi_tupK (K := K) rfl (pv 1)) (blkOk_by (own := [("residue", 5), ("least", 6), ("most", 7), ("bound", 8)]) (N := NFarEnd) (sc := defScope sFarEnd) (by decide +kernel)) (by decide) (fun _ _ _ _ _ => (pg_tup rfl (pgs_cons (pg_name (i := 5) FarEnd.nd rfl (Or.inl rfl)) (pgs_cons (pg_name (i := 6) FarEnd.nd rfl (Or.inl rfl)) (pgs_cons (pg_name (i := 7) FarEnd.nd rfl (Or.inl rfl)) pgs_nil))))) (fun _ _ _ _ _ => pts_nil) (fun _ _ _ _ _ => (pi_tupK (K := K) rfl (pe_tupS (pa_cons (pv 6) (pa_cons (pv 7) pa_nil))))) (fun _ _ _ _ _ => (pg_name (i := 8) FarEnd.nd rfl (Or.inl rfl))) (fun _ _ _ _ _ => (pts_one (pt_cmp (pc_notN (pv 8))))) (fun _ _ _ _ _ => (pv 8))))
      (pss_one (ps_ret (pe_op op_add (pe_callB (cr_maxK K rfl rfl) (by rfl) T.max EW.boot_max (pa_cons (pe_lstS (pa_cons (pv 2) (StX.pa_star (pv 4) pa_nil))) pa_nil)) (pe_op op_mulW (pv 0) (pv 3)))))), ?_⟩
    refine ⟨fun σ' H' => ∃ (D : Addr) (ns : List Int), σ' = [some (.int p), some (.ref l), some (.int a), some (.int m), some (.ref D), none, none, none, none] ∧ Same H H' ∧ H' D = some (.lst (ns.map V.int)) ∧ (∀ z ∈ zs, ∀ x, z.lo = some x ∨ z.hi = some x → x ∈ ns) ∧ ns.length ≤ 2 * ys.length, ?_, ?_⟩
    · refine ⟨_, rfl, l, rfl, ⟨_, hY⟩, fun D hD => ?_⟩
      refine loop_tup (xs := ys) (fun i H' => ∃ ns : List Int, H' D = some (.lst (ns.map V.int)) ∧ Same H H' ∧ (∀ z ∈ zs.take i, ∀ x, z.lo = some x ∨ z.hi = some x → x ∈ ns) ∧ ns.length ≤ 2 * i) ⟨[], upd_same, upd_new hD, (fun z hz => by rw [List.take_zero] at hz; cases hz), Nat.le_refl _⟩ ?_ ?_ ?_
      · rintro i H' _ ⟨ns, _, s1, _⟩
        exact SqT.same hY s1
      · rintro i v H1 hv ⟨ns, eD, s1, ha, hl⟩
        obtain ⟨z, hz, Sx⟩ := pr_get Ry hv
        have hi : i < ys.length := (List.getElem?_eq_some_iff.mp hv).1
        have et : zs.take (i + 1) = zs.take i ++ [z] := by
          rw [List.take_add_one, hz]
          rfl
        obtain ⟨ax, rfl, hX⟩ := Tp.same Sx s1
        obtain ⟨zr, zl, zh⟩ := z
        refine ⟨ax, _, rfl, hX, rfl, _, _, rfl, _, _, rfl, _, _, rfl, rfl, rfl, _, rfl, _, rfl, (by show 2 ≤ sizeLine; decide), fun q H3 n3 s3 e3 => ?_⟩
        have nq : q ≠ D := fun z => by
          rw [z, eD] at n3
          cases n3
        refine ⟨q, rfl, ⟨_, SqT.of e3⟩, ?_⟩
        refine loop_tup (xs := [ob zl, ob zh]) (fun j H' => ∃ ms : List Int, H' D = some (.lst (ms.map V.int)) ∧ Same H H' ∧ H' q = some (.tup [ob zl, ob zh]) ∧ (∀ x ∈ ns, x ∈ ms) ∧ (∀ o ∈ [zl, zh].take j, ∀ x, o = some x → x ∈ ms) ∧ ms.length ≤ ns.length + j) ⟨ns, s3 _ _ eD, Same.trans s1 s3, e3, (fun x h => h), (fun o ho => by rw [List.take_zero] at ho; cases ho), Nat.le_refl _⟩ ?_ ?_ ?_
        · rintro j H' _ ⟨ms, _, s4, eq, _⟩
          exact SqT.of eq
        · rintro j x H4 hxj ⟨ms, eM, s4, eq, hk, ho, hml⟩
          obtain ⟨o, hoj, rfl⟩ : ∃ o, [zl, zh][j]? = some o ∧ x = ob o := by
            match j, hxj with
            | 0, h => exact ⟨zl, rfl, (Option.some.inj h).symm⟩
            | 1, h => exact ⟨zh, rfl, (Option.some.inj h).symm⟩
          have ej : [zl, zh].take (j + 1) = [zl, zh].take j ++ [o] := by
            rw [List.take_add_one, hoj]
            rfl
          have hj : j < 2 := (List.getElem?_eq_some_iff.mp hxj).1
          refine ⟨rfl, ?_⟩
          cases o with
          | none =>
            refine ⟨_, rfl, _, rfl, iteF ⟨ms, eM, s4, eq, hk, fun o ho' x e => ?_, by omega⟩⟩
            rw [ej] at ho'
            rcases List.mem_append.mp ho' with ho' | ho'
            · exact ho o ho' x e
            · rw [List.mem_singleton.mp ho'] at e
              cases e
          | some b =>
            refine ⟨_, rfl, _, rfl, iteT ⟨_, rfl, _, eM, by rw [List.length_map]; omega, ms ++ [b], ?_, same_upd s4 hD, Kept.upd _ _ nq eq, fun x hx => List.mem_append_left _ (hk x hx), fun o ho' x e => ?_, by rw [List.length_append]; exact Nat.succ_le_succ hml⟩⟩
            · rw [upd_same, List.map_append]
              rfl
            · rw [ej] at ho'
              rcases List.mem_append.mp ho' with ho' | ho'
              · exact List.mem_append_left _ (ho o ho' x e)
              · rw [List.mem_singleton.mp ho'] at e
                cases e
                exact List.mem_append_right _ List.mem_cons_self
        · rintro H4 ⟨ms, eM, s4, eq, hk, ho, hml⟩
          refine ⟨ms, eM, s4, fun z hz x e => ?_, by have : ms.length ≤ ns.length + 2 := hml; omega⟩
          rw [et] at hz
          rcases List.mem_append.mp hz with hz | hz
          · exact hk x (ha z hz x e)
          · rw [List.mem_singleton.mp hz] at e
            rcases e with e | e
            · exact ho zl List.mem_cons_self x e
            · exact ho zh (List.mem_cons_of_mem _ List.mem_cons_self) x e
      · rintro H2 ⟨ns, eD, s1, ha, hl⟩
        rw [hyl, List.take_length] at ha
        exact ⟨D, ns, rfl, s1, eD, ha, hl⟩
    rintro σ' H1 ⟨D, ns, rfl, s1, eD, ha, hl⟩
    refine ⟨_, rfl, _, rfl, D, _, rfl, .inr (SqL.of eD), ?_⟩
    have sz : ([V.int a] ++ (ns.map V.int ++ [])).length ≤ sizeLine := by
      rw [List.append_nil, List.length_append, List.length_map]
      show 1 + ns.length ≤ _
      omega
    refine ⟨sz, fun q H2 n2 s2 e2 => ?_⟩
    have e2' : H2 q = some (.lst ((a :: ns).map V.int)) := by
      rw [e2]
      show some (HO.lst (V.int a :: (ns.map V.int ++ []))) = _
      rw [List.append_nil]
      rfl
    refine ⟨q, a :: ns, rfl, SqL.of e2', Nat.succ_pos _, fun mx hm hl => ?_⟩
    refine ⟨_, rfl, _, rfl, _, _, rfl, rfl, wide_mul (p_small hp p2) hm' (by decide) (by decide) (by decide), _, _, rfl, rfl, ?_⟩
    exact k mx H2 (Same.trans s1 s2) (hl a List.mem_cons_self) fun z hz x e => hl x (List.mem_cons_of_mem _ (ha z hz x e))
theorem ok_kthIn {fd : FuncData} (F : FnP K "kth_in" sKthIn fd) (Dfar_end : Df P w K mg base 1 "far_end" ["period", "runs", "start", "many"] (spFar K)) (Dmany_in : Df P w K mg base 3 "many_in" ["period", "runs", "low", "high"] (spMany K)) : FnOk P w K mg base CX0 4 (He.ga K "kth_in") fd ["period", "runs", "index", "start"] (spKthIn K) := by
  refine F.ok KthIn (fun vs H Q E h => ?_) (fun cdv A outer s H vs Q E hr h => ?_)
  · obtain ⟨p, a, i, l, zs, rfl, _⟩ := h
    rfl
  · obtain ⟨p, a, i, l, zs, rfl, hp, p2, hi, R, hzz, k⟩ := h
    refine ⟨_, PSs.nox (pss_cons (ps_cut (ps_par (i := 4) (j := 5) (by rfl) KthIn.nd rfl rfl (by decide) rfl rfl (pa_cons (pv 3) (pa_cons (pe_df Dfar_end (hr.mono (by decide)) rfl (pa_cons (pv 0) (pa_cons (pv 1) (pa_cons (pv 3) (pa_cons (pe_op op_add (pv 2) pe_int) pa_nil))))) pa_nil)) (by rfl)))
      (pss_cons (ps_cut (ps_if (pt_cmpR op_le (pe_df Dmany_in (hr.mono (by decide)) rfl (pa_cons (pv 0) (pa_cons (pv 1) (pa_cons (pv 3) (pa_cons (pv 5) pa_nil))))) (pv 2) (nomark _)) (pss_one (ps_ret pe_non)) pss_nil))
      (pss_cons (ps_cut (ps_while PassesOwn.never (pt_cmpR op_lt (pv 4) (pv 5) (nomark _)) (pss_cons (ps_set (i := 6) KthIn.nd rfl (Or.inl rfl) (pe_op op_fdivW (pe_op op_add (pv 4) (pv 5)) pe_int))
      (pss_one (ps_if (pt_cmpR op_le (pe_df Dmany_in (hr.mono (by decide)) rfl (pa_cons (pv 0) (pa_cons (pv 1) (pa_cons (pv 3) (pa_cons (pv 6) pa_nil))))) (pv 2) (nomark _)) (pss_one (ps_set (i := 4) KthIn.nd rfl (Or.inl rfl) (pe_op op_add (pv 6) pe_int))) (pss_one (ps_set (i := 5) KthIn.nd rfl (Or.inl rfl) (pv 6))))))))
      (pss_one (ps_ret (pv 4)))))), ?_⟩
    have bi : Rn.Fit ((i : Int) + 1).natAbs := by
      rw [show ((i : Int) + 1).natAbs = i + 1 by omega]
      exact hi
    refine ⟨fun σ' H' => ∃ b : Int, σ' = [some (.int p), some (.ref l), some (.int i), some (.int a), some (.int a), some (.int (b + p * ((i : Int) + 1))), none] ∧ Same H H' ∧ a ≤ b ∧ ∀ z ∈ zs, ∀ x, z.lo = some x ∨ z.hi = some x → x ≤ b, ?_, ?_⟩
    · refine ⟨_, rfl, _, rfl, _, rfl, _, rfl, _, rfl, _, _, rfl, rfl, p, a, _, l, zs, rfl, hp, p2, bi, R, hzz, fun b H1 s1 h1 h2 => ?_⟩
      exact ⟨_, _, rfl, b, rfl, s1, h1, h2⟩
    rintro σ' H1 ⟨b, rfl, s1, hab, hb⟩
    have pk : 0 ≤ p * ((i : Int) + 1) := Int.mul_nonneg (by omega) (by omega)
    refine ⟨fun σ' H' => σ' = [some (.int p), some (.ref l), some (.int i), some (.int a), some (.int a), some (.int (b + p * ((i : Int) + 1))), none] ∧ Same H H' ∧ i < Rn.cnt (Rn.inRuns p zs) a (b + p * ((i : Int) + 1)), ?_, ?_⟩
    · refine ⟨_, rfl, _, rfl, _, rfl, _, rfl, p, a, _, l, zs, rfl, hp, p2, R.same s1, fun n H2 s2 hn => ?_⟩
      refine ⟨_, rfl, _, _, rfl, rfl, _, rfl, ite2 (fun c => ?_) fun c => ?_⟩
      · have c := of_decide_eq_true c
        exact k none H2 (Same.trans s1 s2) (Rn.kth_noR hp hb hab (by omega))
      · have c := not_of c
        exact ⟨rfl, Same.trans s1 s2, by omega⟩
    rintro σ' H2 ⟨rfl, s2, hc⟩
    refine ⟨fun σ' H' => ∃ (m : Int) (u6 : Option V), σ' = [some (.int p), some (.ref l), some (.int i), some (.int a), some (.int m), some (.int m), u6] ∧ Same H H' ∧ Rn.IsKth (Rn.inRuns p zs) a i (some m), ?_, ?_⟩
    · refine ⟨fun n σ' H' => ∃ (lo hi : Int) (u6 : Option V), n = (hi - lo).toNat ∧ σ' = [some (.int p), some (.ref l), some (.int i), some (.int a), some (.int lo), some (.int hi), u6] ∧ Same H H' ∧ a ≤ lo ∧ lo ≤ hi ∧ Rn.cnt (Rn.inRuns p zs) a (lo - 1) ≤ i ∧ i < Rn.cnt (Rn.inRuns p zs) a hi, ⟨_, a, _, none, rfl, rfl, s2, Int.le_refl _, by omega, by rw [Rn.cnt_nil (by omega)]; exact Nat.zero_le _, hc⟩, ?_⟩
      rintro n σ' H3 ⟨lo, hi', u6, rfl, rfl, s3, h1, h2, h3, h4⟩
      refine ⟨_, rfl, _, rfl, _, _, rfl, rfl, _, rfl, ite2 (fun c => ?_) fun c => ?_⟩
      · have c := of_decide_eq_true c
        refine ⟨_, fun σ' H' h => h, ?_⟩
        refine ⟨_, rfl, _, rfl, _, _, rfl, rfl, _, _, rfl, rfl, wide_div (b := 2) (by decide) (by decide) (by decide) (by decide), ?_⟩
        refine ⟨_, rfl, _, rfl, _, rfl, _, rfl, p, a, _, l, zs, rfl, hp, p2, R.same s3, fun n H4 s4 hn => ?_⟩
        refine ⟨_, rfl, _, _, rfl, rfl, _, rfl, ite2 (fun d => ?_) fun d => ?_⟩
        · have d := of_decide_eq_true d
          refine ⟨_, rfl, _, _, rfl, rfl, ?_⟩
          refine ⟨((hi' - ((lo + hi') / 2 + 1)).toNat), by omega, (lo + hi') / 2 + 1, hi', _, rfl, rfl, Same.trans s3 s4, by omega, by omega, ?_, h4⟩
          rw [show (lo + hi') / 2 + 1 - 1 = (lo + hi') / 2 by omega]
          omega
        · have d := not_of d
          refine ⟨_, rfl, ?_⟩
          exact ⟨(((lo + hi') / 2) - lo).toNat, by omega, lo, (lo + hi') / 2, _, rfl, rfl, Same.trans s3 s4, h1, by omega, h3, by omega⟩
      · have c := not_of c
        obtain rfl : lo = hi' := by omega
        exact ⟨lo, u6, rfl, s3, Rn.kth_at h1 h3 h4⟩
    rintro σ' H3 ⟨m, u6, rfl, s3, hm⟩
    exact ⟨_, rfl, k (some m) H3 s3 hm⟩
theorem ok_kth {fd : FuncData} {dvs : List V} {kws : List (Str × V)} (F : FunD K "kth" "Times.kth" (defArgs sKth) (defBody sKth) (defScope sKth) dvs kws (He.ma K (CT K) "kth") fd) (KT : Kl K mg "Times") (Dis_integer : Df P w K mg base 1 "is_integer" ["value"] (spIsInt K)) (Drequire_integer : Df P w K mg base 2 "require_integer" ["value"] spReqI) (Dkth_in : Df P w K mg base 4 "kth_in" ["period", "runs", "index", "start"] (spKthIn K)) :
    FnOk P w K mg base CX0 5 (He.ma K (CT K) "kth") fd ["self", "index", "start"] (spKth K) := by
  refine F.ok Kth (fun vs H Q E h => ?_) (fun cdv A outer s H vs Q E hr h => ?_)
  · obtain ⟨u, p, a, i, zs, rfl, _⟩ := h
    rfl
  · obtain ⟨u, p, a, i, zs, rfl, ⟨x, da, la, rfl, hx, R, p1, p2⟩, hi, hz, k⟩ := h
    refine ⟨_, PSs.nox (pss_cons (ps_if (PW.pt (pw_or (pt_not (pt_val (pe_df Dis_integer (hr.mono (by decide)) rfl (pa_cons (pv 1) pa_nil)))) (pw_or1 (pt_cmpR op_lt (pv 1) pe_int (nomark _))))) (pss_one ps_never) pss_nil)
      (pss_cons (ps_expr (pe_df Drequire_integer (hr.mono (by decide)) rfl (pa_cons (pv 2) pa_nil)))
      (pss_one (ps_ret (pe_df Dkth_in (hr.mono (by decide)) rfl (pa_cons (pe_fldK K rfl (pv 0)) (pa_cons (pe_fldK K rfl (pv 0)) (pa_cons (pv 1) (pa_cons (pv 2) pa_nil))))))))), ?_⟩
    refine ⟨_, rfl, .int i, _, true, false, rfl, .base (.int _), rfl, (fun _ => rfl), _, rfl, iteF ?_⟩
    refine ⟨_, rfl, _, _, rfl, rfl, _, rfl, iteC (decide_eq_false (by omega)) ?_⟩
    refine ⟨_, rfl, a, rfl, ?_⟩
    exact ⟨_, rfl, x, _, da, _, _, rfl, hx, KT.cl, KT.np, rfl, _, rfl, x, _, da, _, _, rfl, hx, KT.cl, KT.nr, rfl, _, rfl, _, rfl, p, a, i, la, zs, rfl, by omega, p2, hi, R, hz, k⟩
end
end TM
end

section
set_option maxHeartbeats 1000000
/-! EwGen: a generator that need not end, woken at most m times by a consumer that fills the list at S and whose records at cs turn meanwhile. -/
namespace EW
open PySem PySem.Spec PyProof.Rows GenW L2

/-- no cell stands there -/
def Rec (h : Heap) (b : Addr) : Prop := ∃ o, h.get? b = some o ∧ ∀ v, o.data ≠ .cell v
/-- the generator sleeps -/
structure SleptZ (S : Addr) (cs : List Addr) (v : Value) (s s' : Shared) : Prop where
  os : s'.os = s.os
  bare : AllBare s'.gens
  keep : ∀ b o, b ≠ S → b ∉ cs → s.heap.get? b = some o → s'.heap.get? b = some o
  own : ∀ acc c, s.heap.get? S = some (lstObj acc c) → ∃ c', s'.heap.get? S = some (lstObj (acc.push v) c')
  turn : ∀ b ∈ cs, Rec s'.heap b
/-- s₀: where it was woken; ys: what is out -/
def GJ (X : Cx) (S : Addr) (cs : List Addr) (ys : List V) (σ : L2.St) (H : Hp) (s₀ s : Shared) : Prop :=
  ∃ (acc : Array Value) (c : Nat), Vals ys acc.toList ∧ s₀.heap.get? S = some (lstObj acc c) ∧ (∀ b ∈ cs, Rec s₀.heap b) ∧ Inv X ((S, lstObj acc c) :: pinsAt cs s₀.heap) σ H s
theorem GJ.at {X : Cx} {S : Addr} {cs : List Addr} {ys : List V} {σ : L2.St} {H : Hp} {s₀ s : Shared} (h : GJ X S cs ys σ H s₀ s) : ∀ b ∈ S :: cs, s.heap.get? b = s₀.heap.get? b ∧ H b = none ∧ b ≠ X.env.locals ∧ b ∉ X.fs := by
  obtain ⟨acc, c, _, e0, rc, I⟩ := h
  intro b hb
  rcases List.mem_cons.mp hb with rfl | hb
  · obtain ⟨h1, h2, h3, h4, _⟩ := I.pin (b, lstObj acc c) (List.mem_append_right _ List.mem_cons_self)
    exact ⟨Eq.trans h1 e0.symm, h2, h3, h4⟩
  · obtain ⟨o, eo, _⟩ := rc b hb
    obtain ⟨h1, h2, h3, h4, _⟩ := I.pin (b, o) (List.mem_append_right _ (List.mem_cons_of_mem _ (mem_pinsAt hb eo)))
    exact ⟨Eq.trans h1 eo.symm, h2, h3, h4⟩
/-- the consumer's things, seen from the generator -/
structure Far (X : Cx) (S : Addr) (cs : List Addr) : Prop where
  ap : ∀ b ∈ S :: cs, Apart X b
  pn : ∀ p ∈ X.pn, p.1 ∉ S :: cs
  ns : S ∉ cs
theorem GJ.woken {X : Cx} {S : Addr} {cs : List Addr} {ys : List V} {x : V} {v : Value} {σ : L2.St} {H : Hp} {s₀ s s' : Shared} (F : Far X S cs) (h : GJ X S cs ys σ H s₀ s) (rv : RelV x v) (z : SleptZ S cs v s s') :
    GJ X S cs (ys ++ [x]) σ H s' s' := by
  have hat := h.at
  obtain ⟨acc, c, r, e0, rc, I⟩ := h
  have eS : s.heap.get? S = some (lstObj acc c) := (hat S List.mem_cons_self).1.trans e0
  have I0 : Inv X [] σ H s := I.pins_of fun p hp => absurd hp (by simp)
  obtain ⟨z1, z2, z3, z4, z5⟩ := z
  obtain ⟨c', eS'⟩ := z4 acc c eS
  have nt : ∀ b u, H b = some u → b ∉ S :: cs := fun b u q hb => by rw [(hat b hb).2.1] at q; cases q
  have split : ∀ b, b ∉ S :: cs → b ≠ S ∧ b ∉ cs := fun b hb => ⟨fun e => hb (e ▸ List.mem_cons_self), fun e => hb (List.mem_cons_of_mem _ e)⟩
  have kp : ∀ b o, b ∉ S :: cs → s.heap.get? b = some o → s'.heap.get? b = some o := fun b o hb => z3 b o (split b hb).1 (split b hb).2
  obtain ⟨hh, g, d, t, o⟩ := s'
  obtain rfl : o = s.os := z1
  have J : Inv X [] σ H { s with heap := hh, gens := g, drawn := d, toks := t } := by
    refine I0.step (g' := g) (t' := t) (d' := d) (ch := S :: cs) (fun b hb => ?_)
      (fun b ob _ _ hc q _ => kp b ob hc q) (fun b ob _ _ hc q _ => ⟨ob.slots, kp b ob hc q⟩) (fun _ _ _ _ n => n) (fun b ob hc q => ⟨ob, kp b ob hc q⟩)
      (fun _ _ q => q) (fun _ _ _ q => q) (fun b ps q => ⟨#[], by rw [q]; simp⟩) (fun m hm => ?_) (fun b u q => ?_) z2
    · obtain ⟨a1, a2, a3⟩ := F.ap b hb
      refine ⟨.inr a1, a2, a3, fun p hp e => F.pn p ?_ (e ▸ hb)⟩
      rcases List.mem_append.mp hp with hp | hp
      · exact hp
      · exact absurd hp (by simp)
    · obtain ⟨ob, es, ep, ho, rr⟩ := hm
      exact ⟨ob, es, ep, kp _ ob (fun hb => (F.ap _ hb).2.1 rfl) ho, rr⟩
    · refine (I0.hok b u q).stay (fun c v hc y => kp c v ?_ y) (fun _ y => y) fun _ _ y => y
      rcases hc with y | y
      · rw [y]; exact nt b u q
      · exact nt c _ y
  refine ⟨acc.push v, c', ?_, eS', z5, J.pins_of fun p hp => ?_⟩
  · rw [Array.toList_push]
    exact r.append (.cons rv .nil)
  · rcases List.mem_cons.mp hp with rfl | hp
    · obtain ⟨_, a2, a3, a4⟩ := hat S List.mem_cons_self
      exact ⟨eS', a2, a3, a4, fun v q => by cases q⟩
    · obtain ⟨hb, e⟩ := of_pinsAt hp
      obtain ⟨_, a2, a3, a4⟩ := hat p.1 (List.mem_cons_of_mem _ hb)
      obtain ⟨o', e', hd⟩ := z5 p.1 hb
      rw [e] at e'; cases e'
      exact ⟨e, a2, a3, a4, hd⟩

/-! ### the protocol: at most m items; Q: what is wanted at the m-th, or at the end -/
abbrev QZ := List V → Hp → Prop
def GYZ (X : Cx) (S : Addr) (cs : List Addr) (m : Nat) (Q : QZ) : Protocol := fun n s₀ v s kap =>
  ∃ ys x σ H, n + 1 + ys.length = m ∧ RelV x v ∧ GJ X S cs ys σ H s₀ s ∧ (n = 0 → Q (ys ++ [x]) H) ∧ (0 < n → ∀ s', SleptZ S cs v s s' → kap (.send .none) s')
def GSPZ (X : Cx) (S : Addr) (cs : List Addr) (s₀ : Shared) (D : GEnds) (ys : List V) (f : Flow) (s : Shared) : Prop :=
  match f with
  | .next => ∃ σ H, GJ X S cs ys σ H s₀ s ∧ D.nx ys σ H
  | .brk => ∃ σ H, GJ X S cs ys σ H s₀ s ∧ D.bk ys σ H
  | .cont => ∃ σ H, GJ X S cs ys σ H s₀ s ∧ D.ct ys σ H
  | .ret u => ∃ v σ H, GJ X S cs ys σ H s₀ s ∧ RelV v u ∧ D.rt ys v H
structure GCZ (X : Cx) (S : Addr) (cs : List Addr) (A : Around) (c : Code) (fs : List Frame) (gd : Bool → Bool) : Prop where
  far : Far X S cs
  over : A.over c fs = X.A
  split : splitAtGen fs = none
  guard : fs.any Frame.guarded = false
  gd : gd false = false
def GKZ (X : Cx) (S : Addr) (cs : List Addr) (m : Nat) (Q : QZ) (A : Around) (R : GenEnd) (c : Code) (fs : List Frame) (K : Flow → Sem PySem.Fin) (D : GEnds) : Prop :=
  ∀ (n : Nat) (ys : List V) (s₀ s : Shared) (f : Flow), n + ys.length = m → 0 < n → GSPZ X S cs s₀ D ys f s → Seg (model X.prog X.w) A R (GYZ X S cs m Q) n s₀ c (K f) fs s
/-- one that raises nothing -/
structure GSZ (X : Cx) (m : Nat) (Q : QZ) (st : Stmt) (t : TGn) : Prop where
  run : ∀ (A : Around) (S : Addr) (cs : List Addr) (R : GenEnd) (n : Nat) (ys : List V) (s₀ : Shared) (c : Code) (fs : List Frame) (K : Flow → Sem PySem.Fin) (J : Value → Sem PySem.Fin) (gd : Bool → Bool) (lv : List Value → List Value) (s : Shared) (σ : L2.St) (H : Hp) (D : GEnds),
    GCZ X S cs A c fs gd → n + ys.length = m → 0 < n → GKZ X S cs m Q A R c fs K D → GJ X S cs ys σ H s₀ s → t D ys σ H →
    Seg (model X.prog X.w) A R (GYZ X S cs m Q) n s₀ c ((exec st X.env).wrap K J gd lv) fs s
structure GSsZ (X : Cx) (m : Nat) (Q : QZ) (st : List Stmt) (t : TGn) : Prop where
  run : ∀ (A : Around) (S : Addr) (cs : List Addr) (R : GenEnd) (n : Nat) (ys : List V) (s₀ : Shared) (c : Code) (fs : List Frame) (K : Flow → Sem PySem.Fin) (J : Value → Sem PySem.Fin) (gd : Bool → Bool) (lv : List Value → List Value) (s : Shared) (σ : L2.St) (H : Hp) (D : GEnds),
    GCZ X S cs A c fs gd → n + ys.length = m → 0 < n → GKZ X S cs m Q A R c fs K D → GJ X S cs ys σ H s₀ s → t D ys σ H →
    Seg (model X.prog X.w) A R (GYZ X S cs m Q) n s₀ c ((execs st X.env).wrap K J gd lv) fs s

section
variable {X : Cx} {m : Nat} {Q : QZ} {st : Stmt} {rest : List Stmt}
theorem sp_gspz {S : Addr} {cs : List Addr} {acc : Array Value} {c : Nat} {s₀ s : Shared} {D : GEnds} {ys : List V} {f : Flow} (r : Vals ys acc.toList) (e0 : s₀.heap.get? S = some (lstObj acc c)) (rc : ∀ b ∈ cs, Rec s₀.heap b)
    (h : SP X ((S, lstObj acc c) :: pinsAt cs s₀.heap) (D.at ys) f s) : GSPZ X S cs s₀ D ys f s := by
  cases f with
  | next => obtain ⟨σ, H, I, q⟩ := h; exact ⟨σ, H, ⟨acc, c, r, e0, rc, I⟩, q⟩
  | brk => obtain ⟨σ, H, I, q⟩ := h; exact ⟨σ, H, ⟨acc, c, r, e0, rc, I⟩, q⟩
  | cont => obtain ⟨σ, H, I, q⟩ := h; exact ⟨σ, H, ⟨acc, c, r, e0, rc, I⟩, q⟩
  | ret u => obtain ⟨v, σ, H, I, r1, q⟩ := h; exact ⟨v, σ, H, ⟨acc, c, r, e0, rc, I⟩, r1, q⟩
theorem gz_ps {t : TS} (h : PS X.nox st t) : GSZ X m Q st (tPlain t) := by
  refine ⟨fun A S cs R n ys s₀ c fs K J gd lv s σ H D g hn h0 k hI ht => ?_⟩
  obtain ⟨acc, cc, r, e0, rc, I⟩ := hI
  refine seg_wrap ?_
  rw [g.over]
  have I' : Inv X.nox ((S, lstObj acc cc) :: pinsAt cs s₀.heap) σ H s := I.wish _
  exact wpAny_mono (h.run _ s σ H (D.at ys) I' ht) (fun f s' hs => k n ys s₀ s' f hn h0 (sp_gspz r e0 rc (SP.unwish hs))) fun x s' hx => hx.elim
theorem gzs_pss {t : TS} (h : PSs X.nox rest t) : GSsZ X m Q rest (tPlain t) := by
  refine ⟨fun A S cs R n ys s₀ c fs K J gd lv s σ H D g hn h0 k hI ht => ?_⟩
  obtain ⟨acc, cc, r, e0, rc, I⟩ := hI
  refine seg_wrap ?_
  rw [g.over]
  have I' : Inv X.nox ((S, lstObj acc cc) :: pinsAt cs s₀.heap) σ H s := I.wish _
  exact wpAny_mono (h.run _ s σ H (D.at ys) I' ht) (fun f s' hs => k n ys s₀ s' f hn h0 (sp_gspz r e0 rc (SP.unwish hs))) fun x s' hx => hx.elim
theorem gzs_nil : GSsZ X m Q [] tG0 := by
  refine ⟨fun A S cs R n ys s₀ c fs K J gd lv s σ H D g hn h0 k hI ht => ?_⟩
  exact seg_execs_nil (k n ys s₀ s .next hn h0 ⟨σ, H, hI, ht⟩)
theorem gzs_cons {t u : TGn} (a : GSZ X m Q st t) (b : GSsZ X m Q rest u) : GSsZ X m Q (st :: rest) (tGThen t u) := by
  refine ⟨fun A S cs R n ys s₀ c fs K J gd lv s σ H D g hn h0 k hI ht => ?_⟩
  refine seg_execs_cons (a.run A S cs R n ys s₀ c fs _ J gd lv s σ H { D with nx := fun ys' σ' H' => u D ys' σ' H' } g hn h0 (fun n' ys' s1 s' f hn' h1 hs => ?_) hI ht)
  cases f with
  | next =>
    obtain ⟨σ', H', I', q⟩ := hs
    exact b.run A S cs R n' ys' s1 c fs K J gd lv s' σ' H' D g hn' h1 k I' q
  | brk => exact k n' ys' s1 s' .brk hn' h1 hs
  | cont => exact k n' ys' s1 s' .cont hn' h1 hs
  | ret u => exact k n' ys' s1 s' (.ret u) hn' h1 hs
/-- yield: the m-th is the last that is asked for -/
def tGYieldZ (m : Nat) (Q : QZ) (te : TE) : TGn := fun D ys σ H => te σ H fun x H1 => if ys.length + 1 = m then Q (ys ++ [x]) H1 else D.nx (ys ++ [x]) σ H1
theorem gz_yield {e : Expr} {yp pos : Pos} {te : TE} (he : PE X.nox e te) (hco : X.env.scope.isCoroutine = false := by rfl) (hi : interactive X.env = false := by rfl) : GSZ X m Q (.Expr (.Yield (some e) yp) pos) (tGYieldZ m Q te) := by
  refine ⟨fun A S cs R n ys s₀ c fs K J gd lv s σ H D g hn h0 k hI ht => ?_⟩
  obtain ⟨n, rfl⟩ : ∃ j, n = j + 1 := ⟨n - 1, by omega⟩
  obtain ⟨acc, cc, r, e0, rc, I⟩ := hI
  refine seg_Expr_Yield g.split g.gd g.guard ?_ hco hi
  rw [g.over]
  have I' : Inv X.nox ((S, lstObj acc cc) :: pinsAt cs s₀.heap) σ H s := I.wish _
  refine wpAny_mono (he.run _ s σ H _ I' ht) (fun v s' hv => ?_) fun x s' hx => hx.elim
  obtain ⟨x, H1, I1, rv, q⟩ := hv
  have G1 : GJ X S cs ys σ H1 s₀ s' := ⟨acc, cc, r, e0, rc, I1.unwish⟩
  intro kap hk
  refine ⟨ys, x, σ, H1, hn, rv, G1, fun hz => ?_, fun hp s'' z => hk .none s'' ?_⟩
  · rw [if_pos (by omega)] at q
    exact q
  · rw [if_neg (by omega)] at q
    refine k n (ys ++ [x]) s'' s'' .next ?_ hp ⟨σ, H1, G1.woken g.far rv z, q⟩
    rw [List.length_append, List.length_singleton]; omega
/-- while: each turn hands something out -/
def tGWhileZ (c : TT) (tb : TGn) : TGn := fun D ys σ H => ∃ W : List V → L2.St → Hp → Prop, W ys σ H ∧ ∀ ys σ H, W ys σ H →
  c σ H fun b H1 => if b = true then tb { D with nx := fun ys' σ' H' => ys.length < ys'.length ∧ W ys' σ' H', ct := fun ys' σ' H' => ys.length < ys'.length ∧ W ys' σ' H', bk := D.nx } ys σ H1 else D.nx ys σ H1
theorem gz_loop {S : Addr} {cs : List Addr} {A : Around} {c c' : Code} {fs : List Frame} {gd : Bool → Bool} {k : Result → Sem PySem.Fin} {l kp : List Value} {p : Pos} (g : GCZ X S cs A c fs gd) (hw : c'.weight = 0) (hu : c'.cUnits = 0) :
    GCZ X S cs A c' (.ret k none (gd false) l c p kp :: fs) id := by
  refine ⟨g.far, (over_loop hw hu).trans g.over, ?_, ?_, rfl⟩
  · show (splitAtGen fs).map _ = none
    rw [g.split, Option.map_none]
  · show (gd false || fs.any Frame.guarded) = false
    rw [g.gd, g.guard, Bool.or_false]
theorem gz_while {test : Expr} {body : List Stmt} {pos : Pos} {tc : TT} {tb : TGn} (hc : PT X.nox test tc) (hb : GSsZ X m Q body tb) : GSZ X m Q (.While test body [] pos) (tGWhileZ tc tb) := by
  refine ⟨fun A S cs R n ys s₀ c fs K J gd lv s σ H D g hn h0 k hI ht => ?_⟩
  obtain ⟨W, w0, turn⟩ := ht
  refine seg_While fun p => ?_
  have gl := fun (kk : Result → Sem PySem.Fin) => gz_loop (k := kk) (c' := .whileLoop test body [] X.env) (l := lv []) (kp := []) (p := p) g rfl rfl
  have loop : ∀ (n : Nat) (ys : List V) (s₀ s : Shared) (σ : L2.St) (H : Hp), n + ys.length = m → 0 < n → W ys σ H → GJ X S cs ys σ H s₀ s →
      Seg (model X.prog X.w) A R (GYZ X S cs m Q) n s₀ (.whileLoop test body [] X.env) ((model X.prog X.w).den (.whileLoop test body [] X.env))
        (.ret (fun r => ((match r with | .ok f => (.pure f : Sem Flow) | .error e => .raise e).onRaise (cameBack X.env)).wrap K J gd lv) none (gd false) (lv []) c p [] :: fs) s := by
    intro n
    induction n using Nat.strongRecOn with
    | ind n ih =>
      intro ys s₀ s σ H hn h0 w hI
      refine seg_whileLoop ?_
      rw [(gl _).over]
      obtain ⟨acc, cc, r, e0, rc, I⟩ := hI
      have I' : Inv X.nox ((S, lstObj acc cc) :: pinsAt cs s₀.heap) σ H s := I.wish _
      refine wpAny_mono (hc.run _ s σ H _ I' (turn ys σ H w)) (fun b s' hb' => ?_) fun x s' hx => hx.elim
      obtain ⟨H2, I2, q2⟩ := hb'
      have G2 : GJ X S cs ys σ H2 s₀ s' := ⟨acc, cc, r, e0, rc, I2.unwish⟩
      cases b with
      | true =>
        rw [if_pos rfl] at q2 ⊢
        refine hb.run A S cs R n ys s₀ _ _ _ _ id id s' σ H2 { D with nx := fun ys' σ' H' => ys.length < ys'.length ∧ W ys' σ' H', ct := fun ys' σ' H' => ys.length < ys'.length ∧ W ys' σ' H', bk := D.nx } (gl _) hn h0 (fun n' ys' s1 s3 f hn' h1 hs => ?_) G2 q2
        cases f with
        | next =>
          obtain ⟨σ3, H3, I3, l3, w3⟩ := hs
          exact seg_again rfl (ih n' (by omega) ys' s1 s3 σ3 H3 hn' h1 w3 I3)
        | cont =>
          obtain ⟨σ3, H3, I3, l3, w3⟩ := hs
          exact seg_again rfl (ih n' (by omega) ys' s1 s3 σ3 H3 hn' h1 w3 I3)
        | brk => exact seg_leaf (.ok .next) (k n' ys' s1 s3 .next hn' h1 hs)
        | ret v => exact seg_leaf (.ok (.ret v)) (k n' ys' s1 s3 (.ret v) hn' h1 hs)
      | false =>
        rw [if_neg Bool.false_ne_true] at q2 ⊢
        exact seg_execs_nil (seg_leaf (.ok .next) (k n ys s₀ s' .next hn h0 ⟨σ, H2, G2, q2⟩))
  exact loop n ys s₀ s σ H hn h0 w0 hI
end
end EW
end

section
set_option maxHeartbeats 1000000
/-! EwGen2: a generator def's promise by its body, where the generator need not end. -/
namespace EW
open PySem PySem.Spec PyProof.Rows GenW L2

/-- what a wake leaves, seen from the caller: s the state at the def's call, s₀ at the wake -/
structure Ran (P : Program) (w : World) (outer : List Env) (H : Hp) (s : Shared) (S : Addr) (cs : List Addr) (s₀ s1 : Shared) (H' : Hp) : Prop where
  os : s1.os = s.os
  bare : AllBare s1.gens
  un : Un (frs outer) [] H H' s.heap s1.heap
  hok : HOk P w H' s1.heap
  cell : ∀ b ∈ S :: cs, s1.heap.get? b = s₀.heap.get? b ∧ H' b = none
def REndZ (P : Program) (w : World) (outer : List Env) (H : Hp) (s : Shared) (S : Addr) (cs : List Addr) (Q : QZ) : GenEnd := fun n s₀ r s1 =>
  (r = .ok (.ret .none) ∨ r = .ok .next) ∧ ∃ H' ys acc c, Ran P w outer H s S cs s₀ s1 H' ∧ s₀.heap.get? S = some (lstObj acc c) ∧ Vals ys acc.toList ∧ Q ys H'
def YItemZ (P : Program) (w : World) (outer : List Env) (H : Hp) (s : Shared) (S : Addr) (cs : List Addr) (a : Addr) (g m : Nat) (Q : QZ) : Protocol := fun n s₀ v s1 kap =>
  s1.heap.NoLimit ∧ s1.heap.IsGen a g ∧ (∃ H' ys x acc c, Ran P w outer H s S cs s₀ s1 H' ∧ s₀.heap.get? S = some (lstObj acc c) ∧ Vals ys acc.toList ∧ n + 1 + ys.length = m ∧ RelV x v ∧ (n = 0 → Q (ys ++ [x]) H')) ∧
    (0 < n → ∀ s', SleptZ S cs v s1 s' → kap (.send .none) s')
/-- a generator that has not begun; it will be woken at most m times -/
def GMadeZ (P : Program) (w : World) (k : Nat) (outer : List Env) (H : Hp) (s : Shared) (m : Nat) (Q : QZ) (u : Value) (s' : Shared) : Prop :=
  ∃ (a : Addr) (g : Nat) (c : Code), u = .ref a ∧ s.heap.objs.size ≤ a ∧ a < s'.heap.objs.size ∧ s'.heap.IsGen a g ∧ s'.gens[g]? = some (.fresh c) ∧ s'.os = s.os ∧ AllBare s'.gens ∧ s'.heap.NoLimit ∧ (∀ b o, s.heap.get? b = some o → s'.heap.get? b = some o) ∧
    ∀ (A : Around) (S : Addr) (cs : List Addr) (s2 : Shared), Room k A → A.frames = some outer → (∀ b ∈ S :: cs, s'.heap.objs.size ≤ b) → S ∉ cs → (∀ b o, s'.heap.get? b = some o → s2.heap.get? b = some o) → (∃ c, s2.heap.get? S = some (lstObj #[] c)) → (∀ b ∈ cs, Rec s2.heap b) → s2.os = s.os → AllBare s2.gens →
      Seg (model P w) A (REndZ P w outer H s S cs Q) (YItemZ P w outer H s S cs a g m Q) m s2 c ((model P w).den c) [] s2
abbrev SpZ := List V → Hp → Nat → QZ → Prop
structure GFnZ (P : Program) (w : World) (K : PySem.W.Frag) (mg : Str → Option Value) (base : Heap) (k : Nat) (f : Addr) (fd : FuncData) (ps : List Str) (sp : SpZ) : Prop where
  len : ∀ vs H m Q, sp vs H m Q → vs.length = ps.length
  run : ∀ (A : Around) (outer : List Env) (s : Shared) (H : Hp) (args : Args) (us : List Value) (vs : List V) (m : Nat) (Q : QZ), Room k A → Env0 P w K mg base A outer s H → BindsTo s fd args (ps.zip us) → Vals vs us → 0 < m → sp vs H m Q →
    codeAny (model P w) A (.call (.ref f) args) (fun r s' => match r with | .ok (.ret u) => GMadeZ P w k outer H s m Q u s' | _ => False) s

theorem gfnZ_of {P : Program} {w : World} {K : PySem.W.Frag} {mg : Str → Option Value} {base : Heap} {k : Nat} {f : Addr} {name qual : Str} {params : Arguments} {body : List Stmt} {scope : Scope} {dV kV doc pm cdv ct oc : Value} {an od : Option Addr}
    {osl : Array (Option Value)} {N ps : List Str} {sp : SpZ} (lk : K.lookup f = some ⟨oc, od, .func (PySem.W.fnOf name qual params body scope dV kV doc pm an cdv ct), osl⟩) (hcd : PySem.W.codeIn K cdv qual = true) (Sc : GScope N ps scope)
    (len : ∀ vs H m Q, sp vs H m Q → vs.length = ps.length)
    (hbody : ∀ (A : Around) (outer : List Env) (s : Shared) (H : Hp) (vs : List V) (m : Nat) (Q : QZ) (pn : List (Addr × Obj)), Room k (A.deeper (envOfC qual scope s.heap.objs.size f cdv)) → 0 < m → sp vs H m Q →
      ∃ t, GSsZ (gcxOf P w K mg base N qual scope f cdv A outer s H (fun _ _ _ => False) pn) m Q body t ∧ t { nx := fun ys _ H' => Q ys H', rt := fun ys v H' => v = .non ∧ Q ys H' } [] (start N vs) H) :
    GFnZ P w K mg base (k + 1) f (PySem.W.fnOf name qual params body scope dV kV doc pm an cdv ct) ps sp := by
  refine ⟨len, fun A outer s H args us vs m Q hr e0 hb r hm hsp => ?_⟩
  have hl := len _ _ _ _ hsp
  have KX : K.In s.heap := e0.mod.kin.keeps fun b o e => (e0.bs b o e).1
  have lim : s.heap.NoLimit := e0.mod.nolimit.keeps fun b o e => (e0.bs b o e).1
  have hkind : ∀ y ∈ ps.zip us, scope.names.lookup y.1 = some .local ∨ (scope.names.lookup y.1 = some .cell ∧ ((cellsFrom (s.heap.objs.size + 1) scope.names []).lookup y.1).isSome = true) := by
    rintro ⟨n, v⟩ hy
    rcases Sc.par n (List.of_mem_zip hy).1 with q | q
    · exact .inl q
    · exact .inr ⟨q, PySem.W.cellsFrom_some _ _ _ (.inl q)⟩
  refine codeAny_call_generator hr.depth (KX _ _ lk) rfl Sc.co Sc.gen rfl (PySem.W.codeRec_of KX hcd) (hb _ _ _ _ ?_)
  refine wpAny_newFunctionEnv_cells Sc.kind hkind fun env he s1 x => ?_
  subst he
  have lim1 : s1.heap.NoLimit := lim.keeps x.toInCall.keep
  refine ⟨lim1, ?_⟩
  obtain ⟨h1, tk, es1, hk1⟩ := x.done
  have os1 : s1.os = s.os := by rw [es1]
  have gen1 : s1.gens = s.gens := by rw [es1]
  have lt1 : s.heap.objs.size < s1.heap.objs.size := x.toInCall.ns.lt
  have sz1 : s.heap.objs.size ≤ s1.heap.objs.size := Nat.le_of_lt lt1
  have kp1 : ∀ b o, s.heap.get? b = some o → s1.heap.get? b = some o := x.toInCall.keep
  have main : ∀ (go : Obj) (nm qn : Value) (tk2 : Nat), go.cls = .type "generator" → go.data = .fields #[.int s1.gens.size 0, nm, qn] → go.slots = #[] → (∀ h : Heap, (h.push go).get? h.objs.size = some go) →
      GMadeZ P w (k + 1) outer H s m Q (.ref s1.heap.objs.size) { s1 with gens := s1.gens.push (.fresh (.func body (envOfC qual scope s.heap.objs.size f cdv))), toks := tk2, heap := s1.heap.push go } := by
    intro go nm qn tk2 hgc hgd0 hgs hgp
    have hgen : ∀ h : Heap, h.get? s1.heap.objs.size = some go → h.IsGen s1.heap.objs.size s1.gens.size := fun h e => ⟨go, nm, qn, e, hgc, hgd0, hgs⟩
    have hpushed : (s1.heap.push go).get? s1.heap.objs.size = some go := hgp _
    refine ⟨s1.heap.objs.size, s1.gens.size, _, rfl, sz1, ?_, hgen _ hpushed, Array.getElem?_push_size .., os1, ?_, lim1.keeps fun b o e => Heap.get?_push_of_some _ e, fun b o e => Heap.get?_push_of_some _ (kp1 b o e), ?_⟩
    · show _ < (s1.heap.push _).objs.size
      rw [Heap.size_push]; exact Nat.lt_succ_self _
    · exact AllBare.push (by rw [gen1]; exact e0.bare) rfl
    intro Aw Sx cs s2 hrw hfr hSx hns hk2 hSo hco hos hba
    have e0w : Env0 P w K mg base Aw outer s H := ⟨hfr, e0.mod, e0.bs, e0.bsz, e0.funs, e0.frf, e0.hok, e0.bare⟩
    obtain ⟨t, ht, hq⟩ := hbody Aw outer s H vs m Q [(s1.heap.objs.size, go)] (hrw.deeper _) hm hsp
    have I1 : Inv (gcxOf P w K mg base N qual scope f cdv Aw outer s H (fun _ _ _ => False) []) [] (start N vs) H s1 := inv_startG Sc hrw.hd e0w hl r x
    have kp2 : ∀ b o, s1.heap.get? b = some o → s2.heap.get? b = some o := fun b o e => hk2 b o (Heap.get?_push_of_some _ e)
    have I2 : Inv (gcxOf P w K mg base N qual scope f cdv Aw outer s H (fun _ _ _ => False) []) [] (start N vs) H s2 :=
      I1.call' (ch := []) (hos.trans os1.symm) (Un.kept kp2) (I1.hok.kept kp2) hba fun b z => by simp at z
    have hSz : ∀ b ∈ Sx :: cs, s1.heap.objs.size < b := fun b hb => by
      have q : (s1.heap.push go).objs.size ≤ b := hSx b hb
      rw [Heap.size_push] at q
      exact q
    obtain ⟨cS, heS⟩ := hSo
    have hea : s2.heap.get? s1.heap.objs.size = some go := hk2 s1.heap.objs.size go hpushed
    have hgd : ∀ v, go.data ≠ .cell v := fun v q => by rw [hgd0] at q; cases q
    have young : ∀ b, s1.heap.objs.size ≤ b → H b = none ∧ b ≠ s.heap.objs.size ∧ b ∉ frs outer ∧ s.heap.objs.size ≤ b ∧ ∀ y c, (cellsFrom (s.heap.objs.size + 1) scope.names []).lookup y = some c → c ≠ b := fun b hb => by
      refine ⟨I1.hok.fresh hb, Nat.ne_of_gt (Nat.lt_of_lt_of_le lt1 hb), I1.nofs hb, Nat.le_trans sz1 hb, fun y c e z => ?_⟩
      obtain ⟨v, ob, ho, _⟩ := I1.cell y c e
      have q := Heap.lt_size ho
      rw [z] at q
      exact absurd (Nat.lt_of_lt_of_le q hb) (Nat.lt_irrefl _)
    generalize hX : gcxOf P w K mg base N qual scope f cdv Aw outer s H (fun _ _ _ => False) [(s1.heap.objs.size, go)] = X at ht
    have hG : GJ X Sx cs [] (start N vs) H s2 s2 := by
      refine ⟨#[], cS, .nil, heS, hco, ?_⟩
      rw [← hX]
      refine Inv.pinnedG I2 fun p hp => ?_
      rcases List.mem_append.mp hp with z | z
      · obtain rfl := List.mem_singleton.mp z
        obtain ⟨y1, y2, y3, _, _⟩ := young s1.heap.objs.size (Nat.le_refl _)
        exact ⟨hea, y1, y2, y3, hgd⟩
      · rcases List.mem_cons.mp z with rfl | z
        · obtain ⟨y1, y2, y3, _, _⟩ := young Sx (Nat.le_of_lt (hSz _ List.mem_cons_self))
          exact ⟨heS, y1, y2, y3, fun v q => by cases q⟩
        · obtain ⟨hb, e⟩ := of_pinsAt z
          obtain ⟨y1, y2, y3, _, _⟩ := young p.1 (Nat.le_of_lt (hSz _ (List.mem_cons_of_mem _ hb)))
          obtain ⟨o, eo, hd⟩ := hco p.1 hb
          rw [e] at eo; cases eo
          exact ⟨e, y1, y2, y3, hd⟩
    have far : Far X Sx cs := by
      rw [← hX]
      refine ⟨fun b hb => ?_, fun p hp hb => ?_, hns⟩
      · obtain ⟨_, y2, _, y4, y5⟩ := young b (Nat.le_of_lt (hSz b hb))
        exact ⟨y4, y2, y5⟩
      · obtain rfl := List.mem_singleton.mp hp
        exact Nat.lt_irrefl _ (hSz _ hb)
    have ran : ∀ {ys : List V} {s0 s' : Shared} {σ' : L2.St} {H' : Hp}, GJ X Sx cs ys σ' H' s0 s' → s'.heap.NoLimit ∧ s'.heap.IsGen s1.heap.objs.size s1.gens.size ∧ Ran P w outer H s Sx cs s0 s' H' ∧ ∃ acc c, s0.heap.get? Sx = some (lstObj acc c) ∧ Vals ys acc.toList := by
      intro ys s0 s' σ' H' hJ
      have hat := hJ.at
      obtain ⟨acc, c, rv, e0', _, J⟩ := hJ
      rw [← hX] at J
      exact ⟨J.nolimit, hgen _ (J.pin (s1.heap.objs.size, go) (List.mem_append_left _ (List.mem_singleton.mpr rfl))).1, ⟨J.os, J.bare, J.base, J.hok, fun b hb => ⟨(hat b hb).1, (hat b hb).2.1⟩⟩, acc, c, e0', rv⟩
    refine seg_func ?_
    have hP : P = X.prog := by rw [← hX]; rfl
    have hw : w = X.w := by rw [← hX]; rfl
    refine seg_imp (R := fun n s₀ r s' => match r with | .ok (.ret u) => ∃ ys v σ' H', GJ X Sx cs ys σ' H' s₀ s' ∧ RelV v u ∧ v = .non ∧ Q ys H' | _ => False) (Y := GYZ X Sx cs m Q) (fun n s₀ r s' hR => ?_) (fun n s₀ v s' kap kap' hkk hY => ?_) m ?_
    · cases r with
      | error e => exact hR.elim
      | ok fl =>
        cases fl with
        | next => exact hR.elim
        | brk => exact hR.elim
        | cont => exact hR.elim
        | ret u =>
          obtain ⟨ys, v, σ', H', hI, rv, ev, hQ⟩ := hR
          subst ev
          obtain rfl : u = Value.none := rv
          obtain ⟨_, _, R1, acc, c, q1, q2⟩ := ran hI
          exact ⟨.inl rfl, H', ys, acc, c, R1, q1, q2, hQ⟩
    · obtain ⟨ys, xx, σ', H', hn, rx, hI, hz, hg⟩ := hY
      obtain ⟨n1, n2, R1, acc, c, q1, q2⟩ := ran hI
      exact ⟨n1, n2, ⟨H', ys, xx, acc, c, R1, q1, q2, hn, rx, hz⟩, fun hp s'' z => hkk _ _ (hg hp s'' z)⟩
    · subst hX
      refine ht.run Aw Sx cs _ m [] s2 _ [] _ _ id id s2 (start N vs) H _ ⟨far, over_func, rfl, rfl, rfl⟩ (Nat.add_zero _) hm (fun n ys s₀ s' fl hn hp hs => ?_) hG hq
      cases fl with
      | next =>
        obtain ⟨σ', H', hI, hQ⟩ := hs
        exact seg_end (.ok (.ret .none)) ⟨ys, .non, σ', H', hI, rfl, rfl, hQ⟩
      | brk => obtain ⟨_, _, _, q⟩ := hs; exact q.elim
      | cont => obtain ⟨_, _, _, q⟩ := hs; exact q.elim
      | ret u =>
        obtain ⟨v, σ', H', hI, rv, ev, hQ⟩ := hs
        exact seg_end (.ok (.ret u)) ⟨ys, v, σ', H', hI, rv, ev, hQ⟩
  exact main _ _ _ _ rfl rfl rfl fun h => Heap.get?_push_size _ rfl
end EW
end

section
set_option maxHeartbeats 1000000
/-! EwZipG: zip(range(n), g), g a generator: its call, its next. -/
namespace EW
open PySem PySem.Spec PyProof.Rows GenW L2
/-- an exception that ends a walk -/
def StopE (h : Heap) (e : Addr) : Prop := ∃ o, h.get? e = some o ∧ o.cls = .type "StopIteration"
section
variable {prog : Program} {w : World} {A : Around} {E : Value → Shared → Prop} {s : Shared}
theorem nextOf_range_item {it : Addr} {x left step : Int} {Q : Value → Shared → Prop} (hit : IsRangeIter s.heap it x left step) (hleft : 0 < left)
    (hQ : ∀ h', IsRangeIter h' it (x + step) (left - 1) step → Heap.SameBut it s.heap h' → Q (.int x s.toks) { s with heap := h', toks := s.toks + 1 }) :
    wpAny (model prog w) A (Builtin.SmallTypes.nextOf (.ref it)) Q E s := by
  have hT : s.TypeIs (.ref it) "range_iterator" := ⟨_, hit, rfl⟩
  unfold Builtin.SmallTypes.nextOf
  refine wpAny_bind (wpAny_callSpecial?_slot (name := Str.ofString "__next__") hT F.slot_range_iterator_next
    (call_meets F.slot_range_iterator_next hT F.entry_range_iterator_next (F.args_range_iterator_next_1 _) (AutoRange.range_iterator___next___range_iterator_1 it x left step (by omega)) ⟨hit, ?_⟩))
  exact wpAny_pure (hQ _ (Heap.get?_update_self _ (Heap.get?_update_self _ hit rfl) rfl) ((Heap.SameBut.update ..).trans (Heap.SameBut.update ..)))
theorem nextOf_range_end {it : Addr} {x left step : Int} {Q : Value → Shared → Prop} (hh : A.handled = none) (hit : IsRangeIter s.heap it x left step) (hleft : left ≤ 0)
    (hE : ∀ h' e, Heap.ExtBut it s.heap h' → StopE h' e → E (.ref e) { s with heap := h' }) : wpAny (model prog w) A (Builtin.SmallTypes.nextOf (.ref it)) Q E s := by
  have hT : s.TypeIs (.ref it) "range_iterator" := ⟨_, hit, rfl⟩
  unfold Builtin.SmallTypes.nextOf
  refine wpAny_bind (wpAny_callSpecial?_slot (name := Str.ofString "__next__") hT F.slot_range_iterator_next
    (wpAny_call_entry F.slot_range_iterator_next hT F.entry_range_iterator_next ?_ (F.args_range_iterator_next_1 _)))
  show wpAny _ _ (field (.ref it) 0 >>= _) _ _ s
  refine wpAny_bind (wpAny_field hit rfl (x := rawInt x) rfl ?_)
  show wpAny _ _ (field (.ref it) 1 >>= _) _ _ s
  refine wpAny_bind (wpAny_field hit rfl (x := rawInt left) rfl ?_)
  show wpAny _ _ (field (.ref it) 2 >>= _) _ _ s
  refine wpAny_bind (wpAny_field hit rfl (x := rawInt step) rfl ?_)
  show wpAny _ _ (if left ≤ 0 then _ else _) _ _ s
  rw [if_pos hleft]
  refine wpAny_bind (wpAny_rule (wpAny_bind ?_))
  show wpAny _ _ (newExc (.type "StopIteration") [] >>= _) _ _ _
  refine wpAny_bind ?_
  simp only [newExc, newTuple]
  refine wpAny_bind (wpAny_newObj_type ?_ (by size_fits))
  refine wpAny_bind (m := firstArgMember _ _) (wpAny_of_eq (a := Value.none) (by first | rfl | (simp only [firstArgMember]; rfl)) ?_)
  refine wpAny_newObj_type ?_ (by size_fits)
  simp only [raiseNew]
  refine wpAny_bind (wpAny_handled ?_)
  first | rw [show A.in1.handled = none from hh] | rw [hh]
  refine wpAny_bind (wpAny_pure (wpAny_throw ?_))
  exact hE _ _ (((Heap.ExtBut.refl it s.heap).push _).push _) ⟨_, Heap.get?_push_size _ rfl, rfl⟩
/-- a generator's turn, asked by a zip -/
theorem nextOf_gen {a : Addr} {g n : Nat} {gs : GenState} {F : Nat → Shared → Shared → Prop} {Y : Protocol} {Q : Value → Shared → Prop} (hh : A.handled = none)
    (hl : s.heap.NoLimit) (hroom : A.depth < recursionLimit) (hg : s.heap.IsGen a g) (hgs : s.gens[g]? = some gs)
    (hgo : gs.Goes (model prog w) A.in1 (fun n s₀ r s₁ => (r = .ok (.ret .none) ∨ r = .ok .next) ∧ F n s₀ s₁) Y n (.send .none) (s.setGen g .running))
    (hY : ∀ v s₁ gs', gs'.bare = true → Y (n - 1) (s.setGen g .running) v s₁ (fun r' s'' => match n with
        | 0 => False
        | m + 1 => gs'.Goes (model prog w) A.in1 (fun n s₀ r s₁ => (r = .ok (.ret .none) ∨ r = .ok .next) ∧ F n s₀ s₁) Y m r' s'') → Q v (s₁.setGen g gs'))
    (hP : ∀ s₁, F n (s.setGen g .running) s₁ → ∀ h' e, (∀ b o, s₁.heap.get? b = some o → h'.get? b = some o) → s₁.heap.objs.size ≤ e → StopE h' e → E (.ref e) { s₁.setGen g .finished with heap := h' }) :
    wpAny (model prog w) A (Builtin.SmallTypes.nextOf (.ref a)) Q E s := by
  unfold Builtin.SmallTypes.nextOf
  refine wpAny_bind (wpAny_callSpecial?_slot (name := Str.ofString "__next__") hg.typeIs slot_gen_next
    (wpAny_call_entry slot_gen_next hg.typeIs entry_gen_next ?_ (args_gen_next _)))
  show wpAny _ A.in1 (Builtin.Generator.genWake (.ref a) (.send .none)) _ _ s
  unfold Builtin.Generator.genWake
  refine wpAny_bind (wpAny_holding (wpAny_genNumber hg (wpAny_bind (wpAny_genState hgs ?_))))
  cases gs with
  | running => exact hgo.elim
  | finished => exact hgo.elim
  | _ =>
    refine wpAny_bind (wpAny_roomToWake hl hroom ?_)
    show wpAny _ A.in1 (.resume g (.send .none) [] _) _ _ s
    refine wpAny_resumeQ hgs hgo (fun x s₁ hx => ?_) (fun v s₁ gs' hb hv => ?_)
    · obtain ⟨hr, hp⟩ := hx
      have hres : End.result (.ret x) = .returned .none := by
        rcases hr with hr | hr <;> rw [hr] <;> rfl
      first | rw [hres] | simp only [hres]
      show wpAny _ A.in1 (newExc (.type "StopIteration") [] >>= _) _ _ _
      refine wpAny_bind ?_
      simp only [newExc, newTuple]
      refine wpAny_bind (wpAny_newObj_type ?_ (by size_fits))
      refine wpAny_bind (m := firstArgMember _ _) (wpAny_of_eq (a := Value.none) (by first | rfl | (simp only [firstArgMember]; rfl)) ?_)
      refine wpAny_newObj_type ?_ (by size_fits)
      simp only [raiseNew]
      refine wpAny_bind (wpAny_bind (wpAny_handled ?_))
      first | rw [show A.in1.handled = none from hh] | rw [hh]
      refine wpAny_throw ?_
      refine hP s₁ hp _ _ (fun b o hb => Heap.get?_push_of_some _ (Heap.get?_push_of_some _ hb)) ?_ ⟨_, Heap.get?_push_size _ rfl, rfl⟩
      rw [Heap.size_push]
      exact Nat.le_succ _
    · exact wpAny_pure ⟨v, rfl, wpAny_pure (hY v s₁ gs' hb hv)⟩
end
end EW
end

section
set_option maxHeartbeats 1000000
/-! EwZipH: next of zip(range(n), g). -/
namespace EW
open PySem PySem.Spec PyProof.Rows GenW L2
/-- the zip's own records lie apart -/
structure ZApart (z TI TO i1 : Addr) : Prop where
  TIz : TI ≠ z
  TOz : TO ≠ z
  i1z : i1 ≠ z
  TITO : TI ≠ TO
  TIi1 : TI ≠ i1
  TOi1 : TO ≠ i1
section
variable {prog : Program} {w : World} {A : Around} {E : Value → Shared → Prop} {s : Shared}
theorem zipG_item {z TI TO i1 a : Addr} {x left : Int} {x0 y0 : Value} {Q : Value → Shared → Prop} (D : ZApart z TI TO i1)
    (hz : IsZip s.heap z TI TO .none) (hTI : IsPair s.heap TI (.ref i1) (.ref a)) (hTO : IsPair s.heap TO x0 y0) (h1 : IsRangeIter s.heap i1 x left 1) (hl : 0 < left)
    (hn : ∀ h3, IsZip h3 z TI TO .ellipsis → IsPair h3 TO (.int x s.toks) y0 → IsRangeIter h3 i1 (x + 1) (left - 1) 1 → h3.objs.size = s.heap.objs.size → (∀ c o, c ≠ z → c ≠ TO → c ≠ i1 → s.heap.get? c = some o → h3.get? c = some o) →
      wpAny (model prog w) A (Builtin.SmallTypes.nextOf (.ref a)) (fun v s4 => IsZip s4.heap z TI TO .ellipsis ∧ IsPair s4.heap TO (.int x s.toks) y0 ∧
          ∀ h', IsZip h' z TI TO (rawInt s4.heap.objs.size) → IsPair h' TO (.int x s.toks) v → IsPair h' s4.heap.objs.size (.int x s.toks) v → (∀ c o, c ≠ z → c ≠ TO → s4.heap.get? c = some o → h'.get? c = some o) → Q (.ref s4.heap.objs.size) { s4 with heap := h' })
        (fun e s4 => ∃ ea, e = .ref ea ∧ IsZip s4.heap z TI TO .ellipsis ∧ ea ≠ z ∧ ∀ h', (∃ f0, IsZip h' z TI TO f0) → (∀ c o, c ≠ z → s4.heap.get? c = some o → h'.get? c = some o) → E e { s4 with heap := h' }) { s with heap := h3, toks := s.toks + 1 }) :
    wpAny (model prog w) A (Builtin.«zip.__next__» ⟨[.ref z], []⟩) (fun fin s' => ∃ v, fin = .done (.ret v) ∧ Q v s') E s := by
  show wpAny _ _ (field (.ref z) 2 >>= _) _ _ _
  refine wpAny_bind (wpAny_field hz rfl (x := .bool false) rfl ?_)
  show wpAny _ _ (field (.ref z) 3 >>= _) _ _ _
  refine wpAny_bind (wpAny_field hz rfl (x := .ref TI) rfl ?_)
  refine wpAny_bind (wpAny_seqItems hTI rfl ?_)
  show wpAny _ _ (Builtin.SmallTypes.ownedTupleIsFree (.ref z) >>= _) _ _ _
  refine wpAny_bind ?_
  unfold Builtin.SmallTypes.ownedTupleIsFree
  refine wpAny_bind (wpAny_field hz rfl (x := .none) rfl (wpAny_pure ?_))
  simp only [if_true]
  refine wpAny_bind (wpAny_rule (wpAny_bind (wpAny_field hz rfl (x := .ref TO) rfl ?_)))
  refine wpAny_bind (wpAny_setField_rec hz (by simp) fun k1 hz1 hs1 => ?_)
  replace hz1 : IsZip k1 z TI TO .ellipsis := hz1
  refine wpAny_bind ?_
  simp only [List.zipIdx_cons, List.zipIdx_nil, List.forIn_cons, List.forIn_nil]
  refine wpAny_bind (wpAny_bind (wpAny_onRaise ?_))
  show wpAny _ _ (Builtin.SmallTypes.nextOf (.ref i1) >>= _) _ _ _
  have h1' : IsRangeIter k1 i1 x left 1 := hs1.extBut _ _ D.i1z h1
  refine wpAny_bind (nextOf_range_item (s := { s with heap := k1 }) h1' hl fun k2 hr2 hs2 => wpAny_pure ?_)
  have hTO2 : IsPair k2 TO x0 y0 := hs2.extBut _ _ D.TOi1 (hs1.extBut _ _ D.TOz hTO)
  refine wpAny_bind (wpAny_seqItems hTO2 rfl ?_)
  refine wpAny_bind (wpAny_updateSeq_pair hTO2 fun k3 hTO3 hs3 => ?_)
  replace hTO3 : IsPair k3 TO (.int x s.toks) y0 := hTO3
  refine wpAny_bind (wpAny_letGo (wpAny_pure ?_))
  refine wpAny_bind (wpAny_bind (wpAny_onRaise ?_))
  show wpAny _ _ (Builtin.SmallTypes.nextOf (.ref a) >>= _) _ _ _
  have hz3 : IsZip k3 z TI TO .ellipsis := hs3.extBut _ _ D.TOz.symm (hs2.extBut _ _ D.i1z.symm hz1)
  have sz3 : k3.objs.size = s.heap.objs.size := by rw [hs3.1, hs2.1, hs1.1]
  refine wpAny_bind (wpAny_mono (hn k3 hz3 hTO3 (hs3.extBut _ _ D.TOi1.symm hr2) sz3 fun c o c1 c2 c3 e => hs3.extBut _ _ c2 (hs2.extBut _ _ c3 (hs1.extBut _ _ c1 e))) (fun v s4 q => wpAny_pure ?_) fun e s4 q => ?_)
  · obtain ⟨hz4, hTO4, q⟩ := q
    refine wpAny_bind (wpAny_seqItems hTO4 rfl ?_)
    refine wpAny_bind (wpAny_updateSeq_pair hTO4 fun k5 hTO5 hs5 => ?_)
    replace hTO5 : IsPair k5 TO (.int x s.toks) v := hTO5
    refine wpAny_bind (wpAny_letGo (wpAny_pure (wpAny_pure ?_)))
    refine wpAny_bind (wpAny_seqItems hTO5 rfl ?_)
    refine wpAny_bind (wpAny_newTuple ?_)
    have hz5 : IsZip k5 z TI TO .ellipsis := hs5.extBut _ _ D.TOz.symm hz4
    have sz5 : k5.objs.size = s4.heap.objs.size := hs5.1
    have zlt : z < k5.objs.size := Heap.lt_size hz5
    show wpAny _ _ (Builtin.SmallTypes.ownedTupleHandOut (.ref z) (.ref k5.objs.size) >>= _) _ _ _
    refine wpAny_bind ?_
    unfold Builtin.SmallTypes.ownedTupleHandOut
    have hz6 : IsZip (k5.push { cls := .type "tuple", data := .seq #[.int x s.toks, v] }) z TI TO .ellipsis := Heap.get?_push_of_some _ hz5
    refine wpAny_bind (wpAny_setField_rec hz6 (by simp) fun k7 hz7 hs7 => ?_)
    replace hz7 : IsZip k7 z TI TO (rawInt k5.objs.size) := hz7
    refine wpAny_setField_rec hz7 (by simp) fun k8 hz8 hs8 => ?_
    replace hz8 : IsZip k8 z TI TO (rawInt k5.objs.size) := hz8
    have up : ∀ c o, c ≠ z → k5.get? c = some o → k8.get? c = some o := fun c o c1 e => hs8.extBut _ _ c1 (hs7.extBut _ _ c1 (Heap.get?_push_of_some _ e))
    have hT8 : IsPair k8 k5.objs.size (.int x s.toks) v := hs8.extBut _ _ (Nat.ne_of_gt zlt) (hs7.extBut _ _ (Nat.ne_of_gt zlt) (Heap.get?_push_size _ rfl))
    rw [sz5] at hz8 hT8
    refine wpAny_pure ⟨_, rfl, ?_⟩
    show Q (.ref k5.objs.size) _
    rw [sz5]
    exact q k8 hz8 (up _ _ D.TOz hTO5) hT8 fun c o c1 c2 e => up c o c1 (hs5.extBut _ _ c2 e)
  · obtain ⟨ea, rfl, hz4, ne, q⟩ := q
    exact wpAny_setField_rec hz4 (by simp) fun k5 hz5 hs5 => q k5 ⟨_, hz5⟩ fun c o c1 e => hs5.extBut _ _ c1 e
theorem zipG_end {z TI TO i1 a : Addr} {x left : Int} {x0 y0 : Value} {Q : Fin → Shared → Prop} (hh : A.handled = none) (D : ZApart z TI TO i1)
    (hz : IsZip s.heap z TI TO .none) (hTI : IsPair s.heap TI (.ref i1) (.ref a)) (hTO : IsPair s.heap TO x0 y0) (h1 : IsRangeIter s.heap i1 x left 1) (hl : left ≤ 0)
    (hE : ∀ h' e, (∀ c o, c ≠ z → c ≠ i1 → s.heap.get? c = some o → h'.get? c = some o) → StopE h' e → E (.ref e) { s with heap := h' }) :
    wpAny (model prog w) A (Builtin.«zip.__next__» ⟨[.ref z], []⟩) Q E s := by
  show wpAny _ _ (field (.ref z) 2 >>= _) _ _ _
  refine wpAny_bind (wpAny_field hz rfl (x := .bool false) rfl ?_)
  show wpAny _ _ (field (.ref z) 3 >>= _) _ _ _
  refine wpAny_bind (wpAny_field hz rfl (x := .ref TI) rfl ?_)
  refine wpAny_bind (wpAny_seqItems hTI rfl ?_)
  show wpAny _ _ (Builtin.SmallTypes.ownedTupleIsFree (.ref z) >>= _) _ _ _
  refine wpAny_bind ?_
  unfold Builtin.SmallTypes.ownedTupleIsFree
  refine wpAny_bind (wpAny_field hz rfl (x := .none) rfl (wpAny_pure ?_))
  simp only [if_true]
  refine wpAny_bind (wpAny_rule (wpAny_bind (wpAny_field hz rfl (x := .ref TO) rfl ?_)))
  refine wpAny_bind (wpAny_setField_rec hz (by simp) fun k1 hz1 hs1 => ?_)
  replace hz1 : IsZip k1 z TI TO .ellipsis := hz1
  refine wpAny_bind ?_
  simp only [List.zipIdx_cons, List.zipIdx_nil, List.forIn_cons, List.forIn_nil]
  refine wpAny_bind (wpAny_bind (wpAny_onRaise ?_))
  show wpAny _ _ (Builtin.SmallTypes.nextOf (.ref i1) >>= _) _ _ _
  have h1' : IsRangeIter k1 i1 x left 1 := hs1.extBut _ _ D.i1z h1
  refine wpAny_bind (nextOf_range_end (s := { s with heap := k1 }) hh h1' hl fun k2 e hs2 he => ?_)
  obtain ⟨oe, hoe, hce⟩ := he
  have hz2 : IsZip k2 z TI TO .ellipsis := hs2 _ _ D.i1z.symm hz1
  have hez : e ≠ z := fun q => by subst q; rw [hz2] at hoe; cases hoe; simp at hce
  exact wpAny_setField_rec hz2 (by simp) fun k3 _ hs3 => hE k3 e (fun c o c1 c3 q => hs3.extBut _ _ c1 (hs2 _ _ c3 (hs1.extBut _ _ c1 q))) ⟨oe, hs3.extBut _ _ hez hoe, hce⟩
/-- the same by next -/
theorem pyNext_zipG {z TI TO : Addr} {f0 : Value} {Q : Option Value → Shared → Prop} (hz : IsZip s.heap z TI TO f0)
    (h : wpAny (model prog w) A.in1 (Builtin.«zip.__next__» ⟨[.ref z], []⟩) (fun fin s' => ∃ v, fin = .done (.ret v) ∧ Q (some v) s') (fun e s' => ∃ ea, e = .ref ea ∧ StopE s'.heap ea ∧ Q none s') s) :
    wpAny (model prog w) A (pyNext (.ref z)) Q E s := by
  have hT : s.TypeIs (.ref z) "zip" := ⟨_, hz, rfl⟩
  unfold pyNext
  refine wpAny_bind (wpAny_attempt (wpAny_callSpecial?_slot (name := Str.ofString "__next__") hT F.slot_zip_next
    (wpAny_call_entry F.slot_zip_next hT F.entry_zip_next (wpAny_mono h (fun fin s' q => ?_) fun e s' q => ?_) (F.args_zip_next_1 _))))
  · obtain ⟨v, rfl, q⟩ := q
    exact ⟨v, rfl, wpAny_pure q⟩
  · obtain ⟨ea, rfl, ⟨o, ho, hc⟩, q⟩ := q
    exact wpAny_bind (wpAny_isInstance (T := "StopIteration") (b := true) ⟨o, ho, hc⟩ isSubtype_stop (wpAny_pure q))
end
/-! ### the call -/
abbrev zG1 (h : Heap) (n : Int) : Heap := h.push { cls := .type "range_iterator", data := .fields #[rawInt 0, rawInt n, rawInt 1] }
abbrev zG2 (h : Heap) (n : Int) (a : Addr) : Heap := (zG1 h n).push { cls := .type "tuple", data := .seq #[.ref h.objs.size, .ref a] }
abbrev zG3 (h : Heap) (n : Int) (a : Addr) : Heap := (zG2 h n a).push { cls := .type "tuple", data := .seq #[.none, .none] }
abbrev zG4 (h : Heap) (n : Int) (a : Addr) : Heap := (zG3 h n a).push { cls := .type "zip", data := .fields #[.none, .bool false, .bool false, .ref (zG1 h n).objs.size, .ref (zG2 h n a).objs.size] }
theorem meets_zipG (r a : Addr) (g : Nat) (n : Int) (t u v : Tok) (hs : Builtin.Range.small 0 n 1 = true) (hn : Builtin.Range.rangeSize 0 n 1 = n) :
    Meets (Builtin.«zip.__new__» ⟨[.type "zip", .ref r, .ref a], []⟩) (fun _ R s => IsRange s.heap r 0 n 1 t u v ∧ s.heap.IsGen a g ∧
      R (.ok (.ret (.ref (zG3 s.heap n a).objs.size))) { s with heap := zG4 s.heap n a }) :=
  .of_wp fun prog w A R s h => by
    obtain ⟨hp, gg, d, tk, os⟩ := s; obtain ⟨hl1, hl2, h⟩ := h
    have hsub := sub_zip
    have hL1 : IsRange (Shared.heap ⟨hp, gg, d, tk, os⟩) r 0 n 1 t u v := hl1
    have hL2 : Heap.IsGen (Shared.heap ⟨hp.push { cls := .type "range_iterator", data := .fields #[rawInt 0, rawInt (Builtin.Range.rangeSize 0 n 1), rawInt 1] }, gg, d, tk, os⟩) a g := hl2.keeps fun b o e => Heap.get?_push_of_some _ e
    wp_walk using wpAny_pyIter_range hL1 hs, wpAny_pyIter_gen hL2
    rw [hn]
    exact ⟨_, rfl, h⟩
end EW
end

section
set_option maxHeartbeats 1000000
/-! EwZipI: [x for t, x in zip(range(n), g)], g a generator of the program. -/
namespace EW
open PySem PySem.Spec PyProof.Rows GenW L2
section
variable {prog : Program} {w : World} {A : Around} {E : Value → Shared → Prop} {s : Shared}
theorem call_zipG {r a : Addr} {g : Nat} {n : Int} {t u v : Tok} {Q : Value → Shared → Prop} (hs : Builtin.Range.small 0 n 1 = true) (hn : Builtin.Range.rangeSize 0 n 1 = n) (hr : IsRange s.heap r 0 n 1 t u v) (hg : s.heap.IsGen a g)
    (h : ∀ h', IsZip h' (s.heap.objs.size + 3) (s.heap.objs.size + 1) (s.heap.objs.size + 2) .none → IsPair h' (s.heap.objs.size + 1) (.ref s.heap.objs.size) (.ref a) → IsPair h' (s.heap.objs.size + 2) .none .none →
      IsRangeIter h' s.heap.objs.size 0 n 1 → h'.objs.size = s.heap.objs.size + 4 → (∀ c o, s.heap.get? c = some o → h'.get? c = some o) → Q (.ref (s.heap.objs.size + 3)) { s with heap := h' }) :
    wpAny (model prog w) A (call (.type "zip") [.ref r, .ref a]) Q E s := by
  refine callType_new F.called_zip (by decide) (F.typeCall_zip_2 _ _) (F.newCall_zip_2 _ _) (fun obj => F.args_object_init_3 obj _ _) F.entry_zip_new
    (meets_zipG r a g n t u v hs hn) ⟨hr, hg, ?_⟩
  have z1 : (zG1 s.heap n).objs.size = s.heap.objs.size + 1 := Heap.size_push ..
  have z2 : (zG2 s.heap n a).objs.size = s.heap.objs.size + 2 := by rw [Heap.size_push, z1]
  have z3 : (zG3 s.heap n a).objs.size = s.heap.objs.size + 3 := by rw [Heap.size_push, z2]
  have z4 : (zG4 s.heap n a).objs.size = s.heap.objs.size + 4 := by rw [Heap.size_push, z3]
  have g4 : (zG4 s.heap n a).get? (zG3 s.heap n a).objs.size = some _ := Heap.get?_push_size _ rfl
  have g3 : (zG4 s.heap n a).get? (zG2 s.heap n a).objs.size = some _ := Heap.get?_push_of_some _ (Heap.get?_push_size _ rfl)
  have g2 : (zG4 s.heap n a).get? (zG1 s.heap n).objs.size = some _ := Heap.get?_push_of_some _ (Heap.get?_push_of_some _ (Heap.get?_push_size _ rfl))
  have g1 : (zG4 s.heap n a).get? s.heap.objs.size = some _ := Heap.get?_push_of_some _ (Heap.get?_push_of_some _ (Heap.get?_push_of_some _ (Heap.get?_push_size _ rfl)))
  show _ ∧ _
  rw [z1, z2, z3] at g4
  rw [z2] at g3
  rw [z1] at g2
  rw [z3]
  exact ⟨⟨_, g4, rfl⟩, h _ g4 g2 g3 g1 z4 fun c o x => Heap.get?_push_of_some _ (Heap.get?_push_of_some _ (Heap.get?_push_of_some _ (Heap.get?_push_of_some _ x)))⟩
end
/-- records that are younger may turn behind a run -/
theorem Un.after {fs ex L : List Addr} {H H' : Hp} {h h1 h2 : Heap} (u : Un fs ex H H' h h1) (k : ∀ b o, b ∉ L → h1.get? b = some o → h2.get? b = some o) (hy : ∀ b ∈ L, h.objs.size ≤ b) : Un fs ex H H' h h2 := by
  have nl : ∀ b o, h.get? b = some o → b ∉ L := fun b o e hb => absurd (Nat.lt_of_lt_of_le (Heap.lt_size e) (hy b hb)) (Nat.lt_irrefl _)
  refine ⟨fun b o e n hb hx => k b o (nl b o e) (u.keep b o e n hb hx), fun b o e n hb hx => ?_, u.free, fun b o e hx => ?_, u.tups, u.frzs, u.tbls⟩
  · obtain ⟨sl, q⟩ := u.slot b o e n hb hx
    exact ⟨sl, k b _ (nl b o e) q⟩
  · obtain ⟨o', q⟩ := u.there b o e hx
    exact ⟨o', k b _ (nl b o e) q⟩
theorem HOk.after {P : Program} {w : World} {L : List Addr} {H : Hp} {h1 h2 : Heap} (ok : HOk P w H h1) (k : ∀ b o, b ∉ L → h1.get? b = some o → h2.get? b = some o) (hn : ∀ b ∈ L, H b = none) : HOk P w H h2 := fun b u q => by
  have nt : ∀ b u, H b = some u → b ∉ L := fun b u q hb => by rw [hn b hb] at q; cases q
  refine (ok b u q).stay (fun c v hc y => k c v ?_ y) (fun _ y => y) fun _ _ y => y
  rcases hc with y | y
  · rw [y]; exact nt b u q
  · exact nt c _ y
end EW
end

section
set_option maxHeartbeats 2000000
/-! EwZipJ: a turn of [x for t, x in zip(range(m), g)]. -/
namespace EW
open PySem PySem.Spec PyProof.Rows GenW L2
def Keeps (L : List Addr) (h h' : Heap) : Prop := ∀ b o, b ∉ L → h.get? b = some o → h'.get? b = some o
theorem Keeps.trans {L : List Addr} {h h1 h2 : Heap} (a : Keeps L h h1) (b : Keeps L h1 h2) : Keeps L h h2 := fun c o hc e => b c o hc (a c o hc e)
theorem Keeps.but {L : List Addr} {h h' : Heap} {x : Addr} (hx : x ∈ L) (s : Heap.SameBut x h h') : Keeps L h h' := fun b o hb e => (s.2 b fun q => hb (q ▸ hx)).trans e
theorem Keeps.lim {L : List Addr} {h h' : Heap} (k : Keeps L h h') (hs : cStatics ∉ L) (l : h.NoLimit) : h'.NoLimit := by
  obtain ⟨mc, hns, hnn⟩ := l
  exact ⟨mc, hns.at' fun o e => k _ o hs e, hnn⟩
theorem Keeps.gen {L : List Addr} {h h' : Heap} {a : Addr} {g : Nat} (k : Keeps L h h') (ha : a ∉ L) (l : h.IsGen a g) : h'.IsGen a g := by
  obtain ⟨o, nm, qn, ho, r⟩ := l
  exact ⟨o, nm, qn, k a o ha ho, r⟩
theorem rec_of {h : Heap} {b : Addr} {o : Obj} (e : h.get? b = some o) (hd : ∀ v, o.data ≠ .cell v) : Rec h b := ⟨o, e, hd⟩
theorem Rec.keeps {L : List Addr} {h h' : Heap} {b : Addr} (r : Rec h b) (k : Keeps L h h') (hb : b ∉ L) : Rec h' b := let ⟨o, e, d⟩ := r; ⟨o, k b o hb e, d⟩
theorem Rec.same {h h' : Heap} {b : Addr} (r : Rec h b) (e : h'.get? b = h.get? b) : Rec h' b := let ⟨o, q, d⟩ := r; ⟨o, e.trans q, d⟩
theorem ns_rec {h : Heap} {C : Addr} {m : Str → Option Value} (n : h.Ns C m) : Rec h C := by
  obtain ⟨o, es, ep, ho, hd, _⟩ := n
  exact ⟨o, ho, fun v q => by rw [hd] at q; cases q⟩
abbrev zc (z TI TO i1 C : Addr) : List Addr := [z, TI, TO, i1, C]
structure Lay (z TI TO i1 C D a : Addr) (sc : Shared) : Prop where
  ap : ZApart z TI TO i1
  Cz : C ≠ z
  CI : C ≠ TI
  CO : C ≠ TO
  C1 : C ≠ i1
  Dn : D ∉ zc z TI TO i1 C
  an : a ∉ D :: zc z TI TO i1 C
  yg : ∀ b ∈ D :: zc z TI TO i1 C, sc.heap.objs.size ≤ b
  st : cStatics ∉ D :: zc z TI TO i1 C
/-- the consumer's things at turn i -/
structure Top (z TI TO i1 C D a : Addr) (g m : Nat) (sc : Shared) (f0 : Value) (i : Nat) (s : Shared) (acc : Array Value) (cc : Nat) (gs : GenState) : Prop where
  zz : IsZip s.heap z TI TO f0
  ti : IsPair s.heap TI (.ref i1) (.ref a)
  to : ∃ x0 y0, IsPair s.heap TO x0 y0
  it : IsRangeIter s.heap i1 (i : Int) ((m : Int) - i) 1
  d : s.heap.get? D = some (lstObj acc cc)
  ns : ∃ mC, s.heap.Ns C mC
  os : s.os = sc.os
  bare : AllBare s.gens
  lim : s.heap.NoLimit
  gen : s.heap.IsGen a g
  at_ : s.gens[g]? = some gs
theorem Top.recs {z TI TO i1 C D a : Addr} {g m : Nat} {sc s : Shared} {f0 : Value} {i : Nat} {acc : Array Value} {cc : Nat} {gs : GenState} (T : Top z TI TO i1 C D a g m sc f0 i s acc cc gs) : ∀ b ∈ zc z TI TO i1 C, Rec s.heap b := by
  intro b hb
  simp only [List.mem_cons, List.not_mem_nil, or_false] at hb
  rcases hb with rfl | rfl | rfl | rfl | rfl
  · exact ⟨_, T.zz, fun v q => nomatch q⟩
  · exact ⟨_, T.ti, fun v q => nomatch q⟩
  · obtain ⟨x0, y0, q⟩ := T.to
    exact ⟨_, q, fun v q => nomatch q⟩
  · exact ⟨_, T.it, fun v q => nomatch q⟩
  · obtain ⟨mC, q⟩ := T.ns
    exact ns_rec q
/-- woken from the top of a turn -/
structure WakeOk (cs : List Addr) (s s' : Shared) : Prop where
  os : s'.os = s.os
  bare : AllBare s'.gens
  keep : Keeps cs s.heap s'.heap
  turn : ∀ b ∈ cs, Rec s'.heap b
/-- what the walk has come to -/
structure Fin1 (P : Program) (w : World) (outer : List Env) (H1 : Hp) (sc : Shared) (L : List Addr) (s : Shared) (H' : Hp) : Prop where
  un : Un (frs outer) [] H1 H' sc.heap s.heap
  hok : HOk P w H' s.heap
  nn : ∀ b ∈ L, H' b = none
theorem Fin1.after {P : Program} {w : World} {outer : List Env} {H1 H' : Hp} {sc s s' : Shared} {L : List Addr} (f : Fin1 P w outer H1 sc L s H') (hy : ∀ b ∈ L, sc.heap.objs.size ≤ b) (k : Keeps L s.heap s'.heap) : Fin1 P w outer H1 sc L s' H' :=
  ⟨Un.after f.un k hy, HOk.after f.hok k f.nn, f.nn⟩
section
variable {P : Program} {w : World} {A : Around} {E : Value → Shared → Prop} {outer : List Env} {H1 : Hp} {sc s : Shared} {z TI TO i1 C D a : Addr} {g m i : Nat} {Q : QZ} {acc : Array Value} {cc : Nat} {gs : GenState} {f0 : Value}
/-- an item has come: Tp the pair -/
def Came (P : Program) (w : World) (A : Around) (outer : List Env) (H1 : Hp) (sc : Shared) (z TI TO i1 C D a : Addr) (g m : Nat) (Q : QZ) (i : Nat) (acc : Array Value) (cc : Nat) (Tp : Addr) (s : Shared) : Prop :=
  ∃ (gs : GenState) (tk : Nat) (v : Value), Top z TI TO i1 C D a g m sc (rawInt Tp) (i + 1) s acc cc gs ∧ IsPair s.heap Tp (.int i tk) v ∧ Tp ∉ D :: zc z TI TO i1 C ∧
    (i + 1 < m → ∀ s', SleptZ D (zc z TI TO i1 C) v s s' → gs.Goes (model P w) A.in1.in1 (REndZ P w outer H1 sc D (zc z TI TO i1 C) Q) (YItemZ P w outer H1 sc D (zc z TI TO i1 C) a g m Q) (m - (i + 1)) (.send .none) s') ∧
    (i + 1 = m → ∃ H' ys x, Fin1 P w outer H1 sc (D :: zc z TI TO i1 C) s H' ∧ Vals ys acc.toList ∧ RelV x v ∧ Q (ys ++ [x]) H')
/-- the walk has ended -/
def Done (P : Program) (w : World) (outer : List Env) (H1 : Hp) (sc : Shared) (z TI TO i1 C D : Addr) (m : Nat) (Q : QZ) (s : Shared) : Prop :=
  ∃ H' ys acc cc, acc.size ≤ m ∧ Fin1 P w outer H1 sc (D :: zc z TI TO i1 C) s H' ∧ s.heap.get? D = some (lstObj acc cc) ∧ Vals ys acc.toList ∧ Q ys H' ∧ s.os = sc.os ∧ AllBare s.gens ∧ ∃ mC, s.heap.Ns C mC
theorem zg_next (L : Lay z TI TO i1 C D a sc) (hh : A.handled = none) (hroom : A.depth < recursionLimit) (T : Top z TI TO i1 C D a g m sc .none i s acc cc gs) (hi : i < m) (hac : acc.size ≤ m) (hg : g < s.gens.size)
    (W : ∀ s', WakeOk (zc z TI TO i1 C) s s' → gs.Goes (model P w) A.in1.in1 (REndZ P w outer H1 sc D (zc z TI TO i1 C) Q) (YItemZ P w outer H1 sc D (zc z TI TO i1 C) a g m Q) (m - i) (.send .none) s') :
    wpAny (model P w) A (pyNext (.ref z)) (fun r s' => match r with
      | some u => ∃ Tp, u = .ref Tp ∧ Came P w A outer H1 sc z TI TO i1 C D a g m Q i acc cc Tp s'
      | none => Done P w outer H1 sc z TI TO i1 C D m Q s') E s := by
  have rc := T.recs
  obtain ⟨mC, hC⟩ := T.ns
  obtain ⟨x0, y0, hTO⟩ := T.to
  have D1 := L.ap
  refine pyNext_zipG T.zz (zipG_item (A := A.in1) D1 T.zz T.ti hTO T.it (by omega) fun h3 z3 to3 r3 sz3 k3 => ?_)
  have K3 : Keeps (zc z TI TO i1 C) s.heap h3 := fun b o hb e => k3 b o (fun q => hb (by simp [q])) (fun q => hb (by simp [q])) (fun q => hb (by simp [q])) e
  have rc3 : ∀ b ∈ zc z TI TO i1 C, Rec h3 b := by
    intro b hb
    simp only [List.mem_cons, List.not_mem_nil, or_false] at hb
    rcases hb with rfl | rfl | rfl | rfl | rfl
    · exact ⟨_, z3, fun v q => nomatch q⟩
    · exact ⟨_, k3 _ _ D1.TIz D1.TITO D1.TIi1 T.ti, fun v q => nomatch q⟩
    · exact ⟨_, to3, fun v q => nomatch q⟩
    · exact ⟨_, r3, fun v q => nomatch q⟩
    · obtain ⟨o, e, d⟩ := ns_rec hC
      exact ⟨o, k3 _ _ L.Cz L.CO L.C1 e, d⟩
  have anz : a ∉ zc z TI TO i1 C := fun q => L.an (List.mem_cons_of_mem _ q)
  have stz : cStatics ∉ zc z TI TO i1 C := fun q => L.st (List.mem_cons_of_mem _ q)
  have gen3 : h3.IsGen a g := K3.gen anz T.gen
  have lim3 : h3.NoLimit := K3.lim stz T.lim
  have hD3 : h3.get? D = some (lstObj acc cc) := K3 D _ L.Dn T.d
  have go3 := W (({ s with heap := h3, toks := s.toks + 1 } : Shared).setGen g .running) ⟨T.os ▸ rfl, allBare_setGen (s := { s with heap := h3, toks := s.toks + 1 }) T.bare rfl, K3, rc3⟩
  refine wpAny_gsz (n := g + 1) hg (nextOf_gen (A := A.in1) (s := { s with heap := h3, toks := s.toks + 1 }) hh lim3 hroom gen3 T.at_ go3 (fun v s1 gs' hb hv hsz => ?_) (fun s1 hp h' e hk he1 he2 hsz => ?_))
  · obtain ⟨n1, n2, ⟨H', ys, x, acc', c', R, q1, q2, q3, rx, q4⟩, hgo⟩ := hv
    have e0 : h3.get? D = some (lstObj acc' c') := q1
    rw [hD3] at e0
    cases e0
    have at1 : ∀ b ∈ D :: zc z TI TO i1 C, s1.heap.get? b = h3.get? b := fun b hb => (R.cell b hb).1
    have mz : z ∈ D :: zc z TI TO i1 C := by simp
    have mTI : TI ∈ D :: zc z TI TO i1 C := by simp
    have mTO : TO ∈ D :: zc z TI TO i1 C := by simp
    have mi1 : i1 ∈ D :: zc z TI TO i1 C := by simp
    have mC' : C ∈ D :: zc z TI TO i1 C := by simp
    refine ⟨(at1 z mz).trans z3, (at1 TO mTO).trans to3, fun h' z' to' T' k' => ?_⟩
    have hsz' : g < s1.gens.size := by
      have q : (s1.setGen g gs').gens.size = s1.gens.size := setGen_size _ _ _
      have q2 : g + 1 ≤ (s1.setGen g gs').gens.size := hsz
      omega
    have Kb : Keeps (zc z TI TO i1 C) s1.heap h' := fun b o hb e => k' b o (fun q => hb (by simp [q])) (fun q => hb (by simp [q])) e
    have KL : Keeps (D :: zc z TI TO i1 C) s1.heap h' := fun b o hb e => Kb b o (fun q => hb (List.mem_cons_of_mem _ q)) e
    have sm : ∀ b ∈ D :: zc z TI TO i1 C, b < s1.heap.objs.size := fun b hb => by
      obtain ⟨o, eo⟩ : ∃ o, h3.get? b = some o := by
        rcases List.mem_cons.mp hb with rfl | hb
        · exact ⟨_, hD3⟩
        · obtain ⟨o, eo, _⟩ := rc3 b hb
          exact ⟨o, eo⟩
      exact Heap.lt_size ((at1 b hb).trans eo)
    have hCm : s1.heap.Ns C mC := by
      have q : h3.Ns C mC := hC.at' fun o e => k3 _ _ L.Cz L.CO L.C1 e
      exact q.at' fun o e => (at1 C mC').trans e
    have cast1 : ((i + 1 : Nat) : Int) = (i : Int) + 1 := by omega
    have cast2 : (m : Int) - ((i + 1 : Nat) : Int) = (m : Int) - i - 1 := by omega
    refine ⟨s1.heap.objs.size, rfl, gs', s.toks, v, ⟨z', k' _ _ D1.TIz D1.TITO ((at1 TI mTI).trans (k3 _ _ D1.TIz D1.TITO D1.TIi1 T.ti)), ⟨_, _, to'⟩, ?_, ?_, ⟨mC, hCm.at' fun o e => k' _ _ L.Cz L.CO e⟩, R.os, allBare_setGen R.bare hb, KL.lim L.st n1, KL.gen L.an n2, setGen_at hsz'⟩, T', ?_, ?_, ?_⟩
    · show IsRangeIter h' i1 ((i + 1 : Nat) : Int) ((m : Int) - ((i + 1 : Nat) : Int)) 1
      rw [cast2, cast1]
      exact k' _ _ D1.i1z D1.TOi1.symm ((at1 i1 mi1).trans r3)
    · exact Kb D _ L.Dn ((at1 D List.mem_cons_self).trans hD3)
    · exact fun hb => Nat.lt_irrefl _ (sm _ hb)
    · intro hlt s' Sl
      have e1 : m - i - 1 = m - (i + 1) := by omega
      have q := hgo (by omega) s' ⟨Sl.os, Sl.bare, fun b o hb hc e => Sl.keep b o hb hc (Kb b o hc e), fun acc2 c2 e => ?_, Sl.turn⟩
      · cases hm : m - i with
        | zero => omega
        | succ j =>
          rw [hm] at q
          have e2 : m - (i + 1) = j := by omega
          rw [e2]
          exact q
      · exact Sl.own acc2 c2 (Kb D _ L.Dn e)
    · intro hm
      exact ⟨H', ys, x, ⟨Un.after R.un KL L.yg, HOk.after R.hok KL fun b hb => (R.cell b hb).2, fun b hb => (R.cell b hb).2⟩, q2, rx, q4 (by omega)⟩
  · obtain ⟨H', ys, acc', c', R, q1, q2, hQ⟩ := hp
    have e0 : h3.get? D = some (lstObj acc' c') := q1
    rw [hD3] at e0
    cases e0
    have at1 : ∀ b ∈ D :: zc z TI TO i1 C, s1.heap.get? b = h3.get? b := fun b hb => (R.cell b hb).1
    have mz : z ∈ D :: zc z TI TO i1 C := by simp
    have mC' : C ∈ D :: zc z TI TO i1 C := by simp
    have z1 : IsZip s1.heap z TI TO .ellipsis := (at1 z mz).trans z3
    have nez : e ≠ z := fun q => by
      have q2 := Heap.lt_size z1
      rw [← q] at q2
      exact absurd (Nat.lt_of_lt_of_le q2 he1) (Nat.lt_irrefl _)
    refine ⟨e, rfl, hk _ _ z1, nez, fun h2 _ k2 => ⟨e, rfl, ?_, ?_⟩⟩
    · obtain ⟨o, ho, hc⟩ := he2
      exact ⟨o, k2 e o nez ho, hc⟩
    · have K1 : Keeps (D :: zc z TI TO i1 C) s1.heap h2 := fun b o hb q => k2 b o (fun x => hb (by simp [x])) (hk b o q)
      have hC1 : s1.heap.Ns C mC := by
        have q : h3.Ns C mC := hC.at' fun o e => k3 _ _ L.Cz L.CO L.C1 e
        exact q.at' fun o e => (at1 C mC').trans e
      have Dz : D ≠ z := fun q => L.Dn (by simp [q])
      exact ⟨H', ys, acc, cc, hac, ⟨Un.after R.un K1 L.yg, HOk.after R.hok K1 fun b hb => (R.cell b hb).2, fun b hb => (R.cell b hb).2⟩, k2 D _ Dz (hk _ _ ((at1 D List.mem_cons_self).trans hD3)), q2, hQ, R.os, allBare_setGen R.bare rfl, mC, hC1.at' fun o e => k2 C _ L.Cz (hk _ _ e)⟩
/-- the range is out -/
theorem zg_last (L : Lay z TI TO i1 C D a sc) (hh : A.handled = none) (T : Top z TI TO i1 C D a g m sc .none m s acc cc gs) {H' : Hp} {ys : List V} (F : Fin1 P w outer H1 sc (D :: zc z TI TO i1 C) s H') (hv : Vals ys acc.toList) (hac : acc.size ≤ m) (hQ : Q ys H') :
    wpAny (model P w) A (pyNext (.ref z)) (fun r s' => r = none ∧ Done P w outer H1 sc z TI TO i1 C D m Q s') E s := by
  obtain ⟨mC, hC⟩ := T.ns
  obtain ⟨x0, y0, hTO⟩ := T.to
  refine pyNext_zipG T.zz (zipG_end (A := A.in1) hh L.ap T.zz T.ti hTO T.it (by omega) fun h' e k he => ⟨e, rfl, he, rfl, ?_⟩)
  have K : Keeps (D :: zc z TI TO i1 C) s.heap h' := fun b o hb q => k b o (fun x => hb (by simp [x])) (fun x => hb (by simp [x])) q
  have Dz : D ≠ z := fun q => L.Dn (by simp [q])
  have D1 : D ≠ i1 := fun q => L.Dn (by simp [q])
  exact ⟨H', ys, acc, cc, hac, F.after L.yg K, k D _ Dz D1 T.d, hv, hQ, T.os, T.bare, mC, hC.at' fun o e => k C _ L.Cz L.C1 e⟩
end
end EW
end

section
set_option maxHeartbeats 2000000
/-! EwZipK: the walk of [x for t, x in zip(range(m), g)]. -/
namespace EW
open PySem PySem.Spec PyProof.Rows GenW L2
section
variable {P : Program} {w : World} {A : Around} {outer : List Env} {H1 : Hp} {sc s : Shared} {z TI TO i1 C D a : Addr} {g m : Nat} {Q : QZ} {R : Result → Shared → Prop}
theorem zg_loop {t x : Str} {pt px px' pos tpos : Pos} {kk : Nat} {iter : Expr} {scope : Scope} {ce : Env} {gs : GenState} {cc : Nat} (L : Lay z TI TO i1 C D a sc) (hh : A.handled = none) (hroom : A.depth < recursionLimit) (hC : ce.locals = C) (hk : ce.scope.kind = .function) (ht : ce.kindOf t = some .local) (hx : ce.kindOf x = some .local) (hm : m ≤ sizeLine)
    (hd : (x == ("__debug__" : Str)) = false) (hm0 : 0 < m) (T : Top z TI TO i1 C D a g m sc .none 0 s #[] cc gs)
    (W : ∀ s', WakeOk (zc z TI TO i1 C) s s' → gs.Goes (model P w) A.in1.in1 (REndZ P w outer H1 sc D (zc z TI TO i1 C) Q) (YItemZ P w outer H1 sc D (zc z TI TO i1 C) a g m Q) m (.send .none) s')
    (hR : ∀ s', Done P w outer H1 sc z TI TO i1 C D m Q s' → R (.ok .next) s') :
    codeAny (model P w) A (.compLoop (.ListComp (.Name x px) [⟨.Tuple [.Name t pt, .Name x px'] kk tpos, iter, [], 0⟩] scope pos) 0 (.ref z) (.ref D) ce) R s := by
  refine compLoop_any (fun k s => ∃ i acc cc gs, k = m - i ∧ i ≤ m ∧ acc.size = i ∧ Top z TI TO i1 C D a g m sc .none i s acc cc gs ∧
    (i < m → ∀ s', WakeOk (zc z TI TO i1 C) s s' → gs.Goes (model P w) A.in1.in1 (REndZ P w outer H1 sc D (zc z TI TO i1 C) Q) (YItemZ P w outer H1 sc D (zc z TI TO i1 C) a g m Q) (m - i) (.send .none) s') ∧
    (i = m → ∃ H' ys, Fin1 P w outer H1 sc (D :: zc z TI TO i1 C) s H' ∧ Vals ys acc.toList ∧ Q ys H')) ?_ m ⟨0, #[], cc, gs, rfl, Nat.zero_le _, rfl, T, fun _ => W, fun e => by omega⟩
  rintro k s ⟨i, acc, cc, gs, rfl, hi, hsz, T, go, fin⟩
  by_cases hlt : i < m
  · have hg : g < s.gens.size := (Array.getElem?_eq_some_iff.mp T.at_).1
    refine wpAny_mono (zg_next (E := fun _ _ => False) L hh hroom T hlt (by omega) hg (go hlt)) (fun r s1 q => ?_) fun _ _ q => q.elim
    cases r with
    | none => exact hR s1 q
    | some u =>
      obtain ⟨Tp, rfl, gs', tk, v, T', pr, nT, go', fin'⟩ := q
      refine wpAny_letOwnedTupleGo_zip T'.zz fun h1 z1 sb1 => ?_
      have Tz : Tp ≠ z := fun q => nT (by simp [q])
      have pr1 : IsPair h1 Tp (.int i tk) v := (sb1.2 Tp Tz).trans pr
      refine assign_Tuple_tuple (s := { s1 with heap := h1 }) hh (items := #[.int i tk, v]) ⟨_, pr1, rfl, _, rfl⟩ rfl rfl fun h2 e2 => ?_
      show wpAny _ _ (assignInOrder [assign (.Name t pt) ce, assign (.Name x px') ce] [.int i tk, v]) _ _ _
      have lt1 : ∀ b o, h1.get? b = some o → h2.get? b = some o := fun b o e => e2 b o (Nat.ne_of_lt (Heap.lt_size e)) e
      obtain ⟨mC, n0⟩ := T'.ns
      have n2 : h2.Ns ce.locals mC := by
        rw [hC]
        exact n0.at' fun o e => lt1 _ _ ((sb1.2 C L.Cz).trans e)
      have hcls : (ce.scope.kind == .class || (ce.scope.kind == .module && ce.locals != ce.globals)) = false := by rw [hk]; rfl
      refine assignInOrder_cons (wpAny_assign_Name (wpAny_storeName_local (s := { s1 with heap := h2 }) ht n2 (fun h3 n3 sb3 => ?_) hcls))
      refine assignInOrder_cons (wpAny_assign_Name (wpAny_storeName_local (s := { s1 with heap := h3, toks := s1.toks + 1 }) hx n3 (fun h4 n4 sb4 => ?_) hcls))
      refine assignInOrder_nil (wpAny_tests_nil ?_)
      rw [if_pos rfl]
      rw [hC] at sb3 sb4
      refine wpAny_Name (wpAny_loadName_local hk hx n4 (v := v) (by simp) ?_) hd
      rw [hC] at n4
      have DC : D ≠ C := fun q => L.Dn (by simp [q])
      have Dz : D ≠ z := fun q => L.Dn (by simp [q])
      have up : ∀ b o, b ≠ z → b ≠ C → s1.heap.get? b = some o → h4.get? b = some o := fun b o bz bC e => (sb4.2 b bC).trans ((sb3.2 b bC).trans (lt1 b o ((sb1.2 b bz).trans e)))
      have d4 : h4.get? D = some (lstObj acc cc) := up D _ Dz DC T'.d
      have z4 : IsZip h4 z TI TO .none := (sb4.2 z L.Cz.symm).trans ((sb3.2 z L.Cz.symm).trans (lt1 _ _ z1))
      refine append_at (hsz := by omega) d4 fun h5 sb5 d5 => ?_
      have D1 := L.ap
      have up5 : ∀ b o, b ≠ z → b ≠ C → b ≠ D → s1.heap.get? b = some o → h5.get? b = some o := fun b o bz bC bD e => (sb5.2 b bD).trans (up b o bz bC e)
      have nD : ∀ b, b ∈ zc z TI TO i1 C → b ≠ D := fun b hb q => L.Dn (q ▸ hb)
      have K : Keeps (D :: zc z TI TO i1 C) s1.heap h5 := fun b o hb e => up5 b o (fun q => hb (by simp [q])) (fun q => hb (by simp [q])) (fun q => hb (by simp [q])) e
      have T5 : Top z TI TO i1 C D a g m sc .none (i + 1) { s1 with heap := h5, toks := s1.toks + 1 + 1 } (acc.push v) (cc + 1) gs' := by
        refine ⟨(sb5.2 z (nD z (by simp))).trans z4, up5 _ _ D1.TIz L.CI.symm (nD TI (by simp)) T'.ti, ?_, up5 _ _ D1.i1z L.C1.symm (nD i1 (by simp)) T'.it, d5, ⟨_, n4.at' fun o e => (sb5.2 C (nD C (by simp))).trans e⟩, T'.os, T'.bare, K.lim L.st T'.lim, K.gen L.an T'.gen, T'.at_⟩
        obtain ⟨x0, y0, q⟩ := T'.to
        exact ⟨x0, y0, up5 _ _ D1.TOz L.CO.symm (nD TO (by simp)) q⟩
      refine ⟨m - (i + 1), by omega, i + 1, acc.push v, cc + 1, gs', rfl, by omega, by rw [Array.size_push, hsz], T5, fun hlt' s' W' => go' hlt' s' ⟨W'.os.trans (T5.os.trans T'.os.symm), W'.bare, fun b o hb hc e => W'.keep b o hc (K b o (fun q => (List.mem_cons.mp q).elim hb hc) e), fun acc2 c2 e => ?_, W'.turn⟩, fun hm' => ?_⟩
      · rw [T'.d] at e
        cases e
        exact ⟨cc + 1, W'.keep D _ L.Dn d5⟩
      · obtain ⟨H', ys, xx, F, hv, rx, hq⟩ := fin' hm'
        refine ⟨H', ys ++ [xx], F.after (s' := { s1 with heap := h5, toks := s1.toks + 1 + 1 }) L.yg K, ?_, hq⟩
        rw [Array.toList_push]
        exact hv.append (.cons rx .nil)
  · obtain rfl : i = m := by omega
    obtain ⟨H', ys, F, hv, hq⟩ := fin rfl
    refine wpAny_mono (zg_last (E := fun _ _ => False) L hh T F hv (by omega) hq) (fun r s1 q => ?_) fun _ _ q => q.elim
    obtain ⟨rfl, q⟩ := q
    exact hR s1 q
end
end EW
end

section
set_option maxHeartbeats 2000000
/-! EwZipL: the rules for [x for t, x in zip(range(n), g)], as a value and as what a name is set to. -/
namespace EW
open PySem PySem.Spec PyProof.Rows GenW L2
abbrev TGenZ := L2.St → Hp → Nat → QZ → Prop
/-- an expression whose value is a generator that has not begun -/
structure PGenZ (X : Cx) (k : Nat) (e : Expr) (tg : TGenZ) : Prop where
  run : ∀ (pins : List (Addr × Obj)) (s : Shared) (σ : L2.St) (H : Hp) (m : Nat) (Q : QZ), Inv X pins σ H s → 0 < m → tg σ H m Q → wpAny (model X.prog X.w) X.A (eval e X.env)
    (fun u s' => ∃ H1 sc, Inv X pins σ H1 sc ∧ GMadeZ X.prog X.w k X.stack H1 sc m Q u s') X.xe s
def tZg (ta : TA) (tg : TGenZ) : TE := fun σ H Q => ta σ H fun vs H1 => ∃ n : Nat, vs = [.int n] ∧ 0 < n ∧ n ≤ 1000 ∧ tg σ H1 n fun ys H' => ∀ D, H' D = none → Q (.ref D) (upd H' D (.lst ys))
/-- the names of the block -/
structure ZScope (scope : Scope) (t x : Str) : Prop where
  kind : scope.kind = .function
  loc : ∀ y ∈ scope.names, y.2 = .local
  uniq : ∀ y ∈ scope.names, scope.names.lookup y.1 = some y.2
  t : scope.names.lookup t = some .local
  x : scope.names.lookup x = some .local
def zScopeB (scope : Scope) (t x : Str) : Bool :=
  (match scope.kind with | .function => true | _ => false) && (scope.names.all fun y => match y.2 with | .local => true | _ => false) && (scope.names.all fun y => decide (scope.names.lookup y.1 = some y.2)) && decide (scope.names.lookup t = some .local) && decide (scope.names.lookup x = some .local)
theorem zScope_by {scope : Scope} {t x : Str} (h : zScopeB scope t x = true) : ZScope scope t x := by
  unfold zScopeB at h
  simp only [Bool.and_eq_true, List.all_eq_true, decide_eq_true_eq] at h
  obtain ⟨⟨⟨⟨h1, h2⟩, h3⟩, h4⟩, h5⟩ := h
  refine ⟨?_, fun y hy => ?_, h3, h4, h5⟩
  · split at h1
    · assumption
    · cases h1
  · have q := h2 y hy
    split at q
    · assumption
    · cases q
theorem pushCells_none {h : Heap} : ∀ {names : List (Str × NameKind)}, (∀ y ∈ names, y.2 = .local) → pushCells h names = h
  | [], _ => rfl
  | (n, k) :: r, q => by
    obtain rfl : k = .local := q (n, k) List.mem_cons_self
    show pushCells h r = h
    exact pushCells_none fun y hy => q y (List.mem_cons_of_mem _ hy)
theorem lay_of (N a : Nat) (sc : Shared) (ha : a < N) (hs : sc.heap.objs.size ≤ N) (hc : cStatics < N) : Lay (N + 3) (N + 1) (N + 2) N (N + 5) (N + 4) a sc := by
  have hc' : (cStatics : Nat) < N := hc
  have nin : ∀ b : Nat, b ≠ N + 3 → b ≠ N + 1 → b ≠ N + 2 → b ≠ N → b ≠ N + 5 → b ∉ zc (N + 3) (N + 1) (N + 2) N (N + 5) := by
    intro b h1 h2 h3 h4 h5 q
    simp only [List.mem_cons, List.not_mem_nil, or_false] at q
    rcases q with q | q | q | q | q
    · exact h1 q
    · exact h2 q
    · exact h3 q
    · exact h4 q
    · exact h5 q
  have nin6 : ∀ b : Nat, b < N → b ∉ (N + 4) :: zc (N + 3) (N + 1) (N + 2) N (N + 5) := fun b hb q => by
    rcases List.mem_cons.mp q with q | q
    · exact (by omega : b ≠ N + 4) q
    · exact nin b (by omega) (by omega) (by omega) (by omega) (by omega) q
  exact ⟨⟨(by omega : N + 1 ≠ N + 3), (by omega : N + 2 ≠ N + 3), (by omega : N ≠ N + 3), (by omega : N + 1 ≠ N + 2), (by omega : N + 1 ≠ N), (by omega : N + 2 ≠ N)⟩, (by omega : N + 5 ≠ N + 3), (by omega : N + 5 ≠ N + 1), (by omega : N + 5 ≠ N + 2), (by omega : N + 5 ≠ N),
    nin (N + 4) (by omega) (by omega) (by omega) (by omega) (by omega), nin6 a ha, fun b hb => Nat.le_trans hs (Classical.byContradiction fun h => nin6 b (Nat.lt_of_not_le h) hb), nin6 cStatics hc'⟩
theorem lay_ge (N b : Nat) (hb : b ∈ (N + 4) :: zc (N + 3) (N + 1) (N + 2) N (N + 5)) : N ≤ b := by
  have k : ∀ j : Nat, b = N + j → N ≤ b := fun j e => by omega
  simp only [List.mem_cons, List.not_mem_nil, or_false] at hb
  rcases hb with q | q | q | q | q | q
  · exact k 4 q
  · exact k 3 q
  · exact k 1 q
  · exact k 2 q
  · exact k 0 q
  · exact k 5 q
theorem lay_ne (N : Nat) : N + 5 ≠ N + 4 := by omega
section
variable {X : Cx} {k : Nat} {pins : List (Addr × Obj)} {s : Shared} {σ : L2.St} {H : Hp} {Q : VK}
theorem zg_core {t x : Str} {ca ge : Expr} {ta : TA} {tg : TGenZ} {pt px px' pos pos' tpos p1 p2 p3 p4 : Pos} {kk : Nat} {scope : Scope} {use : Option (Value → Sem Unit)} {Qf : Value → Shared → Prop}
    (hc : X.calm = true) (I : Inv X pins σ H s) (Z : ZScope scope t x) (hx : (x == ("__debug__" : Str)) = false) (gz : Gl X "zip") (mz : X.mg "zip" = none) (gr : Gl X "range") (mr : X.mg "range" = none) (ha : PA X [ca] ta) (hg : PGenZ X k ge tg) (hr : Room (k + 3) X.A)
    (hs1 : starEach [.Call (.Name "range" p3) [ca] [] p4, ge] X.env = [(false, eval (.Call (.Name "range" p3) [ca] [] p4) X.env), (false, eval ge X.env)]) (hs2 : starEach [ge] X.env = [(false, eval ge X.env)]) (hs3 : starEach [ca] X.env = [(false, eval ca X.env)])
    (h : tZg ta tg σ H Q)
    (hRR : ∀ D C s' m H', Inv X pins σ H' s' → Q (.ref D) H' → s'.heap.Ns C m → FpOk X pins H' C → compPost (model X.prog X.w) X.A X.xe use Qf (.ref D) C (.ok .next) s') :
    wpAny (model X.prog X.w) X.A (comprehension (.ListComp (.Name x px) [⟨.Tuple [.Name t pt, .Name x px'] kk tpos, .Call (.Name "zip" p1) [.Call (.Name "range" p3) [ca] [] p4, ge] [] p2, [], 0⟩] scope pos) scope X.env pos' (newList []) false (eval (.Call (.Name "zip" p1) [.Call (.Name "range" p3) [ca] [] p4, ge] [] p2) X.env) use) Qf X.xe s := by
  have hfree : ∀ y ∈ scope.names, y.2 = .free → ∃ c, X.env.cells.lookup y.1 = some c := fun y hy e => by rw [Z.loc y hy] at e; cases e
  refine wpAny_comprehension_free (use := use) rfl (by intro _; rfl) (closure_ok hfree) Z.kind (fun y hy e => by rw [Z.uniq y hy, e]) ?_
  refine Call_ (ld_blt I gz mz PyProof.Rows.boot_zip (PyProof.Rows.callWith_type1 ?_ (by rw [hs1, hs2]) (by rw [hs2]; rfl)))
  rw [hs1]
  show wpAny _ _ (spliced [(false, eval (.Call (.Name "range" p3) [ca] [] p4) X.env), (false, eval ge X.env)]) _ _ s
  refine Calls.spliced_cons (Call_ (ld_blt I gr mr boot_range (PyProof.Rows.callWith_type1 (thn (ha.run p4 pins s σ H _ I h) fun us s1 ⟨vs, H1, I1, r1, q1⟩ => ?_) hs3 rfl)))
  obtain ⟨n, rfl, hn0, hn1, q⟩ := q1
  cases r1 with
  | cons r rr =>
  cases rr
  obtain ⟨t', rfl⟩ := r
  refine call_range_1 ?_
  generalize hro : ({ cls := .type "range", data := .fields #[.int 0 s1.toks, .int (n : Int) t', .int 1 (s1.toks + 1)] } : Obj) = ro
  generalize hs1' : ({ s1 with heap := s1.heap.push ro, toks := s1.toks + 1 + 1 } : Shared) = s1'
  have I1' : Inv X pins σ H1 s1' := by
    rw [← hs1']
    exact I1.kept fun b o e => Heap.get?_push_of_some _ e
  have hrng : s1'.heap.get? s1.heap.objs.size = some ro := by
    rw [← hs1', ← hro]
    exact Heap.get?_push_size _ rfl
  have hncell : ∀ v, ro.data ≠ .cell v := fun v => by rw [← hro]; exact fun q => nomatch q
  generalize hrr : s1.heap.objs.size = r at hrng
  have Ip := I1'.pinned (fp := [r]) (fun b hb => by
    obtain rfl := List.mem_singleton.mp hb
    exact I1.fpOk (Nat.le_of_eq hrr) (I1.hok.fresh (Nat.le_of_eq hrr))) (fun b hb => by
    obtain rfl := List.mem_singleton.mp hb
    exact ⟨ro, hrng, hncell⟩)
  refine Calls.spliced_cons (thn (hg.run _ s1' σ H1 n _ Ip hn0 q) fun u s2 ⟨H2, sc, Ic, G⟩ => Calls.spliced_nil ?_)
  obtain ⟨a, g, c, rfl, ha1, ha2, hgen, hgs, hos, hba, hl, hk, wake⟩ := G
  have hrc : sc.heap.get? r = some ro := (Ic.pin (r, ro) (List.mem_append_right _ (List.mem_append_right _ (mem_pinsAt List.mem_cons_self hrng)))).1
  have hr2 : IsRange s2.heap r 0 (n : Int) 1 s1.toks t' (s1.toks + 1) := by
    show s2.heap.get? r = _
    rw [hro]
    exact hk _ _ hrc
  have Ic' : Inv X pins σ H2 sc := Ic.unpinned
  have hsz2 : sc.heap.objs.size ≤ s2.heap.objs.size := Nat.le_of_lt (Nat.lt_of_le_of_lt ha1 ha2)
  have size_n : Builtin.Range.rangeSize 0 (n : Int) 1 = n := by
    rw [rangeSize_one]
    split <;> omega
  refine call_zipG (small_one (by omega) (by omega) (by omega) (by omega)) size_n hr2 hgen fun h3 z3 ti3 to3 it3 sz3 k3 => wpAny_pyIter_zip z3 ?_
  refine wpAny_newObj_type (newEnv_comp ?_) (by show 0 ≤ sizeLine; decide)
  rw [pushCells_none Z.loc]
  have hst : cStatics < s2.heap.objs.size := let ⟨_, hn, _⟩ := hl; hn.lt
  have LA := lay_of s2.heap.objs.size a sc ha2 hsz2 hst
  have hN3 : ∀ b o, s2.heap.get? b = some o → h3.get? b = some o := k3
  generalize hN : s2.heap.objs.size = N at LA z3 ti3 to3 it3 sz3 ha2 hsz2 ⊢
  generalize hh4 : h3.push { cls := .type "list", data := .seq ([] : List Value).toArray } = h4
  have eD : h4.get? (N + 4) = some (lstObj #[] 0) := by
    rw [← hh4, ← sz3]
    exact Heap.get?_push_size _ rfl
  have e4 : h4.objs.size = N + 5 := by rw [← hh4, Heap.size_push, sz3]
  have k4 : ∀ b o, h3.get? b = some o → h4.get? b = some o := fun b o e => by rw [← hh4]; exact Heap.get?_push_of_some _ e
  generalize hh5 : h4.push { cls := .type "dict", data := .dict #[] } = h5
  have k5 : ∀ b o, h4.get? b = some o → h5.get? b = some o := fun b o e => by rw [← hh5]; exact Heap.get?_push_of_some _ e
  have n5 : h5.Ns (N + 5) (fun _ => none) := by
    rw [← hh5, ← e4]
    exact Heap.Ns.new ..
  have k35 : ∀ b o, h3.get? b = some o → h5.get? b = some o := fun b o e => k5 b o (k4 b o e)
  show codeAny _ _ (.compStart (.ListComp (.Name x px) [⟨.Tuple [.Name t pt, .Name x px'] kk tpos, .Call (.Name "zip" p1) [.Call (.Name "range" p3) [ca] [] p4, ge] [] p2, [], 0⟩] scope pos) 0 (.ref (N + 3)) (.ref h3.objs.size) (compEnvC scope (cellsFrom (h4.objs.size + 1) scope.names (cloFrom X.env.cells scope.names [])) h4.objs.size X.env)) (compPost (model X.prog X.w) X.A X.xe use Qf (.ref h3.objs.size) h4.objs.size) { s2 with heap := h5 }
  rw [e4, sz3]
  generalize hce : compEnvC scope (cellsFrom (N + 5 + 1) scope.names (cloFrom X.env.cells scope.names [])) (N + 5) X.env = ce
  have cL : ce.locals = N + 5 := by subst hce; rfl
  have csc : ce.scope = relS scope X.env.scope := by subst hce; rfl
  have kindOf : ∀ y, scope.names.lookup y = some .local → ce.kindOf y = some .local := fun y hy => by
    unfold Env.kindOf
    rw [csc]
    exact lookup_relS_keep (by decide) hy
  have z5 : IsZip h5 (N + 3) (N + 1) (N + 2) .none := k35 _ _ z3
  have gen5 : h5.IsGen a g := hgen.keeps fun b o e => k35 b o (hN3 b o e)
  have lim5 : h5.NoLimit := hl.keeps fun b o e => k35 b o (hN3 b o e)
  have loop : codeAny (model X.prog X.w) X.A (.compLoop (.ListComp (.Name x px) [⟨.Tuple [.Name t pt, .Name x px'] kk tpos, .Call (.Name "zip" p1) [.Call (.Name "range" p3) [ca] [] p4, ge] [] p2, [], 0⟩] scope pos) 0 (.ref (N + 3)) (.ref (N + 4)) ce) (compPost (model X.prog X.w) X.A X.xe use Qf (.ref (N + 4)) (N + 5)) { s2 with heap := h5 } := by
    refine zg_loop (P := X.prog) (w := X.w) (outer := X.stack) (H1 := H2) (sc := sc) (g := g) (m := n) (gs := .fresh c) (cc := 0) (Q := fun ys H' => ∀ D, H' D = none → Q (.ref D) (upd H' D (.lst ys))) LA hr.hd (by have := hr.dp; omega) cL (by rw [csc]; exact Z.kind) (kindOf t Z.t) (kindOf x Z.x) (Nat.le_trans hn1 (by decide)) hx hn0 ⟨z5, k35 _ _ ti3, ⟨_, _, k35 _ _ to3⟩, ?_, k5 _ _ eD, ⟨_, n5⟩, hos, hba, lim5, gen5, hgs⟩ (fun s' W => ⟨rfl, ?_⟩) (fun s' dn => ?_)
    · have q := k35 _ _ it3
      have e1 : ((0 : Nat) : Int) = 0 := rfl
      have e2 : (n : Int) - ((0 : Nat) : Int) = n := by omega
      show IsRangeIter h5 N ((0 : Nat) : Int) ((n : Int) - ((0 : Nat) : Int)) 1
      rw [e2, e1]
      exact q
    · refine wake X.A.in1.in1 (N + 4) (zc (N + 3) (N + 1) (N + 2) N (N + 5)) s' (hr.in1.in1.mono (Nat.le_succ _)) Ic'.ok.frames (fun b hb => ?_) LA.Dn (fun b o e => ?_) ⟨0, W.keep _ _ LA.Dn (k5 _ _ eD)⟩ W.turn (W.os.trans hos) W.bare
      · rw [hN]; exact lay_ge N b hb
      · have lt := Heap.lt_size e
        rw [hN] at lt
        exact W.keep b o (fun hb => absurd (Nat.lt_of_lt_of_le lt (lay_ge N b (List.mem_cons_of_mem _ hb))) (Nat.lt_irrefl _)) (k35 b o (hN3 b o e))
    · obtain ⟨H', ys, acc, cc, hac, F, d, hv, hq, os, bare, mC, hns⟩ := dn
      have hlen : ys.length ≤ sizeLine := by
        have e1 := hv.length
        have e2 : acc.toList.length = acc.size := by simp
        have e3 : sizeLine = 16777216 := by decide
        omega
      have nD := F.nn (N + 4) List.mem_cons_self
      have nC := F.nn (N + 5) (by simp)
      have I6 := Ic'.drained (ex := []) (Nat.le_trans hsz2 (Nat.le_add_right _ _)) hlen d hv ExOk.nil os bare F.un F.hok nD
      refine hRR (N + 4) (N + 5) s' mC _ I6 (hq _ nD) hns (Ic'.fpOk (Nat.le_trans hsz2 (Nat.le_add_right _ _)) ?_)
      rw [upd_ne (lay_ne N)]
      exact nC
  exact codeAny_compStart_list loop (wpAny_pyIter_zip z5 loop)
end
end EW
end

section
set_option maxHeartbeats 2000000
/-! EwZipM: the rules; a generator method called. -/
namespace EW
open PySem PySem.Spec PyProof.Rows GenW L2
section
variable {X : Cx} {k : Nat}
theorem pe_zg {t x : Str} {ca ge : Expr} {ta : TA} {tg : TGenZ} {pt px px' pos tpos p1 p2 p3 p4 : Pos} {kk : Nat} {scope : Scope} (hc : X.calm = true) (Z : ZScope scope t x) (gz : Gl X "zip") (mz : X.mg "zip" = none) (gr : Gl X "range") (mr : X.mg "range" = none) (ha : PA X [ca] ta) (hg : PGenZ X k ge tg) (hr : Room (k + 3) X.A)
    (hx : (x == ("__debug__" : Str)) = false := by decide)
    (hs1 : starEach [.Call (.Name "range" p3) [ca] [] p4, ge] X.env = [(false, eval (.Call (.Name "range" p3) [ca] [] p4) X.env), (false, eval ge X.env)] := by rfl) (hs2 : starEach [ge] X.env = [(false, eval ge X.env)] := by rfl) (hs3 : starEach [ca] X.env = [(false, eval ca X.env)] := by rfl) :
    PE X (.ListComp (.Name x px) [⟨.Tuple [.Name t pt, .Name x px'] kk tpos, .Call (.Name "zip" p1) [.Call (.Name "range" p3) [ca] [] p4, ge] [] p2, [], 0⟩] scope pos) (tZg ta tg) := by
  refine ⟨fun pins s σ H Q I h => ?_⟩
  rw [eval_ListComp]
  refine zg_core hc I Z hx gz mz gr mr ha hg hr hs1 hs2 hs3 h fun D C s' m H' I' q hn f => ⟨m, hn, fun h'' sb => ?_⟩
  obtain ⟨f0, f1, f2, f3, f4, f5⟩ := f
  exact ⟨.ref D, H', I'.turned (t' := s'.toks) (fun b o hb e => (sb.2 b hb).trans e) f0 f1 f3 f4 f5, rfl, q⟩
theorem ps_setZg {i : Nat} {y t x : Str} {ca ge : Expr} {ta : TA} {tg : TGenZ} {py pt px px' pos spos tpos p1 p2 p3 p4 : Pos} {kk : Nat} {scope : Scope} (hc : X.calm = true) (hN : X.N.Nodup) (hy : X.N[i]? = some y) (hyl : X.env.scope.names.lookup y = some .local)
    (hsw : swapsWith (.ListComp (.Name x px) [⟨.Tuple [.Name t pt, .Name x px'] kk tpos, .Call (.Name "zip" p1) [.Call (.Name "range" p3) [ca] [] p4, ge] [] p2, [], 0⟩] scope pos) (some (.Name y py)) spos.line X.env = pure true)
    (Z : ZScope scope t x) (gz : Gl X "zip") (mz : X.mg "zip" = none) (gr : Gl X "range") (mr : X.mg "range" = none) (ha : PA X [ca] ta) (hg : PGenZ X k ge tg) (hr : Room (k + 3) X.A)
    (hx : (x == ("__debug__" : Str)) = false := by decide)
    (hs1 : starEach [.Call (.Name "range" p3) [ca] [] p4, ge] X.env = [(false, eval (.Call (.Name "range" p3) [ca] [] p4) X.env), (false, eval ge X.env)] := by rfl) (hs2 : starEach [ge] X.env = [(false, eval ge X.env)] := by rfl) (hs3 : starEach [ca] X.env = [(false, eval ca X.env)] := by rfl) :
    PS X (.Assign [.Name y py] (.ListComp (.Name x px) [⟨.Tuple [.Name t pt, .Name x px'] kk tpos, .Call (.Name "zip" p1) [.Call (.Name "range" p3) [ca] [] p4, ge] [] p2, [], 0⟩] scope pos) spos) (tAsg (tZg ta tg) (gName i)) := by
  refine ⟨fun pins s σ H D I h => ?_⟩
  rw [exec_Assign_Name_used _ _ _ _ hsw]
  refine wpAny_bind (wpAny_standAt (wpAny_bind ?_))
  have h : tZg ta tg σ H (fun x H1 => gName i x σ H1 D.nx) := h
  refine wpAny_bind (thn (zg_core (Qf := fun _ s' => SP X pins D .next s') hc I Z hx gz mz gr mr ha hg hr hs1 hs2 hs3 h fun L C s' m H' I' q hn f => ?_) fun _ s' hq => wpAny_pure (wpAny_pure hq))
  show wpAny _ _ (assign (.Name y py) X.env (.ref L)) _ _ _
  refine wpAny_assign_Name (store_ok2 (v := V.ref L) I' hN hy (.inl hyl) rfl (fun s2 I2 ⟨a, sb, ha⟩ => ?_) (.inr hyl))
  obtain ⟨f0, f1, f2, f3, f4, f5⟩ := f
  have haC : C ≠ a := by
    rcases ha with z | z
    · rw [z]; exact f1
    · exact fun e => f4 y a z e.symm
  refine ⟨m, hn.sameBut sb haC, fun h3 sb3 => ?_⟩
  exact ⟨_, H', I2.turned (t' := s2.toks) (fun b o hb e => (sb3.2 b hb).trans e) f0 f1 f3 f4 f5, q⟩
/-! ### o.m(e, ..) -/
variable {f C : Addr} {fd : FuncData} {ps : List Str} {sp : SpZ} {dvs : List V} {ds : List Value} {m : Str} {pos' apos : Pos} {o : Expr} {ta : TE}
theorem run_gfnZ {pins : List (Addr × Obj)} {σ : L2.St} {H : Hp} {s : Shared} {us : List Value} {vs : List V} {n : Nat} {Q : QZ} {E1 : Value → Shared → Prop} (F : GFnZ X.prog X.w X.K X.mg X.base k f fd ps sp) (hr : Room k X.A) (hb : Binds X.K fd ps ds) (hd : Vals dvs ds)
    (I : Inv X pins σ H s) (r : Vals vs us) (hn : 0 < n) (h : sp (vs ++ dvs) H n Q) :
    wpAny (model X.prog X.w) X.A (call (.ref f) us) (fun u s' => ∃ H1 sc, Inv X pins σ H1 sc ∧ GMadeZ X.prog X.w k X.stack H1 sc n Q u s') E1 s := by
  have r2 : Vals (vs ++ dvs) (us ++ ds) := r.append hd
  have hl2 : (us ++ ds).length = ps.length := by rw [← r2.length]; exact F.len _ _ _ _ h
  refine wpAny_call (codeAny_mono (F.run X.A X.stack s H ⟨us, []⟩ (us ++ ds) (vs ++ dvs) n Q hr I.env0 (hb s us I.kIn hl2) r2 hn h) fun r s' hq => ?_)
  cases r with
  | error e => exact hq.elim
  | ok fl =>
    cases fl with
    | ret u => exact ⟨H, s, I, hq⟩
    | next => exact hq.elim
    | brk => exact hq.elim
    | cont => exact hq.elim
def tMethZ (C : Addr) (m : Str) (sp : SpZ) (dvs : List V) (ta : TE) (t : TA) : TGenZ := fun σ H n Q => ta σ H fun x H1 => ∃ a dx fs, x = .ref a ∧ H1 a = some (.ins C dx fs) ∧ fs.lookup m = none ∧ t σ H1 fun vs H2 => sp (x :: (vs ++ dvs)) H2 n Q
theorem pgz_meth {pl : Sem Bool} {e : Expr} {es : List Expr} {t : TA} (he : PE X o ta) (c : Cls X.K C) (hm : Meth X.K C m f) (F : GFnZ X.prog X.w X.K X.mg X.base k f fd ps sp) (hr : Room k X.A) (hb : Binds X.K fd ps ds) (hd : Vals dvs ds) (ha : PA X (e :: es) t)
    (hst : starEach (e :: es) X.env = (false, eval e X.env) :: starEach es X.env := by rfl) (hpl : (backTo pos' (starEach es X.env)).any (·.1) = false := by rfl)
    (ht : eval (.Call (.Attribute o m apos) (e :: es) [] pos') X.env = (do
      let ov ← eval o X.env
      standAt apos.atName
      let (f, first) ← holding [ov] (getMethod ov m pl)
      callWith pos' f first (backTo pos' (starEach (e :: es) X.env)) (backToKw pos' (keywordEach [] X.env))) := by rfl) :
    PGenZ X k (.Call (.Attribute o m apos) (e :: es) [] pos') (tMethZ C m sp dvs ta t) := by
  refine ⟨fun pins s σ H n Q I hn h => ?_⟩
  refine PySem.W.methodCall_KW (pl := pl) (thn (he.run pins s σ H _ I h) fun u s1 ⟨x, H1, I1, rx, a, dx, fs, ex, ea, l, q⟩ => ?_) ht
  subst ex
  obtain rfl : u = Value.ref a := rx
  refine getmeth_ok I1 ea c hm l ?_
  refine PySem.W.callWith_K (first := [.ref a]) (h₀ := X.base) I.ok.mod.kin hm.kp (thn (ha.run pos' pins s1 σ H1 _ I1 q) fun us s2 ⟨vs, H2, I2, r, q2⟩ => ⟨I2.kIn, ?_⟩) hst hpl
  exact run_gfnZ (us := .ref a :: us) (vs := .ref a :: vs) F hr hb hd I2 (.cons rfl r) hn q2
end
end EW
end

section

namespace Rn
/-- the first members from a on, at most m -/
def Walk (A : Int → Prop) : Nat → Int → List Int → Prop
  | 0, _, ys => ys = []
  | _ + 1, a, [] => IsNext A a none
  | m + 1, a, y :: ys => IsNext A a (some y) ∧ Walk A m (y + 1) ys
def WalkB (A : Int → Prop) : Nat → Int → List Int → Prop
  | 0, _, ys => ys = []
  | _ + 1, a, [] => IsLast A a none
  | m + 1, a, y :: ys => IsLast A a (some y) ∧ WalkB A m (y - 1) ys
/-- all members from a on -/
def All (A : Int → Prop) : Int → List Int → Prop
  | a, [] => IsNext A a none
  | a, y :: ys => IsNext A a (some y) ∧ All A (y + 1) ys
def AllB (A : Int → Prop) : Int → List Int → Prop
  | a, [] => IsLast A a none
  | a, y :: ys => IsLast A a (some y) ∧ AllB A (y - 1) ys
theorem Walk.uniq {A : Int → Prop} : ∀ {m : Nat} {a : Int} {ys zs : List Int}, Walk A m a ys → Walk A m a zs → ys = zs
  | 0, _, _, _, h, h' => Eq.trans h (Eq.symm h')
  | m + 1, a, [], [], _, _ => rfl
  | m + 1, a, [], z :: zs, h, h' => nomatch IsNext.uniq h h'.1
  | m + 1, a, y :: ys, [], h, h' => nomatch IsNext.uniq h.1 h'
  | m + 1, a, y :: ys, z :: zs, h, h' => by
    obtain rfl : y = z := Option.some.inj (IsNext.uniq h.1 h'.1)
    rw [Walk.uniq h.2 h'.2]
theorem WalkB.uniq {A : Int → Prop} : ∀ {m : Nat} {a : Int} {ys zs : List Int}, WalkB A m a ys → WalkB A m a zs → ys = zs
  | 0, _, _, _, h, h' => Eq.trans h (Eq.symm h')
  | m + 1, a, [], [], _, _ => rfl
  | m + 1, a, [], z :: zs, h, h' => nomatch IsLast.uniq h h'.1
  | m + 1, a, y :: ys, [], h, h' => nomatch IsLast.uniq h.1 h'
  | m + 1, a, y :: ys, z :: zs, h, h' => by
    obtain rfl : y = z := Option.some.inj (IsLast.uniq h.1 h'.1)
    rw [WalkB.uniq h.2 h'.2]
theorem Walk.congr {A B : Int → Prop} (e : ∀ t, A t ↔ B t) {m : Nat} {a : Int} {ys : List Int} (h : Walk A m a ys) : Walk B m a ys := by
  have q : A = B := funext fun t => propext (e t)
  rw [← q]
  exact h
theorem WalkB.congr {A B : Int → Prop} (e : ∀ t, A t ↔ B t) {m : Nat} {a : Int} {ys : List Int} (h : WalkB A m a ys) : WalkB B m a ys := by
  have q : A = B := funext fun t => propext (e t)
  rw [← q]
  exact h
theorem All.congr {A B : Int → Prop} (e : ∀ t, A t ↔ B t) {a : Int} {ys : List Int} (h : All A a ys) : All B a ys := by
  have q : A = B := funext fun t => propext (e t)
  rw [← q]
  exact h
theorem AllB.congr {A B : Int → Prop} (e : ∀ t, A t ↔ B t) {a : Int} {ys : List Int} (h : AllB A a ys) : AllB B a ys := by
  have q : A = B := funext fun t => propext (e t)
  rw [← q]
  exact h
theorem last_turn {A : Int → Prop} {a : Int} {o : Option Int} (h : IsNext (fun t => A (-t)) (-a) o) : IsLast A a (o.map fun x => -x) := by
  cases o with
  | none => exact fun s hs c => h (-s) (by omega) (by show A (- -s); rw [Int.neg_neg]; exact c)
  | some x =>
    obtain ⟨h1, h2, h3⟩ := h
    refine ⟨h1, (by omega : -x ≤ a), fun s hs c => ?_⟩
    have q := h3 (-s) (by omega) (by show A (- -s); rw [Int.neg_neg]; exact c)
    exact (by omega : s ≤ -x)
/-- walking back is walking on in the mirror -/
theorem Walk.turn {A : Int → Prop} : ∀ {m : Nat} {a : Int} {ys : List Int}, Walk (fun t => A (-t)) m (-a) ys → WalkB A m a (ys.map fun x => -x)
  | 0, _, _, h => by
    obtain rfl : _ = [] := h
    rfl
  | m + 1, a, [], h => last_turn (o := none) h
  | m + 1, a, y :: ys, h => by
    refine ⟨last_turn (o := some y) h.1, ?_⟩
    have q := h.2
    have e : y + 1 = -(-y - 1) := by omega
    rw [e] at q
    exact Walk.turn q
theorem Walk.len {A : Int → Prop} : ∀ {m : Nat} {a : Int} {ys : List Int}, Walk A m a ys → ys.length ≤ m
  | 0, _, _, h => by
    obtain rfl : _ = [] := h
    exact Nat.le_refl _
  | m + 1, a, [], h => Nat.zero_le _
  | m + 1, a, y :: ys, h => Nat.succ_le_succ (Walk.len h.2)
end Rn
end

section
set_option maxHeartbeats 4000000
namespace TM
open PySem PySem.Spec PyProof.Rows L2 EW
abbrev NOnw : List Str := ["self", "start", "time"]
theorem Onw : GScope NOnw ["self", "start"] (defScope sOnw) := ⟨rfl, rfl, rfl, by decide +kernel, rfl, by decide +kernel, by decide +kernel⟩
abbrev NHowM : List Str := ["self", "low", "high"]
theorem HowM : FnScope NHowM ["self", "low", "high"] (defScope sHowM) := ⟨rfl, rfl, rfl, by decide +kernel, rfl, by decide +kernel, by decide +kernel⟩
theorem _root_.L2.PS.nox {X : Cx} {st : Stmt} {t : TS} (h : PS X.nox st t) : PS X st t := ⟨fun pins s σ H D I hw => wpAny_mono (h.run pins s σ H D (I.wish _) hw) (fun _ _ q => q.unwish) fun _ _ z => z.elim⟩
def nums (l : List Int) : List V := l.map V.int
theorem nums_len {l : List Int} : (nums l).length = l.length := List.length_map ..
theorem nums_snoc {l : List Int} {x : Int} : nums l ++ [.int x] = nums (l ++ [x]) := by
  unfold nums
  rw [List.map_append]
  rfl
theorem yl {c : Prop} [Decidable c] {A B : Prop} (h1 : c → A) (h2 : ¬ c → B) : if c then A else B := by
  split
  · exact h1 ‹_›
  · exact h2 ‹_›
/-- at most m items of v.onward(a) -/
def spOnZ (K : W.Frag) : SpZ := fun vs H m Q => ∃ (u : V) (p a : Int) (zs : List Rn.Run), vs = [u, .int a] ∧ Ob K (CT K) H u p zs ∧ ∀ (ys : List Int) (H' : Hp), Same H H' → Rn.Walk (Rn.inRuns p zs) m a ys → Q (nums ys) H'
section
variable {P : Program} {w : World} {K : W.Frag} {mg : Str → Option Value} {base : Heap}
theorem gz_onward {fd : FuncData} {dvs : List V} {kws : List (Str × V)} (F : FunD K "onward" "Times.onward" (defArgs sOnw) (defBody sOnw) (defScope sOnw) dvs kws (He.ma K (CT K) "onward") fd) (KT : Kl K mg "Times") (Drequire_integer : Df P w K mg base 2 "require_integer" ["value"] spReqI) (Dnext_in : Df P w K mg base 3 "next_in" ["period", "runs", "time"] (spNext K)) :
    GFnZ P w K mg base 4 (He.ma K (CT K) "onward") fd ["self", "start"] (spOnZ K) := by
  obtain ⟨oc, od, dV, kV, doc, pm, an, cdv, ct, osl, rfl, lk, hcd, _, _⟩ := F.ex
  refine gfnZ_of lk hcd Onw (fun vs H m Q h => ?_) fun A outer s H vs m Q pn hr hm h => ?_
  · obtain ⟨u, p, a, zs, rfl, _⟩ := h
    rfl
  · obtain ⟨u, p, a, zs, rfl, ⟨x, da, la, rfl, hx, R, p1, p2⟩, k⟩ := h
    refine ⟨_, (gzs_cons (gz_ps (ps_expr (pe_df Drequire_integer (hr.mono (by decide)) rfl (pa_cons (pv 1) pa_nil))))
      (gzs_cons (gz_ps (ps_set (i := 2) Onw.nd rfl (Or.inl rfl) (pe_df Dnext_in (hr.mono (by decide)) rfl (pa_cons (pe_fldK K rfl (pv 0)) (pa_cons (pe_fldK K rfl (pv 0)) (pa_cons (pv 1) pa_nil))))))
      (gzs_cons (gz_while (pt_cmp (pc_notN (pv 2))) (gzs_cons (gz_yield (pv 2))
      (gzs_cons (gz_ps (ps_set (i := 2) Onw.nd rfl (Or.inl rfl) (pe_df Dnext_in (hr.mono (by decide)) rfl (pa_cons (pe_fldK K rfl (pv 0)) (pa_cons (pe_fldK K rfl (pv 0)) (pa_cons (pe_op op_add (pv 2) pe_int) pa_nil))))))
      gzs_nil)))
      gzs_nil))), ?_⟩
    refine ⟨_, rfl, a, rfl, ?_⟩
    refine ⟨_, rfl, x, _, da, _, _, rfl, hx, KT.cl, KT.np, rfl, _, rfl, x, _, da, _, _, rfl, hx, KT.cl, KT.nr, rfl, _, rfl, p, a, la, zs, rfl, by omega, R, fun o H1 s1 hn => ?_⟩
    refine ⟨fun ys σ' H' => ∃ (b : Int) (is : List Int) (o : Option Int), ys = nums is ∧ σ' = [some (.ref x), some (.int a), some (ob o)] ∧ Same H H' ∧ is.length < m ∧ Rn.IsNext (Rn.inRuns p zs) b o ∧ ∀ zl, Rn.Walk (Rn.inRuns p zs) (m - is.length) b zl → Rn.Walk (Rn.inRuns p zs) m a (is ++ zl), ⟨a, [], o, rfl, rfl, s1, hm, hn, fun zl h => h⟩, ?_⟩
    rintro ys σ' H' ⟨b, is, o, rfl, rfl, s2, hl, hn, hc⟩
    cases o with
    | none =>
      refine ⟨_, rfl, _, rfl, iteF ?_⟩
      have e : m - is.length = (m - is.length - 1) + 1 := by omega
      have q := hc [] (by rw [e]; exact hn)
      rw [List.append_nil] at q
      exact k is H' s2 q
    | some t =>
      refine ⟨_, rfl, _, rfl, iteT ?_⟩
      refine ⟨_, rfl, ?_⟩
      refine yl (fun he => ?_) (fun he => ?_)
      · rw [nums_len] at he
        show Q (nums is ++ [.int t]) H'
        rw [nums_snoc]
        refine k _ H' s2 (hc [t] ?_)
        have e : m - is.length = 0 + 1 := by omega
        rw [e]
        exact ⟨hn, rfl⟩
      · rw [nums_len] at he
        have hx2 := s2 _ _ hx
        refine ⟨_, rfl, x, _, da, _, _, rfl, hx2, KT.cl, KT.np, rfl, _, rfl, x, _, da, _, _, rfl, hx2, KT.cl, KT.nr, rfl, _, rfl, _, _, rfl, rfl, p, t + 1, la, zs, rfl, by omega, R.same s2, fun o3 H3 s3 hn3 => ?_⟩
        refine ⟨by rw [List.length_append]; simp, t + 1, is ++ [t], o3, nums_snoc, rfl, Same.trans s2 s3, by rw [List.length_append, List.length_singleton]; omega, hn3, fun zl hz => ?_⟩
        rw [List.append_assoc]
        refine hc (t :: zl) ?_
        have e : m - is.length = (m - (is ++ [t]).length) + 1 := by rw [List.length_append, List.length_singleton]; omega
        rw [e]
        exact ⟨hn, hz⟩
/-- all items of v.onward(a), where there is an end -/
def spOnL (K : W.Frag) : SpG := fun vs H Q _ => ∃ (u : V) (p a : Int) (zs : List Rn.Run) (ys : List Int), vs = [u, .int a] ∧ Ob K (CT K) H u p zs ∧ Rn.All (Rn.inRuns p zs) a ys ∧ ys.length ≤ 1000 ∧ ∀ H', Same H H' → Q (nums ys) H'
theorem gl_onward {fd : FuncData} {dvs : List V} {kws : List (Str × V)} (F : FunD K "onward" "Times.onward" (defArgs sOnw) (defBody sOnw) (defScope sOnw) dvs kws (He.ma K (CT K) "onward") fd) (KT : Kl K mg "Times") (Drequire_integer : Df P w K mg base 2 "require_integer" ["value"] spReqI) (Dnext_in : Df P w K mg base 3 "next_in" ["period", "runs", "time"] (spNext K)) :
    GFn P w K mg base 4 (He.ma K (CT K) "onward") fd ["self", "start"] (spOnL K) := by
  obtain ⟨oc, od, dV, kV, doc, pm, an, cdv, ct, osl, rfl, lk, hcd, _, _⟩ := F.ex
  refine gfn_of lk hcd Onw (fun vs H Q E h => ?_) fun A outer s H vs Q E pn hr h => ?_
  · obtain ⟨u, p, a, zs, ys, rfl, _⟩ := h
    rfl
  · obtain ⟨u, p, a, zs, ys, rfl, ⟨x, da, la, rfl, hx, R, p1, p2⟩, hal, hle, k⟩ := h
    refine ⟨_, (gss_cons (gs_ps (PS.nox (ps_expr (pe_df Drequire_integer (hr.mono (by decide)) rfl (pa_cons (pv 1) pa_nil)))))
      (gss_cons (gs_ps (PS.nox (ps_set (i := 2) Onw.nd rfl (Or.inl rfl) (pe_df Dnext_in (hr.mono (by decide)) rfl (pa_cons (pe_fldK K rfl (pv 0)) (pa_cons (pe_fldK K rfl (pv 0)) (pa_cons (pv 1) pa_nil)))))))
      (gss_cons (gs_while owns_gcx (PT.nox (pt_cmp (pc_notN (pv 2)))) (gss_cons (gs_yield (PE.nox (pv 2)))
      (gss_cons (gs_ps (PS.nox (ps_set (i := 2) Onw.nd rfl (Or.inl rfl) (pe_df Dnext_in (hr.mono (by decide)) rfl (pa_cons (pe_fldK K rfl (pv 0)) (pa_cons (pe_fldK K rfl (pv 0)) (pa_cons (pe_op op_add (pv 2) pe_int) pa_nil)))))))
      gss_nil)))
      gss_nil))), ?_⟩
    refine ⟨_, rfl, a, rfl, ?_⟩
    refine ⟨_, rfl, x, _, da, _, _, rfl, hx, KT.cl, KT.np, rfl, _, rfl, x, _, da, _, _, rfl, hx, KT.cl, KT.nr, rfl, _, rfl, p, a, la, zs, rfl, by omega, R, fun o H1 s1 hn => ?_⟩
    refine ⟨fun j yv σ' H' => ∃ (b : Int) (is rest : List Int) (o : Option Int), yv = nums is ∧ σ' = [some (.ref x), some (.int a), some (ob o)] ∧ Same H H' ∧ is ++ rest = ys ∧ j = rest.length ∧ Rn.IsNext (Rn.inRuns p zs) b o ∧ Rn.All (Rn.inRuns p zs) b rest, ⟨_, a, [], ys, o, rfl, rfl, s1, rfl, rfl, hn, hal⟩, ?_⟩
    rintro j yv σ' H' ⟨b, is, rest, o, rfl, rfl, s2, hl, rfl, hn, hc⟩
    cases o with
    | none =>
      refine ⟨_, rfl, _, rfl, iteF ?_⟩
      cases rest with
      | nil =>
        rw [List.append_nil] at hl
        subst hl
        exact k H' s2
      | cons y r => exact nomatch Rn.IsNext.uniq hn hc.1
    | some t =>
      refine ⟨_, rfl, _, rfl, iteT ?_⟩
      cases rest with
      | nil => exact nomatch Rn.IsNext.uniq hn hc
      | cons y r =>
        obtain rfl : t = y := Option.some.inj (Rn.IsNext.uniq hn hc.1)
        have hlen := congrArg List.length hl
        rw [List.length_append, List.length_cons] at hlen
        refine ⟨fun yv' σ' H' => ∃ m', m' < (t :: r).length ∧ ∃ (b : Int) (is rest : List Int) (o : Option Int), yv' = nums is ∧ σ' = [some (.ref x), some (.int a), some (ob o)] ∧ Same H H' ∧ is ++ rest = ys ∧ m' = rest.length ∧ Rn.IsNext (Rn.inRuns p zs) b o ∧ Rn.All (Rn.inRuns p zs) b rest, fun _ _ _ h => h, ?_⟩
        refine ⟨by rw [nums_len]; exact Nat.lt_of_lt_of_le (by omega : is.length < 1001) (by decide), _, rfl, ?_⟩
        have hx2 := s2 _ _ hx
        refine ⟨_, rfl, x, _, da, _, _, rfl, hx2, KT.cl, KT.np, rfl, _, rfl, x, _, da, _, _, rfl, hx2, KT.cl, KT.nr, rfl, _, rfl, _, _, rfl, rfl, p, t + 1, la, zs, rfl, by omega, R.same s2, fun o3 H3 s3 hn3 => ?_⟩
        exact ⟨r.length, by simp, t + 1, is ++ [t], r, o3, nums_snoc, rfl, Same.trans s2 s3, by rw [List.append_assoc]; exact hl, rfl, hn3, hc.2⟩
def spHowM (K : W.Frag) : Sp := fun vs H Q _ => ∃ (u : V) (p a b : Int) (zs : List Rn.Run), vs = [u, .int a, .int b] ∧ Ob K (CT K) H u p zs ∧ ∀ (n : Int) (H' : Hp), Same H H' → n = (Rn.cnt (Rn.inRuns p zs) a b : Int) → Q (.int n) H'
theorem ok_howm {fd : FuncData} (F : FunD K "how_many" "Times.how_many" (defArgs sHowM) (defBody sHowM) (defScope sHowM) [] [] (He.ma K (CT K) "how_many") fd) (KT : Kl K mg "Times") (Drequire_integer : Df P w K mg base 2 "require_integer" ["value"] spReqI) (Dmany_in : Df P w K mg base 3 "many_in" ["period", "runs", "low", "high"] (spMany K)) :
    FnOk P w K mg base CX0 4 (He.ma K (CT K) "how_many") fd ["self", "low", "high"] (spHowM K) := by
  refine F.ok HowM (fun vs H Q E h => ?_) (fun cdv A outer s H vs Q E hr h => ?_)
  · obtain ⟨u, p, a, b, zs, rfl, _⟩ := h
    rfl
  · obtain ⟨u, p, a, b, zs, rfl, ⟨x, da, la, rfl, hx, R, p1, p2⟩, k⟩ := h
    refine ⟨_, PSs.nox (pss_cons (ps_expr (pe_df Drequire_integer (hr.mono (by decide)) rfl (pa_cons (pv 1) pa_nil)))
      (pss_cons (ps_expr (pe_df Drequire_integer (hr.mono (by decide)) rfl (pa_cons (pv 2) pa_nil)))
      (pss_one (ps_ret (pe_df Dmany_in (hr.mono (by decide)) rfl (pa_cons (pe_fldK K rfl (pv 0)) (pa_cons (pe_fldK K rfl (pv 0)) (pa_cons (pv 1) (pa_cons (pv 2) pa_nil))))))))), ?_⟩
    refine ⟨_, rfl, a, rfl, _, rfl, b, rfl, ?_⟩
    exact ⟨_, rfl, x, _, da, _, _, rfl, hx, KT.cl, KT.np, rfl, _, rfl, x, _, da, _, _, rfl, hx, KT.cl, KT.nr, rfl, _, rfl, _, rfl, p, a, b, la, zs, rfl, by omega, p2, R, k⟩
end
end TM
end

section
set_option maxHeartbeats 4000000
namespace TM
open PySem PySem.Spec PyProof.Rows L2 EW
/-! ### the draws -/
theorem bits58 : (Builtin.Int.intBits ((10 : Int) ^ (58 : Int).toNat) : Int) * 11 ≤ 2 ^ 27 := by decide +kernel
abbrev MOD : Int := ((10 : Int) ^ (58 : Int).toNat) ^ (11 : Int).toNat
theorem mod_pos : 0 < MOD := by decide +kernel
theorem mod_lt : MOD < 2 ^ 2200 := by decide +kernel
theorem great_ok (n : Int) : 0 ≤ n % MOD ∧ n % MOD < 2 ^ 2200 := ⟨Int.emod_nonneg _ (Int.ne_of_gt mod_pos), Int.lt_trans (Int.emod_lt_of_pos _ mod_pos) mod_lt⟩
theorem two_ok {q one c : Int} (p0 : 0 ≤ q) (p1 : q < 36028797018963913) (o0 : 0 ≤ one) (o1 : one < 72057594037927931) (h0 : 0 ≤ c) (h1 : c ≤ 2000000) : (q * one + 15485863 * c).natAbs < 2 ^ 130 := by
  have t1 : q * one ≤ 36028797018963913 * 72057594037927931 := Int.mul_le_mul (by omega) (by omega) o0 (by decide)
  have t0 : 0 ≤ q * one := Int.mul_nonneg p0 o0
  omega
def spDice (K : W.Frag) : Sp := fun vs H Q _ => ∃ (a : Addr) (ns : List Int) (s : Int), vs = [.ref a, .int s] ∧ SqL K H a (ns.map V.int) ∧ 0 ≤ s ∧
  ∀ (d : Addr) (H' : Hp), H d = none → Same H H' → Dc H' d 0 → Q (.ref d) H'
def spRoll : Sp := fun vs H Q _ => ∃ (d : Addr) (m n : Int), vs = [.ref d, .int m] ∧ Dc H d n ∧ n ≤ 1000000 ∧ 0 < m ∧ m < 2 ^ 200 ∧
  ∀ (r : Int) (H' : Hp), 0 ≤ r → r < m → Kept d H H' → Dc H' d (n + 1) → Q (.int r) H'
abbrev NDice : List Str := ["_law_script", "_law_spot", "_law_cell", "_law_great", "_law_blend"]
theorem Dice : FnScope NDice ["_law_script", "_law_spot"] (defScope sDice) := ⟨rfl, rfl, rfl, by decide +kernel, rfl, by decide +kernel, by decide +kernel⟩
abbrev NRoll : List Str := ["_law_dice_here", "_law_many", "_law_found", "_law_one", "_law_two"]
theorem Roll : FnScope NRoll ["_law_dice_here", "_law_many"] (defScope sRoll) := ⟨rfl, rfl, rfl, by decide +kernel, rfl, by decide +kernel, by decide +kernel⟩
abbrev NPick : List Str := ["_law_dice_here", "_law_items"]
theorem Pick : FnScope NPick ["_law_dice_here", "_law_items"] (defScope sPick) := ⟨rfl, rfl, rfl, by decide +kernel, rfl, by decide +kernel, by decide +kernel⟩
theorem sqL_kept {K : W.Frag} {H H' : Hp} {l d : Addr} {xs : List V} (h : SqL K H l xs) (n : l ≠ d) (k : EW.Kept d H H') : SqL K H' l xs := by
  rcases h with (h | ⟨o, h⟩) | h
  · exact .inl (.inl (k _ _ n h))
  · exact .inl (.inr ⟨o, k _ _ n h⟩)
  · exact .inr h
def spPick (K : W.Frag) : Sp := fun vs H Q _ => ∃ (d l : Addr) (xs : List V) (n : Int), vs = [.ref d, .ref l] ∧ Dc H d n ∧ n ≤ 1000000 ∧ SqL K H l xs ∧ l ≠ d ∧ 0 < xs.length ∧ xs.length < 1000 ∧
  ∀ (v : V) (H' : Hp), v ∈ xs → EW.Kept d H H' → Dc H' d (n + 1) → Q v H'
section
variable {P : Program} {w : World} {K : W.Frag} {mg : Str → Option Value} {base : Heap}
/-- what stands behind the drawn cell -/
theorem dice_end {H : Hp} {Q : VK} {great bl : Int} (k : ∀ (d : Addr) (H' : Hp), H d = none → Same H H' → Dc H' d 0 → Q (.ref d) H') (hg : 0 ≤ great ∧ great < 2 ^ 2200) (d : Addr) (hd : H d = none) (m : Int) (hm : m = if great - 10 ^ (18 : Int).toNat > 0 then great - 10 ^ (18 : Int).toNat else 0) :
    Q (.ref d) (upd H d (.lst [.int m, .int (bl % 2305843009213693907), .int 0])) := by
  refine k d _ hd (fun b o e => by rw [upd_ne (ne_of_none e hd)]; exact e) ⟨m, bl % 2305843009213693907, 0, upd_same, ?_, ?_, Int.emod_nonneg _ (by decide), ?_, Int.le_refl _, Int.le_refl _⟩
  · rw [hm]
    split <;> omega
  · have z : (0 : Int) ≤ 10 ^ (18 : Int).toNat := by decide +kernel
    have z2 : (0 : Int) < 2 ^ 2200 := by decide +kernel
    rw [hm]
    split <;> omega
  · have z := Int.emod_lt_of_pos bl (show (0 : Int) < 2305843009213693907 by decide)
    omega
theorem ok_dice {fd : FuncData} (F : FnP K "_law_dice" sDice fd) (T : Fre mg) : FnOk P w K mg base CX0 1 (He.ga K "_law_dice") fd ["_law_script", "_law_spot"] (spDice K) := by
  refine F.ok Dice (fun vs H Q E h => ?_) (fun cdv A outer s H vs Q E hr h => ?_)
  · obtain ⟨a, ns, s, rfl, _⟩ := h
    rfl
  · obtain ⟨a, ns, sp, rfl, hS, h0, k⟩ := h
    refine ⟨_, PSs.nox (pss_cons (ps_set (i := 2) Dice.nd rfl (Or.inl rfl) (pe_op op_add (pe_op op_mul pe_int (pv 1)) pe_int))
      (pss_cons (ps_if (pt_cmpR op_lt (pv 1) (pe_callB (call_lenK K rfl) (by rfl) T.len PySem.boot_len (pa_cons (pv 0) pa_nil)) (nomark _)) (pss_one (ps_set (i := 2) Dice.nd rfl (Or.inl rfl) (pe_ix (ix_listK K rfl) (pv 0) (pv 1) (fun _ _ => rfl)))) pss_nil)
      (pss_cons (ps_set (i := 3) Dice.nd rfl (Or.inl rfl) (pe_op op_mod (pe_callTy call_int1 (by rfl) T.int EW.boot_int (pa_cons (pe_callB call_abs (by rfl) T.abs EW.boot_abs (pa_cons (pv 2) pa_nil)) pa_nil)) (pe_op op_powW (pe_op op_pow pe_int pe_int) pe_int)))
      (pss_cons (ps_set (i := 4) Dice.nd rfl (Or.inl rfl) (pe_op op_mul (pe_op op_mod (pe_callTy call_int1 (by rfl) T.int EW.boot_int (pa_cons (pv 3) pa_nil)) pe_int) pe_int))
      (pss_cons (ps_set (i := 4) Dice.nd rfl (Or.inl rfl) (pe_op op_add (pe_op op_add (pe_op op_add (pv 4) (pe_op op_mul pe_int (pv 1))) (pe_op op_mul pe_int (pe_callTy call_int1 (by rfl) T.int EW.boot_int (pa_cons (pe_cmpR op_lt (pv 2) pe_int (nomark _)) pa_nil)))) pe_int))
      (pss_one (ps_ret (pe_lst (pa_cons (pe_callB (call_max2 rfl) (by rfl) T.max EW.boot_max (pa_cons pe_int (pa_cons (pe_op op_sub (pv 3) (pe_op op_pow pe_int pe_int)) pa_nil))) (pa_cons (pe_op op_mod (pe_callTy call_int1 (by rfl) T.int EW.boot_int (pa_cons (pv 4) pa_nil)) pe_int) (pa_cons pe_int pa_nil))))))))))), ?_⟩
    refine ⟨_, rfl, _, _, rfl, rfl, .inl ⟨by decide, by decide⟩, _, _, rfl, rfl, ?_⟩
    refine ⟨_, rfl, _, rfl, _, (ns.map V.int).length, rfl, Or.inl ⟨_, hS, rfl⟩, _, _, rfl, rfl, _, rfl, ?_⟩
    refine ite2 (fun c => ?_) (fun c => ?_)
    · have c' : sp < ((ns.map V.int).length : Int) := of_decide_eq_true c
      rw [List.length_map] at c'
      obtain ⟨j, rfl⟩ : ∃ j : Nat, sp = (j : Int) := ⟨sp.toNat, by omega⟩
      have hj : j < ns.length := by omega
      have ej : (ns.map V.int)[j]? = some (V.int ns[j]) := by
        rw [List.getElem?_map, List.getElem?_eq_getElem hj]
        rfl
      refine ⟨_, rfl, _, rfl, a, _, _, _, rfl, rfl, hS, atI_nat ej, ?_⟩
      refine ⟨_, rfl, _, rfl, Or.inl ⟨_, rfl, _, _, rfl, rfl, ⟨by decide, by decide, by decide⟩, _, _, rfl, rfl, ⟨by decide, bits58⟩, _, _, rfl, rfl, mod_pos, ?_⟩⟩
      refine ⟨_, rfl, Or.inl ⟨_, rfl, _, _, rfl, rfl, (by show (0 : Int) < 2305843009213693921; decide), _, _, rfl, rfl, .inr ⟨by decide, by decide⟩, ?_⟩⟩
      refine ⟨_, rfl, _, rfl, _, _, rfl, rfl, .inl ⟨by decide, by decide⟩, _, _, rfl, rfl, _, rfl, _, _, rfl, rfl, Or.inr ⟨_, rfl, _, _, rfl, rfl, .inl ⟨by decide, by decide⟩, _, _, rfl, rfl, _, _, rfl, rfl, ?_⟩⟩
      refine ⟨_, rfl, _, _, rfl, rfl, ⟨by decide, by decide, by decide⟩, _, _, rfl, rfl, _, _, rfl, ?_⟩
      refine ⟨_, rfl, Or.inl ⟨_, rfl, _, _, rfl, rfl, (by show (0 : Int) < 2305843009213693907; decide), (by show 3 ≤ sizeLine; decide), fun d hd => ?_⟩⟩
      exact dice_end k (great_ok _) d hd _ rfl
    · refine ⟨_, rfl, _, rfl, Or.inl ⟨_, rfl, _, _, rfl, rfl, ⟨by decide, by decide, by decide⟩, _, _, rfl, rfl, ⟨by decide, bits58⟩, _, _, rfl, rfl, mod_pos, ?_⟩⟩
      refine ⟨_, rfl, Or.inl ⟨_, rfl, _, _, rfl, rfl, (by show (0 : Int) < 2305843009213693921; decide), _, _, rfl, rfl, .inr ⟨by decide, by decide⟩, ?_⟩⟩
      refine ⟨_, rfl, _, rfl, _, _, rfl, rfl, .inl ⟨by decide, by decide⟩, _, _, rfl, rfl, _, rfl, _, _, rfl, rfl, Or.inr ⟨_, rfl, _, _, rfl, rfl, .inl ⟨by decide, by decide⟩, _, _, rfl, rfl, _, _, rfl, rfl, ?_⟩⟩
      refine ⟨_, rfl, _, _, rfl, rfl, ⟨by decide, by decide, by decide⟩, _, _, rfl, rfl, _, _, rfl, ?_⟩
      refine ⟨_, rfl, Or.inl ⟨_, rfl, _, _, rfl, rfl, (by show (0 : Int) < 2305843009213693907; decide), (by show 3 ≤ sizeLine; decide), fun d hd => ?_⟩⟩
      exact dice_end k (great_ok _) d hd _ rfl
theorem ok_roll {fd : FuncData} (F : FnP K "_law_roll" sRoll fd) (T : Fre mg) : FnOk P w K mg base CX0 1 (He.ga K "_law_roll") fd ["_law_dice_here", "_law_many"] spRoll := by
  refine F.ok Roll (fun vs H Q E h => ?_) (fun cdv A outer s H vs Q E hr h => ?_)
  · obtain ⟨d, m, n, rfl, _⟩ := h
    rfl
  · obtain ⟨d, m, n, rfl, D, hn, h0, h1, k⟩ := h
    refine ⟨_, PSs.nox (pss_cons (ps_if (pt_cmpR op_gt (pe_ix (ix_listK K rfl) (pv 0) pe_int (fun _ _ => rfl)) pe_int (nomark _)) (pss_cons (ps_set (i := 2) Roll.nd rfl (Or.inl rfl) (pe_op op_mod (pe_callTy call_int1 (by rfl) T.int EW.boot_int (pa_cons (pe_ix (ix_listK K rfl) (pv 0) pe_int (fun _ _ => rfl)) pa_nil)) (pv 1)))
      (pss_cons (ps_asg (pe_op op_fdivW (pe_ix (ix_listK K rfl) (pv 0) pe_int (fun _ _ => rfl)) (pv 1)) (pg_sub (pv 0) pe_int set_list))
      (pss_one (ps_ret (pv 2))))) pss_nil)
      (pss_cons (ps_asg (pe_op op_add (pe_ix (ix_listK K rfl) (pv 0) pe_int (fun _ _ => rfl)) pe_int) (pg_sub (pv 0) pe_int set_list))
      (pss_cons (ps_set (i := 3) Roll.nd rfl (Or.inl rfl) (pe_op op_mod (pe_callTy call_int1 (by rfl) T.int EW.boot_int (pa_cons (pe_op op_add (pe_ix (ix_listK K rfl) (pv 0) pe_int (fun _ _ => rfl)) (pe_op op_mul pe_int (pe_ix (ix_listK K rfl) (pv 0) pe_int (fun _ _ => rfl)))) pa_nil)) pe_int))
      (pss_cons (ps_set (i := 4) Roll.nd rfl (Or.inl rfl) (pe_op op_add (pe_op op_mul (pe_op op_mod (pe_callTy call_int1 (by rfl) T.int EW.boot_int (pa_cons (pe_op op_mul (pv 3) (pv 3)) pa_nil)) pe_int) (pv 3)) (pe_op op_mul pe_int (pe_ix (ix_listK K rfl) (pv 0) pe_int (fun _ _ => rfl)))))
      (pss_one (ps_ret (pe_op op_mod (pe_callTy call_int1 (by rfl) T.int EW.boot_int (pa_cons (pe_op op_fdivW (pe_op op_mod (pe_callTy call_int1 (by rfl) T.int EW.boot_int (pa_cons (pe_op op_add (pe_op op_mulW (pv 4) (pv 4)) (pe_ix (ix_listK K rfl) (pv 0) pe_int (fun _ _ => rfl))) pa_nil)) pe_int) pe_int) pa_nil)) (pv 1)))))))), ?_⟩
    obtain ⟨g, b, c, hd, hg0, hg1, hb0, hb1, hc0, hc1⟩ := D
    have sq : ∀ {g b c : Int} {H : Hp}, H d = some (.lst [.int g, .int b, .int c]) → SqL K H d [.int g, .int b, .int c] := fun h => SqL.of h
    refine ⟨_, rfl, d, _, _, _, rfl, rfl, sq hd, rfl, _, _, rfl, rfl, _, rfl, ?_⟩
    refine ite2 (fun q => ?_) (fun q => ?_)
    · refine ⟨_, rfl, d, _, _, _, rfl, rfl, sq hd, rfl, Or.inl ⟨_, rfl, ?_⟩⟩
      refine ⟨_, rfl, _, _, rfl, rfl, h0, ?_⟩
      refine ⟨_, rfl, d, _, _, _, rfl, rfl, sq hd, rfl, _, rfl, _, _, rfl, rfl, wide_div h0 (b := 200) (by omega) (by decide) (by decide), ?_⟩
      refine ⟨_, rfl, d, _, _, 0, rfl, rfl, hd, rfl, ?_⟩
      refine ⟨_, rfl, ?_⟩
      refine k _ _ (Int.emod_nonneg _ (by omega)) (Int.emod_lt_of_pos _ h0) Kept.upd ⟨g / m, b, c, upd_same, Int.ediv_nonneg hg0 (by omega), ?_, hb0, hb1, hc0, by omega⟩
      exact Int.lt_of_le_of_lt (Int.ediv_le_self _ hg0) hg1
    · have hc2 : H d = some (.lst [.int g, .int b, .int c]) := hd
      refine ⟨_, rfl, d, _, _, _, rfl, rfl, sq hd, rfl, _, _, rfl, rfl, _, rfl, d, _, _, 2, rfl, rfl, hd, rfl, ?_⟩
      have e1 : (upd H d (.lst ([V.int g, V.int b, V.int c].set 2 (.int (c + 1))))) d = some (.lst [.int g, .int b, .int (c + 1)]) := upd_same
      refine ⟨_, rfl, d, _, _, _, rfl, rfl, sq e1, rfl, _, rfl, d, _, _, _, rfl, rfl, sq e1, rfl, _, _, rfl, rfl, .inl ⟨by decide, by decide⟩, _, _, rfl, rfl, Or.inl ⟨_, rfl, _, _, rfl, rfl, (by show (0 : Int) < 72057594037927931; decide), ?_⟩⟩
      have o0 := Int.emod_nonneg (b + 1000000403 * (c + 1)) (show (72057594037927931 : Int) ≠ 0 by decide)
      have o1 := Int.emod_lt_of_pos (b + 1000000403 * (c + 1)) (show (0 : Int) < 72057594037927931 by decide)
      refine ⟨_, rfl, _, rfl, _, _, rfl, rfl, .inl ⟨by omega, by omega⟩, Or.inl ⟨_, rfl, _, _, rfl, rfl, (by show (0 : Int) < 36028797018963913; decide), ?_⟩⟩
      have p0 := Int.emod_nonneg ((b + 1000000403 * (c + 1)) % 72057594037927931 * ((b + 1000000403 * (c + 1)) % 72057594037927931)) (show (36028797018963913 : Int) ≠ 0 by decide)
      have p1 := Int.emod_lt_of_pos ((b + 1000000403 * (c + 1)) % 72057594037927931 * ((b + 1000000403 * (c + 1)) % 72057594037927931)) (show (0 : Int) < 36028797018963913 by decide)
      refine ⟨_, rfl, _, _, rfl, rfl, .inl ⟨by omega, by omega⟩, _, rfl, d, _, _, _, rfl, rfl, sq e1, rfl, _, _, rfl, rfl, .inl ⟨by decide, by decide⟩, _, _, rfl, rfl, ?_⟩
      have two_lt := two_ok p0 p1 o0 o1 (c := c + 1) (by omega) (by omega)
      refine ⟨_, rfl, _, rfl, _, _, rfl, rfl, wide_mul (a := 130) (b := 130) two_lt two_lt (by decide) (by decide) (by decide), ?_⟩
      refine ⟨_, rfl, d, _, _, _, rfl, rfl, sq e1, rfl, _, _, rfl, rfl, Or.inl ⟨_, rfl, _, _, rfl, rfl, (by show (0 : Int) < 1152921504606846883; decide), _, _, rfl, rfl, ⟨by decide, by decide⟩, Or.inl ⟨_, rfl, ?_⟩⟩⟩
      refine ⟨_, rfl, _, _, rfl, rfl, h0, ?_⟩
      exact k _ _ (Int.emod_nonneg _ (by omega)) (Int.emod_lt_of_pos _ h0) Kept.upd ⟨g, b, c + 1, e1, hg0, hg1, hb0, hb1, by omega, by omega⟩
theorem ok_pick {fd : FuncData} (F : FnP K "_law_pick" sPick fd) (T : Fre mg) (D_law_roll : Df P w K mg base 1 "_law_roll" ["_law_dice_here", "_law_many"] spRoll) : FnOk P w K mg base CX0 2 (He.ga K "_law_pick") fd ["_law_dice_here", "_law_items"] (spPick K) := by
  refine F.ok Pick (fun vs H Q E h => ?_) (fun cdv A outer s H vs Q E hr h => ?_)
  · obtain ⟨d, l, xs, n, rfl, _⟩ := h
    rfl
  · obtain ⟨d, l, xs, n, rfl, D, hn, hS, ne, h0, h1, k⟩ := h
    refine ⟨_, PSs.nox (pss_one (ps_ret (pe_ix (ix_listK K rfl) (pv 1) (pe_df D_law_roll (hr.mono (by decide)) rfl (pa_cons (pv 0) (pa_cons (pe_callB (call_lenK K rfl) (by rfl) T.len PySem.boot_len (pa_cons (pv 1) pa_nil)) pa_nil))) (fun _ _ => rfl)))), ?_⟩
    refine ⟨_, rfl, _, rfl, _, rfl, _, xs.length, rfl, Or.inl ⟨_, hS, rfl⟩, ?_⟩
    refine ⟨d, _, n, rfl, D, hn, by omega, by omega, fun r H' r0 r1 kp D' => ?_⟩
    obtain ⟨j, rfl⟩ : ∃ j : Nat, r = (j : Int) := ⟨r.toNat, by omega⟩
    have hj : j < xs.length := by omega
    exact ⟨l, xs, _, _, rfl, rfl, sqL_kept hS ne kp, atI_nat (List.getElem?_eq_getElem hj), k _ _ (List.getElem_mem hj) kp D'⟩
end
end TM
end

section
set_option maxHeartbeats 4000000
namespace EW
open PySem PySem.Spec PyProof.Rows L2
theorem Dc.same {H H' : Hp} {d : Addr} {n : Int} (h : Dc H d n) (s : Same H H') : Dc H' d n := by
  obtain ⟨g, b, c, h1, r⟩ := h
  exact ⟨g, b, c, s _ _ h1, r⟩
theorem Dc.lst {H : Hp} {d : Addr} {n : Int} (h : Dc H d n) : ∃ xs, H d = some (.lst xs) := by
  obtain ⟨g, b, c, h1, _⟩ := h
  exact ⟨_, h1⟩
theorem kept_of {d : Addr} {H H' : Hp} (s : Same H H') : Kept d H H' := fun a o _ e => s a o e
/-- tuples put together, sealed -/
theorem op_catTS {X : Cx} (K : W.Frag) (h : X.K = K) : OpR X (binaryOp .Add) (fun x y H Q => ∃ (a b : Addr) (xs ys : List V), x = .ref a ∧ y = .ref b ∧ SqT K H a xs ∧ SqT K H b ys ∧ xs ≠ [] ∧ ys ≠ [] ∧ xs.length + ys.length ≤ sizeLine ∧ New H (fun _ => .tup (xs ++ ys)) Q) := by
  subst h
  intro pins s σ H x y v u Q I rx ry h
  obtain ⟨a, b, xs, ys, h1, h2, h3, h4, h5, h6, h7, h8⟩ := h
  exact op_catT pins s σ H x y v u Q I rx ry ⟨a, b, xs, ys, h1, h2, h3, h4, h5, h7, fun z => absurd z h6, fun _ p hp => h8.at hp⟩
end EW
namespace TM
open PySem PySem.Spec PyProof.Rows L2 EW
abbrev NNear : List Str := ["_law_dice_here", "_law_far"]
theorem Near : FnScope NNear ["_law_dice_here", "_law_far"] (defScope sNear) := ⟨rfl, rfl, rfl, by decide +kernel, rfl, by decide +kernel, by decide +kernel⟩
abbrev NBound : List Str := ["_law_dice_here", "_law_far", "_law_way"]
theorem Bound : FnScope NBound ["_law_dice_here", "_law_far"] (defScope sBound) := ⟨rfl, rfl, rfl, by decide +kernel, rfl, by decide +kernel, by decide +kernel⟩
abbrev NPair : List Str := ["_law_dice_here", "_law_far", "_law_one", "_law_two"]
theorem Pair : FnScope NPair ["_law_dice_here", "_law_far"] (defScope sPair) := ⟨rfl, rfl, rfl, by decide +kernel, rfl, by decide +kernel, by decide +kernel⟩
abbrev NResidue : List Str := ["_law_dice_here", "_law_period_here"]
theorem Residue : FnScope NResidue ["_law_dice_here", "_law_period_here"] (defScope sResidue) := ⟨rfl, rfl, rfl, by decide +kernel, rfl, by decide +kernel, by decide +kernel⟩
abbrev NSpan : List Str := ["_law_dice_here", "_law_period_here", "_law_far", "_law_residue_here"]
theorem Span : FnScope NSpan ["_law_dice_here", "_law_period_here", "_law_far"] (defScope sSpan) := ⟨rfl, rfl, rfl, by decide +kernel, rfl, by decide +kernel, by decide +kernel⟩
abbrev NPeriodL : List Str := ["_law_dice_here"]
theorem PeriodL : FnScope NPeriodL ["_law_dice_here"] (defScope sPeriodL) := ⟨rfl, rfl, rfl, by decide +kernel, rfl, by decide +kernel, by decide +kernel⟩
abbrev NSpansL : List Str := ["_law_dice_here", "_law_period_here", "_law_most", "_law_turn"]
theorem SpansL : FnScope NSpansL ["_law_dice_here", "_law_period_here", "_law_most"] (defScope sSpansL) := ⟨rfl, rfl, rfl, by decide +kernel, rfl, by decide +kernel, by decide +kernel⟩
/-- a bound that is not too far -/
def Nr (o : Option Int) : Prop := ∀ i, o = some i → -1000000000000 ≤ i ∧ i ≤ 1000000000000
def spNear : Sp := fun vs H Q _ => ∃ (d : Addr) (f n : Int), vs = [.ref d, .int f] ∧ Dc H d n ∧ n ≤ 1000000 ∧ 0 ≤ f ∧ f ≤ 1000 ∧ ∀ (i : Int) (H' : Hp), -f ≤ i → i ≤ f → EW.Kept d H H' → Dc H' d (n + 1) → Q (.int i) H'
def spBoundL : Sp := fun vs H Q _ => ∃ (d : Addr) (f n : Int), vs = [.ref d, .int f] ∧ Dc H d n ∧ n + 3 ≤ 1000000 ∧ 0 ≤ f ∧ f ≤ 1000 ∧ ∀ (o : Option Int) (H' : Hp), Nr o → EW.Kept d H H' → Dc H' d (n + 3) → Q (ob o) H'
def spPair : Sp := fun vs H Q _ => ∃ (d : Addr) (f n : Int), vs = [.ref d, .int f] ∧ Dc H d n ∧ n + 7 ≤ 1000000 ∧ 0 ≤ f ∧ f ≤ 1000 ∧ ∀ (q : Addr) (lo hi : Option Int) (H' : Hp), Nr lo → Nr hi → EW.Kept d H H' → Dc H' d (n + 7) → H' q = some (.tup [ob lo, ob hi]) → Q (.ref q) H'
def spResidue : Sp := fun vs H Q _ => ∃ (d : Addr) (p n : Int), vs = [.ref d, .int p] ∧ Dc H d n ∧ n + 2 ≤ 1000000 ∧ 1 ≤ p ∧ p ≤ 400 ∧ ∀ (o : Option Int) (H' : Hp), (∀ r, o = some r → 0 ≤ r ∧ r < p) → EW.Kept d H H' → Dc H' d (n + 2) → Q (ob o) H'
/-- a drawn span -/
def Sok (p : Int) (s : Rn.Sp3) : Prop := Rn.SpOk p s ∧ Nr s.lo ∧ Nr s.hi
def spSpanL : Sp := fun vs H Q _ => ∃ (d : Addr) (p f n : Int), vs = [.ref d, .int p, .int f] ∧ Dc H d n ∧ n + 9 ≤ 1000000 ∧ 1 ≤ p ∧ p ≤ 400 ∧ 0 ≤ f ∧ f ≤ 1000 ∧ ∀ (q : Addr) (s : Rn.Sp3) (H' : Hp), Sok p s → EW.Kept d H H' → Dc H' d (n + 9) → H' q = some (.tup [ob s.res, ob s.lo, ob s.hi]) → Q (.ref q) H'
def spPeriodL : Sp := fun vs H Q _ => ∃ (d : Addr) (n : Int), vs = [.ref d] ∧ Dc H d n ∧ n + 1 ≤ 1000000 ∧ ∀ (p : Int) (H' : Hp), 1 ≤ p → p ≤ 12 → EW.Kept d H H' → Dc H' d (n + 1) → Q (.int p) H'
def spSpansL (K : W.Frag) : Sp := fun vs H Q _ => ∃ (d : Addr) (p m n : Int), vs = [.ref d, .int p, .int m] ∧ Dc H d n ∧ n + 100 ≤ 1000000 ∧ 1 ≤ p ∧ p ≤ 400 ∧ 0 ≤ m ∧ m ≤ 10 ∧
  ∀ (l : Addr) (xs : List V) (ss : List Rn.Sp3) (H' : Hp), H l = none → (∀ s ∈ ss, Sok p s) → (ss.length : Int) ≤ m → EW.Kept d H H' → Dc H' d (n + 100) → H' l = some (.lst xs) → Sns K H' xs ss → Q (.ref l) H'
section
variable {P : Program} {w : World} {K : W.Frag} {mg : Str → Option Value} {base : Heap}
theorem ok_near {fd : FuncData} (F : FnP K "_law_near" sNear fd) (D_law_roll : Df P w K mg base 1 "_law_roll" ["_law_dice_here", "_law_many"] spRoll) : FnOk P w K mg base CX0 2 (He.ga K "_law_near") fd ["_law_dice_here", "_law_far"] spNear := by
  refine F.ok Near (fun vs H Q E h => ?_) (fun cdv A outer s H vs Q E hr h => ?_)
  · obtain ⟨d, f, n, rfl, _⟩ := h
    rfl
  · obtain ⟨d, f, n, rfl, D, hn, f0, f1, k⟩ := h
    refine ⟨_, PSs.nox (pss_one (ps_ret (pe_op op_sub (pe_df D_law_roll (hr.mono (by decide)) rfl (pa_cons (pv 0) (pa_cons (pe_op op_add (pe_op op_mul pe_int (pv 1)) pe_int) pa_nil))) (pv 1)))), ?_⟩
    refine ⟨_, rfl, _, rfl, _, _, rfl, rfl, .inl ⟨by decide, by decide⟩, _, _, rfl, rfl, d, _, n, rfl, D, hn, by omega, by omega, fun r H1 r0 r1 k1 D1 => ?_⟩
    exact ⟨_, rfl, _, _, rfl, rfl, k _ H1 (by omega) (by omega) k1 D1⟩
theorem ok_boundL {fd : FuncData} (F : FnP K "_law_bound" sBound fd) (D_law_roll : Df P w K mg base 1 "_law_roll" ["_law_dice_here", "_law_many"] spRoll) (D_law_near : Df P w K mg base 2 "_law_near" ["_law_dice_here", "_law_far"] spNear) (D_law_pick : Df P w K mg base 2 "_law_pick" ["_law_dice_here", "_law_items"] (spPick K)) :
    FnOk P w K mg base CX0 3 (He.ga K "_law_bound") fd ["_law_dice_here", "_law_far"] spBoundL := by
  refine F.ok Bound (fun vs H Q E h => ?_) (fun cdv A outer s H vs Q E hr h => ?_)
  · obtain ⟨d, f, n, rfl, _⟩ := h
    rfl
  · obtain ⟨d, f, n, rfl, D, hn, f0, f1, k⟩ := h
    refine ⟨_, PSs.nox (pss_cons (ps_set (i := 2) Bound.nd rfl (Or.inl rfl) (pe_df D_law_roll (hr.mono (by decide)) rfl (pa_cons (pv 0) (pa_cons pe_int pa_nil))))
      (pss_cons (ps_if (pt_cmpR op_lt (pv 2) pe_int (nomark _)) (pss_one (ps_ret pe_non)) pss_nil)
      (pss_cons (ps_if (pt_cmpR op_lt (pv 2) pe_int (nomark _)) (pss_one (ps_ret (pe_df D_law_near (hr.mono (by decide)) rfl (pa_cons (pv 0) (pa_cons (pv 1) pa_nil))))) pss_nil)
      (pss_one (ps_ret (pe_op op_mul (pe_df D_law_pick (hr.mono (by decide)) rfl (pa_cons (pv 0) (pa_cons (pe_lstS (pa_cons pe_int (pa_cons (pe_un un_neg pe_int) pa_nil))) pa_nil))) (pe_op op_add (pe_op op_pow pe_int pe_int) (pe_df D_law_roll (hr.mono (by decide)) rfl (pa_cons (pv 0) (pa_cons pe_int pa_nil)))))))))), ?_⟩
    refine ⟨_, rfl, d, 12, n, rfl, D, by omega, by decide, by decide, fun r H1 r0 r1 k1 D1 => ?_⟩
    refine ⟨_, rfl, _, _, rfl, rfl, _, rfl, ite2 (fun _ => ?_) fun _ => ?_⟩
    · exact k none H1 (fun i e => by cases e) k1 (D1.mono (by omega))
    · refine ⟨_, rfl, _, _, rfl, rfl, _, rfl, ite2 (fun _ => ?_) fun _ => ?_⟩
      · refine ⟨_, rfl, _, rfl, d, f, _, rfl, D1, by omega, f0, f1, fun i H2 i0 i1 k2 D2 => ?_⟩
        exact k (some i) H2 (fun j e => by cases e; omega) (k1.trans k2) (D2.mono (by omega))
      · refine ⟨_, rfl, _, rfl, (by show 2 ≤ sizeLine; decide), fun q H2 n2 s2 e2 => ?_⟩
        refine ⟨d, q, _, _, rfl, D1.same s2, by omega, SqL.of e2, D1.nn n2, by decide, by decide, fun v H3 hv k3 D3 => ?_⟩
        refine ⟨_, _, rfl, rfl, ⟨by decide, by decide, by decide⟩, _, rfl, d, 1000, _, rfl, D3, by omega, by decide, by decide, fun r2 H4 r20 r21 k4 D4 => ?_⟩
        refine ⟨_, _, rfl, rfl, ?_⟩
        have e11 : (10 : Int) ^ (11 : Int).toNat = 100000000000 := by decide +kernel
        have kk := k1.trans ((kept_of s2).trans (k3.trans k4))
        simp only [List.mem_cons, List.not_mem_nil, or_false] at hv
        rcases hv with rfl | rfl
        · refine ⟨_, _, rfl, rfl, .inl ⟨by decide, by decide⟩, k (some _) H4 (fun j e => ?_) kk (D4.mono (by omega))⟩
          injection e with e
          omega
        · refine ⟨_, _, rfl, rfl, .inl ⟨by decide, by decide⟩, k (some _) H4 (fun j e => ?_) kk (D4.mono (by omega))⟩
          injection e with e
          omega
end
end TM
end

section
set_option maxHeartbeats 4000000
namespace TM
open PySem PySem.Spec PyProof.Rows L2 EW
section
variable {P : Program} {w : World} {K : W.Frag} {mg : Str → Option Value} {base : Heap}
theorem ok_pair {fd : FuncData} (F : FnP K "_law_pair" sPair fd) (D_law_roll : Df P w K mg base 1 "_law_roll" ["_law_dice_here", "_law_many"] spRoll) (D_law_bound : Df P w K mg base 3 "_law_bound" ["_law_dice_here", "_law_far"] spBoundL) :
    FnOk P w K mg base CX0 4 (He.ga K "_law_pair") fd ["_law_dice_here", "_law_far"] spPair := by
  refine F.ok Pair (fun vs H Q E h => ?_) (fun cdv A outer s H vs Q E hr h => ?_)
  · obtain ⟨d, f, n, rfl, _⟩ := h
    rfl
  · obtain ⟨d, f, n, rfl, D, hn, f0, f1, k⟩ := h
    refine ⟨_, PSs.nox (pss_cons (ps_par (i := 2) (j := 3) (by rfl) Pair.nd rfl rfl (by decide) rfl rfl (pa_cons (pe_df D_law_bound (hr.mono (by decide)) rfl (pa_cons (pv 0) (pa_cons (pv 1) pa_nil))) (pa_cons (pe_df D_law_bound (hr.mono (by decide)) rfl (pa_cons (pv 0) (pa_cons (pv 1) pa_nil))) pa_nil)) (by rfl))
      (pss_cons (ps_if (PW.pt (pw_and (pt_cmp (pc_notN (pv 2))) (pw_and (pt_cmp (pc_notN (pv 3))) (pw_and (pt_cmpR op_gt (pv 2) (pv 3) (nomark _)) (pw_and1 (pt_cmpR op_gt (pe_df D_law_roll (hr.mono (by decide)) rfl (pa_cons (pv 0) (pa_cons pe_int pa_nil))) pe_int (nomark _))))))) (pss_one (ps_ret (pe_tupS (pa_cons (pv 3) (pa_cons (pv 2) pa_nil))))) pss_nil)
      (pss_one (ps_ret (pe_tupS (pa_cons (pv 2) (pa_cons (pv 3) pa_nil))))))), ?_⟩
    refine ⟨_, rfl, _, rfl, d, f, n, rfl, D, by omega, f0, f1, fun a H1 ra k1 D1 => ?_⟩
    refine ⟨_, rfl, _, rfl, d, f, _, rfl, D1, by omega, f0, f1, fun b H2 rb k2 D2 => ?_⟩
    refine ⟨_, _, rfl, ?_⟩
    have fin : ∀ (lo hi : Option Int) (H3 : Hp), Nr lo → Nr hi → EW.Kept d H2 H3 → Dc H3 d (n + 7) → New H3 (fun _ => .tup [ob lo, ob hi]) Q := fun lo hi H3 rl rh k3 D3 q H4 n4 s4 e4 =>
      k q lo hi H4 rl rh (k1.trans (k2.trans (k3.trans (kept_of s4)))) (D3.same s4) e4
    cases a with
    | none => exact ⟨_, rfl, _, rfl, iteF (iteF ⟨_, rfl, _, rfl, (by show 2 ≤ sizeLine; decide), fin none b H2 ra rb (EW.Kept.refl _ _) (D2.mono (by omega))⟩)⟩
    | some u =>
      cases b with
      | none => exact ⟨_, rfl, _, rfl, iteT ⟨_, rfl, _, rfl, iteF (iteF ⟨_, rfl, _, rfl, (by show 2 ≤ sizeLine; decide), fin (some u) none H2 ra rb (EW.Kept.refl _ _) (D2.mono (by omega))⟩)⟩⟩
      | some v =>
        refine ⟨_, rfl, _, rfl, iteT ⟨_, rfl, _, rfl, iteT ⟨_, rfl, _, rfl, _, _, rfl, rfl, _, rfl, ?_⟩⟩⟩
        by_cases c : u > v
        · refine iteB (decide_eq_true c) ?_
          refine ⟨_, rfl, d, 5, _, rfl, D2, by omega, by decide, by decide, fun r H3 r0 r1 k3 D3 => ?_⟩
          refine ⟨_, _, rfl, rfl, _, rfl, ite2 (fun _ => ?_) fun _ => ?_⟩
          · exact ⟨_, rfl, _, rfl, (by show 2 ≤ sizeLine; decide), fin (some v) (some u) H3 rb ra k3 (D3.mono (by omega))⟩
          · exact ⟨_, rfl, _, rfl, (by show 2 ≤ sizeLine; decide), fin (some u) (some v) H3 ra rb k3 (D3.mono (by omega))⟩
        · refine iteC (decide_eq_false c) (iteF ?_)
          exact ⟨_, rfl, _, rfl, (by show 2 ≤ sizeLine; decide), fin (some u) (some v) H2 ra rb (EW.Kept.refl _ _) (D2.mono (by omega))⟩
theorem ok_residue {fd : FuncData} (F : FnP K "_law_residue" sResidue fd) (D_law_roll : Df P w K mg base 1 "_law_roll" ["_law_dice_here", "_law_many"] spRoll) : FnOk P w K mg base CX0 2 (He.ga K "_law_residue") fd ["_law_dice_here", "_law_period_here"] spResidue := by
  refine F.ok Residue (fun vs H Q E h => ?_) (fun cdv A outer s H vs Q E hr h => ?_)
  · obtain ⟨d, p, n, rfl, _⟩ := h
    rfl
  · obtain ⟨d, p, n, rfl, D, hn, p1, p2, k⟩ := h
    refine ⟨_, PSs.nox (pss_one (ps_ret (pe_ifExp (pt_cmpR op_eq (pe_df D_law_roll (hr.mono (by decide)) rfl (pa_cons (pv 0) (pa_cons pe_int pa_nil))) pe_int (nomark _)) (pe_df D_law_roll (hr.mono (by decide)) rfl (pa_cons (pv 0) (pa_cons (pv 1) pa_nil))) pe_non))), ?_⟩
    refine ⟨_, rfl, d, 2, n, rfl, D, by omega, by decide, by decide, fun r H1 r0 r1 k1 D1 => ?_⟩
    refine ⟨rfl, _, rfl, ite2 (fun _ => ?_) fun _ => ?_⟩
    · refine ⟨_, rfl, _, rfl, d, p, _, rfl, D1, by omega, by omega, by omega, fun r2 H2 r20 r21 k2 D2 => ?_⟩
      exact k (some r2) H2 (fun q e => by cases e; exact ⟨r20, r21⟩) (k1.trans k2) (D2.mono (by omega))
    · exact k none H1 (fun q e => by cases e) k1 (D1.mono (by omega))
theorem ok_spanL {fd : FuncData} (F : FnP K "_law_span" sSpan fd) (D_law_residue : Df P w K mg base 2 "_law_residue" ["_law_dice_here", "_law_period_here"] spResidue) (D_law_pair : Df P w K mg base 4 "_law_pair" ["_law_dice_here", "_law_far"] spPair) :
    FnOk P w K mg base CX0 5 (He.ga K "_law_span") fd ["_law_dice_here", "_law_period_here", "_law_far"] spSpanL := by
  refine F.ok Span (fun vs H Q E h => ?_) (fun cdv A outer s H vs Q E hr h => ?_)
  · obtain ⟨d, p, f, n, rfl, _⟩ := h
    rfl
  · obtain ⟨d, p, f, n, rfl, D, hn, p1, p2, f0, f1, k⟩ := h
    refine ⟨_, PSs.nox (pss_cons (ps_set (i := 3) Span.nd rfl (Or.inl rfl) (pe_df D_law_residue (hr.mono (by decide)) rfl (pa_cons (pv 0) (pa_cons (pv 1) pa_nil))))
      (pss_one (ps_ret (pe_op (op_catTS K rfl) (pe_tupS (pa_cons (pv 3) pa_nil)) (pe_df D_law_pair (hr.mono (by decide)) rfl (pa_cons (pv 0) (pa_cons (pv 2) pa_nil))))))), ?_⟩
    refine ⟨_, rfl, _, rfl, d, p, n, rfl, D, by omega, p1, p2, fun o H1 ho k1 D1 => ?_⟩
    refine ⟨_, rfl, (by show 1 ≤ sizeLine; decide), fun q1 H2 n2 s2 e2 => ?_⟩
    refine ⟨_, rfl, _, rfl, d, f, _, rfl, D1.same s2, by omega, f0, f1, fun q3 lo hi H3 rl rh k3 D3 e3 => ?_⟩
    have nq : q1 ≠ d := D1.nn n2
    refine ⟨q1, q3, _, _, rfl, rfl, SqT.of (k3 _ _ nq e2), SqT.of e3, List.cons_ne_nil _ _, List.cons_ne_nil _ _, (by show 3 ≤ sizeLine; decide), fun q4 H4 n4 s4 e4 => ?_⟩
    exact k q4 ⟨o, lo, hi⟩ H4 ⟨ho, rl, rh⟩ (k1.trans ((kept_of s2).trans (k3.trans (kept_of s4)))) ((D3.same s4).mono (by omega)) e4
theorem ok_periodL {fd : FuncData} (F : FnP K "_law_period" sPeriodL fd) (D_law_pick : Df P w K mg base 2 "_law_pick" ["_law_dice_here", "_law_items"] (spPick K)) : FnOk P w K mg base CX0 3 (He.ga K "_law_period") fd ["_law_dice_here"] spPeriodL := by
  refine F.ok PeriodL (fun vs H Q E h => ?_) (fun cdv A outer s H vs Q E hr h => ?_)
  · obtain ⟨d, n, rfl, _⟩ := h
    rfl
  · obtain ⟨d, n, rfl, D, hn, k⟩ := h
    refine ⟨_, PSs.nox (pss_one (ps_ret (pe_df D_law_pick (hr.mono (by decide)) rfl (pa_cons (pv 0) (pa_cons (pe_lstS (pa_cons pe_int (pa_cons pe_int (pa_cons pe_int (pa_cons pe_int (pa_cons pe_int (pa_cons pe_int (pa_cons pe_int (pa_cons pe_int (pa_cons pe_int pa_nil)))))))))) pa_nil))))), ?_⟩
    refine ⟨_, rfl, (by show 9 ≤ sizeLine; decide), fun q H1 n1 s1 e1 => ?_⟩
    refine ⟨d, q, _, n, rfl, D.same s1, by omega, SqL.of e1, D.nn n1, by decide, by decide, fun v H2 hv k2 D2 => ?_⟩
    have kk := (kept_of s1).trans k2
    simp only [List.mem_cons, List.not_mem_nil, or_false] at hv
    rcases hv with rfl | rfl | rfl | rfl | rfl | rfl | rfl | rfl | rfl <;> exact k _ H2 (by decide) (by decide) kk D2
theorem ok_spansL {fd : FuncData} (F : FnP K "_law_spans" sSpansL fd) (T : Fre mg) (D_law_roll : Df P w K mg base 1 "_law_roll" ["_law_dice_here", "_law_many"] spRoll) (D_law_span : Df P w K mg base 5 "_law_span" ["_law_dice_here", "_law_period_here", "_law_far"] spSpanL) :
    FnOk P w K mg base CX0 6 (He.ga K "_law_spans") fd ["_law_dice_here", "_law_period_here", "_law_most"] (spSpansL K) := by
  refine F.ok SpansL (fun vs H Q E h => ?_) (fun cdv A outer s H vs Q E hr h => ?_)
  · obtain ⟨d, p, m, n, rfl, _⟩ := h
    rfl
  · obtain ⟨d, p, m, n, rfl, D, hn, p1, p2, m0, m1, k⟩ := h
    have hbig : (100 : Nat) < sizeLine := by decide
    refine ⟨_, PSs.nox (pss_one (ps_ret (pe_lc (own := [("_law_turn", 3)]) (g := gName 3) (tt := tYes) (by rfl) SpansL.nd (pi_range1 rfl T.range (pa_cons (pe_df D_law_roll (hr.mono (by decide)) rfl (pa_cons (pv 0) (pa_cons (pe_op op_add (pv 2) pe_int) pa_nil))) pa_nil)) (blkOk_by (own := [("_law_turn", 3)]) (N := NSpansL) (sc := defScope sSpansL) (by decide +kernel)) (fun _ _ _ _ _ => (pg_name (i := 3) SpansL.nd rfl (Or.inl rfl))) (fun _ _ _ _ _ => pts_nil) (fun _ _ _ _ _ => (pe_df D_law_span (hr.mono (by decide)) rfl (pa_cons (pv 0) (pa_cons (pv 1) (pa_cons pe_int pa_nil)))))))), ?_⟩
    refine ⟨_, rfl, _, rfl, _, _, rfl, rfl, d, _, n, rfl, D, by omega, by omega, by omega, fun r H1 r0 r1 k1 D1 => ?_⟩
    refine ⟨r, rfl, by omega, by omega, fun L hL => ?_⟩
    have hLd : L ≠ d := D1.nn hL
    refine loop_rg (lo := 0) (n := r.toNat) (fun i H' => ∃ (acc : List V) (ss : List Rn.Sp3), H' L = some (.lst acc) ∧ (∀ b o, b ≠ d → H1 b = some o → H' b = some o) ∧ Dc H' d (n + 1 + 9 * (i : Int)) ∧ Sns K H' acc ss ∧ ss.length = i ∧ ∀ s ∈ ss, Sok p s) ?_ ?_ ?_
    · exact ⟨[], [], upd_same, kept_of (upd_new hL), (D1.same (upd_new hL)).mono (by omega), .nil, rfl, (fun s hs => nomatch hs)⟩
    · rintro i H2 hi ⟨acc, ss, hLa, k2, D2, R2, hs2, hok⟩
      refine ⟨rfl, ?_⟩
      refine ⟨_, rfl, _, rfl, d, p, 9, _, rfl, D2, by omega, p1, p2, by decide, by decide, fun q sp H3 hsp k3 D3 e3 => ?_⟩
      have hl2 := R2.length
      have hL3 := k3 _ _ hLd hLa
      obtain ⟨ds, hds⟩ := D2.lst
      have k4 : EW.Kept L H3 (upd H3 L (.lst (acc ++ [.ref q]))) := Kept.upd
      refine ⟨acc, hL3, by omega, acc ++ [.ref q], ss ++ [sp], upd_same, (fun b o nb h => ?_), ?_, ?_, by rw [List.length_append, hs2]; rfl, fun s hs => ?_⟩
      · rw [upd_ne (fun z => by rw [z, hL] at h; cases h)]
        exact k3 _ _ nb (k2 b o nb h)
      · refine Dc.mono (D3.keep ?_) (by omega)
        rw [upd_ne (Ne.symm hLd)]
      · exact Sns.kept (pr_append (Sns.kept R2 hds k3) (.cons (Tp.of e3) .nil)) hL3 k4
      · rcases List.mem_append.mp hs with hs | hs
        · exact hok s hs
        · rw [List.mem_singleton.mp hs]
          exact hsp
    · rintro H2 ⟨acc, ss, hLa, k2, D2, R2, hs2, hok⟩
      have hn0 : H L = none := by
        cases e : H L with
        | none => rfl
        | some o =>
          rw [k1 L o hLd e] at hL
          cases hL
      exact k L acc ss H2 hn0 hok (by omega) (k1.trans k2) (D2.mono (by omega)) hLa R2
end
end TM
end

section
set_option maxHeartbeats 4000000
namespace TM
open PySem PySem.Spec PyProof.Rows L2 EW
abbrev NBetw : List Str := ["_law_one", "_law_pair_here"]
theorem Betw : FnScope NBetw ["_law_one", "_law_pair_here"] (defScope sBetw) := ⟨rfl, rfl, rfl, by decide +kernel, rfl, by decide +kernel, by decide +kernel⟩
abbrev NIsIn : List Str := ["_law_period_here", "_law_spans_here", "_law_time", "_law_some", "_law_span_here"]
theorem IsIn : FnScope NIsIn ["_law_period_here", "_law_spans_here", "_law_time"] (defScope sIsIn) := ⟨rfl, rfl, rfl, by decide +kernel, rfl, by decide +kernel, by decide +kernel⟩
abbrev NBounds : List Str := ["_law_spans_here", "_law_found", "_law_span_here", "_law_bound_here"]
theorem Bounds : FnScope NBounds ["_law_spans_here"] (defScope sBounds) := ⟨rfl, rfl, rfl, by decide +kernel, rfl, by decide +kernel, by decide +kernel⟩
/-- a span as data -/
def spD (s : Rn.Sp3) : PyData := .tuple [od s.res, od s.lo, od s.hi]
theorem sp_dp {K : W.Frag} {H : Hp} {v : V} {s : Rn.Sp3} (h : Sn K H v s) : Dp K H v (spD s) := by
  obtain ⟨a, rfl, q⟩ := h
  exact .tup q (.cons (od_dp _) (.cons (od_dp _) (.cons (od_dp _) .nil)))
theorem sps_dp {K : W.Frag} {H : Hp} : ∀ {vs : List V} {ss : List Rn.Sp3}, Sns K H vs ss → DpAll K H vs (ss.map spD)
  | _, _, .nil => .nil
  | _, _, .cons h t => .cons (sp_dp h) (sps_dp t)
theorem sp_lay (s : Rn.Sp3) : (spD s).canLay0 = true := by simp [spD, PyData.canLay0, PyData.canLayAll0, od_lay]
theorem sps_lay : ∀ ss : List Rn.Sp3, PyData.canLayAll0 (ss.map spD) = true
  | [] => by simp [PyData.canLayAll0]
  | s :: ss => by simp [PyData.canLayAll0, sp_lay, sps_lay ss]
theorem sp_depth (s : Rn.Sp3) : (spD s).depth = 1 := by simp [spD, PyData.depth, PyData.depthAll, od_depth]
theorem sps_depth : ∀ ss : List Rn.Sp3, PyData.depthAll (ss.map spD) ≤ 1
  | [] => by simp [PyData.depthAll]
  | s :: ss => by
    have h := sps_depth ss
    simp [PyData.depthAll, sp_depth]
    omega
theorem shaped_sps (ss : List Rn.Sp3) : SeqAt.shaped (.list (ss.map spD)) = true := by
  have h := sps_depth ss
  simp [SeqAt.shaped, PyData.canLay0, PyData.depth, sps_lay]
  omega
theorem sps_nil (ss : List Rn.Sp3) : PyData.eqv (.list (ss.map spD)) (.list (([] : List Rn.Sp3).map spD)) = ss.isEmpty := by
  rw [PyData.eqv]
  cases ss <;> simp [PyData.eqvAll]
/-- between the bounds -/
def betw (lo hi : Option Int) (t : Int) : Bool := (match lo with
  | none => true
  | some l => decide (l ≤ t)) && match hi with
  | none => true
  | some h => decide (t ≤ h)
theorem betw_iff {lo hi : Option Int} {t : Int} : betw lo hi t = true ↔ Rn.geLo lo t ∧ Rn.leHi hi t := by
  unfold betw Rn.geLo Rn.leHi
  cases lo <;> cases hi <;> simp
def spBetw (K : W.Frag) : Sp := fun vs H Q _ => ∃ (t : Int) (v : V) (lo hi : Option Int), vs = [.int t, v] ∧ Tp K H v [ob lo, ob hi] ∧ Q (.bl (betw lo hi t)) H
section
variable {P : Program} {w : World} {K : W.Frag} {mg : Str → Option Value} {base : Heap}
theorem ok_betw {fd : FuncData} (F : FnP K "_law_between" sBetw fd) : FnOk P w K mg base CX0 1 (He.ga K "_law_between") fd ["_law_one", "_law_pair_here"] (spBetw K) := by
  refine F.ok Betw (fun vs H Q E h => ?_) (fun cdv A outer s H vs Q E hr h => ?_)
  · obtain ⟨t, v, lo, hi, rfl, _⟩ := h
    rfl
  · obtain ⟨t, v, lo, hi, rfl, ⟨a, rfl, hX⟩, k⟩ := h
    refine ⟨_, PSs.nox (pss_one (ps_ret (pe_and (pe_or (pe_cmp (pc_isN (pe_ix (ix_tupK K rfl) (pv 1) pe_int (fun _ _ => rfl)))) (pe_one (pe_cmpR op_le (pe_ix (ix_tupK K rfl) (pv 1) pe_int (fun _ _ => rfl)) (pv 0) (nomark _)))) (pe_one (pe_or (pe_cmp (pc_isN (pe_ix (ix_tupK K rfl) (pv 1) pe_int (fun _ _ => rfl)))) (pe_one (pe_cmpR op_le (pv 0) (pe_ix (ix_tupK K rfl) (pv 1) pe_int (fun _ _ => rfl)) (nomark _)))))))), ?_⟩
    refine ⟨_, rfl, a, _, _, _, rfl, rfl, hX, rfl, _, rfl, ?_⟩
    cases lo with
    | none =>
      refine iteT ⟨_, rfl, iteT ⟨_, rfl, a, _, _, _, rfl, rfl, hX, rfl, _, rfl, ?_⟩⟩
      cases hi with
      | none => exact iteT k
      | some h => exact iteF ⟨_, rfl, _, rfl, a, _, _, _, rfl, rfl, hX, rfl, _, _, rfl, rfl, k⟩
    | some l =>
      refine iteF ⟨_, rfl, a, _, _, _, rfl, rfl, hX, rfl, _, rfl, _, _, rfl, rfl, _, rfl, ?_⟩
      by_cases c : l ≤ t
      · have e : ∀ hi, betw (some l) hi t = match hi with
          | none => true
          | some h => decide (t ≤ h) := fun hi => by simp [betw, c]
        rw [e] at k
        rw [decide_eq_true c]
        refine iteT ⟨_, rfl, a, _, _, _, rfl, rfl, hX, rfl, _, rfl, ?_⟩
        cases hi with
        | none => exact iteT k
        | some h => exact iteF ⟨_, rfl, _, rfl, a, _, _, _, rfl, rfl, hX, rfl, _, _, rfl, rfl, k⟩
      · have e : betw (some l) hi t = false := by simp [betw, c]
        rw [e] at k
        rw [decide_eq_false c]
        exact iteF k
end
end TM
end

section
set_option maxHeartbeats 4000000
namespace TM
open PySem PySem.Spec PyProof.Rows L2 EW
/-- of this residue -/
def resB (p t : Int) (s : Rn.Sp3) : Bool := match s.res with
  | none => true
  | some r => decide (t % p = r)
theorem in_iff {p t : Int} {ss : List Rn.Sp3} : (!((ss.filter (resB p t)).filter fun s => betw s.lo s.hi t).isEmpty) = true ↔ Rn.inSpans p ss t := by
  have one : ∀ s : Rn.Sp3, resB p t s = true ↔ ∀ r, s.res = some r → t % p = r := fun s => by
    unfold resB
    cases s.res <;> simp
  constructor
  · intro h
    cases e : (ss.filter (resB p t)).filter fun s => betw s.lo s.hi t with
    | nil =>
      rw [e] at h
      cases h
    | cons s r =>
      have hs : s ∈ (ss.filter (resB p t)).filter fun s => betw s.lo s.hi t := by rw [e]; exact List.mem_cons_self
      obtain ⟨h1, h2⟩ := List.mem_filter.mp hs
      obtain ⟨h3, h4⟩ := List.mem_filter.mp h1
      exact ⟨s, h3, (one s).mp h4, betw_iff.mp h2⟩
  · rintro ⟨s, hs, h1, h2⟩
    have hm : s ∈ (ss.filter (resB p t)).filter fun s => betw s.lo s.hi t := List.mem_filter.mpr ⟨List.mem_filter.mpr ⟨hs, (one s).mpr h1⟩, betw_iff.mpr h2⟩
    cases e : (ss.filter (resB p t)).filter fun s => betw s.lo s.hi t with
    | nil =>
      rw [e] at hm
      cases hm
    | cons _ _ => rfl
def spIsIn (K : W.Frag) : Sp := fun vs H Q _ => ∃ (p t : Int) (l : Addr) (xs : List V) (ss : List Rn.Sp3), vs = [.int p, .ref l, .int t] ∧ 0 < p ∧ SqL K H l xs ∧ Sns K H xs ss ∧ xs.length ≤ 1000 ∧ ∀ (b : Bool) (H' : Hp), (b = true ↔ Rn.inSpans p ss t) → Same H H' → Q (.bl b) H'
section
variable {P : Program} {w : World} {K : W.Frag} {mg : Str → Option Value} {base : Heap}
theorem ok_isIn {fd : FuncData} (F : FnP K "_law_is_in" sIsIn fd) (T : Fre mg) (D_law_between : Df P w K mg base 1 "_law_between" ["_law_one", "_law_pair_here"] (spBetw K)) : FnOk P w K mg base CX0 2 (He.ga K "_law_is_in") fd ["_law_period_here", "_law_spans_here", "_law_time"] (spIsIn K) := by
  refine F.ok IsIn (fun vs H Q E h => ?_) (fun cdv A outer s H vs Q E hr h => ?_)
  · obtain ⟨p, t, l, xs, ss, rfl, _⟩ := h
    rfl
  · obtain ⟨p, t, l, xs, ss, rfl, hp, hS, hR, hz, k⟩ := h
    have hlen := hR.length
    have hbig : (1000 : Nat) < sizeLine := by decide
    refine ⟨_, PSs.nox (pss_cons (ps_cut (ps_setLc (i := 3) (own := [("_law_span_here", 4)]) (g := gName 4) (tt := _) (by rfl) IsIn.nd rfl rfl (sw_true rfl rfl rfl (by decide +kernel)) (pi_listK (K := K) rfl (pv 1)) (blkOk_by (own := [("_law_span_here", 4)]) (N := NIsIn) (sc := defScope sIsIn) (by decide +kernel)) (fun _ _ _ _ _ => (pg_name (i := 4) IsIn.nd rfl (Or.inl rfl))) (fun _ _ _ _ _ => (pts_one (PW.pt (pw_or (pt_cmp (pc_isN (pe_ix (ix_tupK K rfl) (pv 4) pe_int (fun _ _ => rfl)))) (pw_or1 (pt_cmpR op_eq (pe_op op_mod (pe_callTy call_int1 (by rfl) T.int EW.boot_int (pa_cons (pv 2) pa_nil)) (pv 0)) (pe_ix (ix_tupK K rfl) (pv 4) pe_int (fun _ _ => rfl)) (nomark _))))))) (fun _ _ _ _ _ => (pv 4))))
      (pss_one (ps_ret (pe_cmpR (op_neDK K rfl hr.units) (pe_lc (own := [("_law_span_here", 4)]) (g := gName 4) (tt := _) (by rfl) IsIn.nd (pi_listK (K := K) rfl (pv 3)) (blkOk_by (own := [("_law_span_here", 4)]) (N := NIsIn) (sc := defScope sIsIn) (by decide +kernel)) (fun _ _ _ _ _ => (pg_name (i := 4) IsIn.nd rfl (Or.inl rfl))) (fun _ _ _ _ _ => (pts_one (pt_val (pe_df D_law_between (hr.mono (by decide)) rfl (pa_cons (pv 2) (pa_cons (pe_slice (sl_tupS K rfl) (pv 4) (po_some pe_int) po_none) pa_nil)))))) (fun _ _ _ _ _ => (pv 4))) (pe_lstS pa_nil) (nomark _))))), ?_⟩
    refine ⟨fun σ' H' => ∃ (L : Addr) (vs : List V), σ' = [some (.int p), some (.ref l), some (.int t), some (.ref L), none] ∧ Same H H' ∧ H' L = some (.lst vs) ∧ Sns K H' vs (ss.filter (resB p t)), ?_, ?_⟩
    · refine ⟨_, rfl, l, rfl, ⟨_, hS⟩, fun D hD => ?_⟩
      refine loop_list (xs := xs) (fun i H' => ∃ acc : List V, H' D = some (.lst acc) ∧ Same H H' ∧ Sns K H' acc ((ss.take i).filter (resB p t))) ⟨[], upd_same, upd_new hD, by rw [List.take_zero]; exact .nil⟩ ?_ ?_ ?_
      · rintro i H' _ ⟨acc, _, s1, _⟩
        exact s1.seq hS
      · rintro i x H1 hx ⟨acc, hDa, s1, R1⟩
        obtain ⟨y, hy, Sx⟩ := pr_get hR hx
        have et : ss.take (i + 1) = ss.take i ++ [y] := by
          rw [List.take_add_one, hy]
          rfl
        obtain ⟨ax, rfl, hX⟩ := Tp.same Sx s1
        have hacc : acc.length < sizeLine := by
          have h1 := R1.length
          have h2 := List.length_filter_le (resB p t) (ss.take i)
          rw [List.length_take] at h2
          omega
        have yes : resB p t y = true → ∃ acc', H1 D = some (.lst acc') ∧ acc'.length < sizeLine ∧ ∃ acc : List V, (upd H1 D (.lst (acc' ++ [.ref ax]))) D = some (.lst acc) ∧ Same H (upd H1 D (.lst (acc' ++ [.ref ax]))) ∧ Sns K (upd H1 D (.lst (acc' ++ [.ref ax]))) acc ((ss.take (i + 1)).filter (resB p t)) := fun e => by
          refine ⟨acc, hDa, hacc, acc ++ [.ref ax], upd_same, same_upd s1 hD, ?_⟩
          rw [et, List.filter_append, List.filter_cons, if_pos e]
          exact Sns.kept (pr_append R1 (.cons ⟨ax, rfl, hX⟩ .nil)) hDa Kept.upd
        have no : resB p t y = false → ∃ acc : List V, H1 D = some (.lst acc) ∧ Same H H1 ∧ Sns K H1 acc ((ss.take (i + 1)).filter (resB p t)) := fun e => by
          refine ⟨acc, hDa, s1, ?_⟩
          rw [et, List.filter_append, List.filter_cons, if_neg (by rw [e]; decide)]
          show Sns K H1 acc (_ ++ [])
          rw [List.append_nil]
          exact R1
        refine ⟨rfl, ?_⟩
        refine ⟨_, rfl, ax, _, _, _, rfl, rfl, hX, rfl, _, rfl, ?_⟩
        obtain ⟨ry, ly, hy'⟩ := y
        cases ry with
        | none => exact iteT (iteT ⟨_, rfl, yes rfl⟩)
        | some r =>
          refine iteF ⟨_, rfl, Or.inl ⟨_, rfl, _, rfl, _, _, rfl, rfl, hp, _, rfl, ax, _, _, _, rfl, rfl, hX, rfl, rfl, _, rfl, ?_⟩⟩
          by_cases c : t % p = r
          · exact iteB (decide_eq_true (congrArg V.int c)) ⟨_, rfl, yes (decide_eq_true c)⟩
          · exact iteC (decide_eq_false (fun z => c (V.int.inj z))) (no (decide_eq_false c))
      · rintro H1 ⟨acc, hDa, s1, R1⟩
        rw [hlen, List.take_length] at R1
        exact ⟨D, acc, rfl, s1, hDa, R1⟩
    · rintro σ' H1 ⟨L, vs, rfl, s1, hL, R1⟩
      have l1 := R1.length
      have l2 := List.length_filter_le (resB p t) ss
      refine ⟨_, rfl, L, rfl, ⟨_, SqL.of hL⟩, fun D hD => ?_⟩
      refine loop_list (xs := vs) (fun i H' => ∃ acc : List V, H' D = some (.lst acc) ∧ Same H1 H' ∧ Sns K H' acc (((ss.filter (resB p t)).take i).filter fun s => betw s.lo s.hi t)) ⟨[], upd_same, upd_new hD, by rw [List.take_zero]; exact .nil⟩ ?_ ?_ ?_
      · rintro i H' _ ⟨acc, _, s2, _⟩
        exact SqL.of (s2 _ _ hL)
      · rintro i x H2 hx ⟨acc, hDa, s2, R2⟩
        obtain ⟨y, hy, Sx⟩ := pr_get R1 hx
        have et : (ss.filter (resB p t)).take (i + 1) = (ss.filter (resB p t)).take i ++ [y] := by
          rw [List.take_add_one, hy]
          rfl
        obtain ⟨ax, rfl, hX⟩ := Tp.same Sx s2
        refine ⟨rfl, ?_⟩
        refine ⟨_, rfl, _, rfl, _, rfl, ax, _, rfl, hX, (by show ¬ (HT.sIx 3 0 (some 1) = 0 ∧ HT.sIx 3 3 none = 3); decide), fun q H3 n3 s3 e3 => ?_⟩
        refine ⟨t, _, y.lo, y.hi, rfl, Tp.of e3, _, rfl, ?_⟩
        cases c : betw y.lo y.hi t with
        | true =>
          have hD3 := s3 _ _ hDa
          refine iteT ⟨_, rfl, acc, hD3, ?_, acc ++ [.ref ax], upd_same, same_upd (Same.trans s2 s3) hD, ?_⟩
          · have h1 := R2.length
            have h2 := List.length_filter_le (fun s : Rn.Sp3 => betw s.lo s.hi t) ((ss.filter (resB p t)).take i)
            rw [List.length_take] at h2
            omega
          · rw [et, List.filter_append, List.filter_cons, if_pos c]
            exact Sns.kept (pr_append (Sns.same R2 s3) (.cons ⟨ax, rfl, SqT.same hX s3⟩ .nil)) hD3 Kept.upd
        | false =>
          refine iteF ⟨acc, s3 _ _ hDa, Same.trans s2 s3, ?_⟩
          rw [et, List.filter_append, List.filter_cons, if_neg (by rw [c]; decide)]
          show Sns K H3 acc (_ ++ [])
          rw [List.append_nil]
          exact Sns.same R2 s3
      · rintro H2 ⟨acc, hDa, s2, R2⟩
        rw [l1, List.take_length] at R2
        refine ⟨(by show 0 ≤ sizeLine; decide), fun q H3 n3 s3 e3 => ?_⟩
        refine ⟨_, .list (([] : List Rn.Sp3).map spD), .lst (SqL.of (s3 _ _ hDa)) (sps_dp (Sns.same R2 s3)), .lst (SqL.of e3) .nil, shaped_sps _, shaped_sps [], ?_⟩
        rw [sps_nil]
        exact k _ H3 in_iff (Same.trans s1 (Same.trans s2 s3))
end
end TM
end

section
set_option maxHeartbeats 4000000
namespace TM
open PySem PySem.Spec PyProof.Rows L2 EW
def Far (n : Int) : Prop := -1000000000000 ≤ n ∧ n ≤ 1000000000000
def spBounds (K : W.Frag) : Sp := fun vs H Q _ => ∃ (l : Addr) (xs : List V) (ss : List Rn.Sp3), vs = [.ref l] ∧ SqL K H l xs ∧ Sns K H xs ss ∧ (∀ s ∈ ss, Nr s.lo ∧ Nr s.hi) ∧ xs.length ≤ 100 ∧
  ∀ (q : Addr) (H' : Hp) (ns : List Int), H q = none → Same H H' → H' q = some (.lst (ns.map V.int)) → (∀ n ∈ ns, Far n) → ns.length ≤ 2 * ss.length → Q (.ref q) H'
section
variable {P : Program} {w : World} {K : W.Frag} {mg : Str → Option Value} {base : Heap}
theorem ok_bounds {fd : FuncData} (F : FnP K "_law_bounds" sBounds fd) : FnOk P w K mg base CX0 1 (He.ga K "_law_bounds") fd ["_law_spans_here"] (spBounds K) := by
  refine F.ok Bounds (fun vs H Q E h => ?_) (fun cdv A outer s H vs Q E hr h => ?_)
  · obtain ⟨l, xs, ss, rfl, _⟩ := h
    rfl
  · obtain ⟨l, xs, ss, rfl, hS, hR, hN, hz, k⟩ := h
    have hlen := hR.length
    have hbig : (1000 : Nat) < sizeLine := by decide
    refine ⟨_, PSs.nox (pss_cons (ps_set (i := 1) Bounds.nd rfl (Or.inl rfl) (pe_lstS pa_nil))
      (pss_cons (ps_for PassesOwn.never rfl (pi_listK (K := K) rfl (pv 0)) (pg_name (i := 2) Bounds.nd rfl (Or.inl rfl)) (pss_one (ps_expr (pe_bm PySem.F.plainAttrs_list PySem.F.slot_list_extend PySem.F.type_list_extend mt_extend (pv 1) (pa_cons (pe_lc (own := [("_law_bound_here", 3)]) (g := gName 3) (tt := _) (by rfl) Bounds.nd (pi_tupK (K := K) rfl (pe_slice (sl_tupS K rfl) (pv 2) (po_some pe_int) po_none)) (blkOk_by (own := [("_law_bound_here", 3)]) (N := NBounds) (sc := defScope sBounds) (by decide +kernel)) (fun _ _ _ _ _ => (pg_name (i := 3) Bounds.nd rfl (Or.inl rfl))) (fun _ _ _ _ _ => (pts_one (pt_cmp (pc_notN (pv 3))))) (fun _ _ _ _ _ => (pv 3))) pa_nil)))))
      (pss_one (ps_ret (pv 1))))), ?_⟩
    refine ⟨(by show 0 ≤ sizeLine; decide), fun f H1 n1 s1 e1 => ?_⟩
    refine ⟨_, rfl, l, rfl, ⟨_, s1.seq hS⟩, ?_⟩
    refine for_list (K := K) (a := l) (xs := xs) (fun i σ' H' => ∃ (u2 u3 : Option V) (ns : List Int), σ' = [some (.ref l), some (.ref f), u2, u3] ∧ Same H H' ∧ H' f = some (.lst (ns.map V.int)) ∧ (∀ n ∈ ns, Far n) ∧ ns.length ≤ 2 * i) ⟨_, _, [], rfl, s1, e1, (fun n hn => nomatch hn), Nat.le_refl _⟩ ?_ ?_ ?_
    · rintro i σ' H' _ ⟨u2, u3, ns, _, s2, _⟩
      exact s2.seq hS
    · rintro i x σ' H2 hx ⟨u2, u3, ns, rfl, s2, hf, hfar, hnl⟩
      obtain ⟨y, hy, Sx⟩ := pr_get hR hx
      have hi : i < xs.length := (List.getElem?_eq_some_iff.mp hx).1
      obtain ⟨N1, N2⟩ := hN y (List.mem_of_getElem? hy)
      obtain ⟨ax, rfl, hX⟩ := Tp.same Sx s2
      refine ⟨_, rfl, Or.inl ⟨rfl, _, SqL.of hf⟩, _, rfl, _, rfl, ax, _, rfl, hX, (by show ¬ (HT.sIx 3 0 (some 1) = 0 ∧ HT.sIx 3 3 none = 3); decide), fun q H3 n3 s3 e3 => ?_⟩
      have e3' : H3 q = some (.tup [ob y.lo, ob y.hi]) := e3
      refine ⟨q, rfl, ⟨_, SqT.of e3'⟩, fun D hD => ?_⟩
      refine loop_tup (xs := [ob y.lo, ob y.hi]) (fun j H' => ∃ ms : List Int, H' D = some (.lst (ms.map V.int)) ∧ Same H3 H' ∧ (∀ n ∈ ms, Far n) ∧ ms.length ≤ j) ⟨[], upd_same, upd_new hD, (fun n hn => nomatch hn), Nat.le_refl _⟩ ?_ ?_ ?_
      · rintro j H' _ ⟨ms, _, s4, _⟩
        exact SqT.same (SqT.of e3') s4
      · rintro j x H4 hxj ⟨ms, hDa, s4, hm, hml⟩
        obtain ⟨o, rfl, ho⟩ : ∃ o, x = ob o ∧ Nr o := by
          match j, hxj with
          | 0, h => exact ⟨y.lo, (Option.some.inj h).symm, N1⟩
          | 1, h => exact ⟨y.hi, (Option.some.inj h).symm, N2⟩
        have hj : j < 2 := (List.getElem?_eq_some_iff.mp hxj).1
        refine ⟨rfl, ?_⟩
        cases o with
        | none => exact ⟨_, rfl, _, rfl, iteF ⟨ms, hDa, s4, hm, by omega⟩⟩
        | some b =>
          refine ⟨_, rfl, _, rfl, iteT ⟨_, rfl, _, hDa, by rw [List.length_map]; omega, ms ++ [b], ?_, same_upd s4 hD, fun n hn => ?_, by rw [List.length_append]; exact Nat.succ_le_succ hml⟩⟩
          · rw [upd_same, List.map_append]
            rfl
          · rcases List.mem_append.mp hn with hn | hn
            · exact hm n hn
            · rw [List.mem_singleton.mp hn]
              exact ho b rfl
      · rintro H4 ⟨ms, hDa, s4, hm, hml⟩
        have hml2 : ms.length ≤ 2 := hml
        have s34 := Same.trans s3 s4
        have hf4 := s34 _ _ hf
        refine ⟨f, D, _, _, rfl, rfl, hf4, hDa, by rw [List.length_map, List.length_map]; omega, ?_⟩
        refine ⟨_, _, ns ++ ms, rfl, same_upd (Same.trans s2 s34) n1, by rw [upd_same, List.map_append], fun n hn => ?_, by rw [List.length_append]; omega⟩
        rcases List.mem_append.mp hn with hn | hn
        · exact hfar n hn
        · exact hm n hn
    · rintro σ' H2 ⟨u2, u3, ns, rfl, s2, hf, hfar, hnl⟩
      exact ⟨_, rfl, k f H2 ns n1 s2 hf hfar (by omega)⟩
end
end TM
end

section
set_option maxHeartbeats 4000000
namespace TM
open PySem PySem.Spec PyProof.Rows L2 EW
/-- the drawn spans, one list of them -/
structure Dr1 (K : W.Frag) (H0 H : Hp) (d : Addr) (n : Int) (p : Int) (a : Addr) (ss : List Rn.Sp3) : Prop where
  p1 : 1 ≤ p
  p2 : p ≤ 12
  x : ∃ xs, H a = some (.lst xs) ∧ Sns K H xs ss
  ok : ∀ s ∈ ss, Sok p s
  z : ss.length ≤ 5
  na : a ≠ d
  k : EW.Kept d H0 H
  D : Dc H d n
section
variable {K : W.Frag} {H0 H H' : Hp} {d a : Addr} {n n' p : Int} {ss : List Rn.Sp3} {u : V} {A : Int → Prop} {m : Nat}
theorem Dr1.same (h : Dr1 K H0 H d n p a ss) (s : Same H H') : Dr1 K H0 H' d n p a ss :=
  ⟨h.p1, h.p2, let ⟨xs, e, r⟩ := h.x; ⟨xs, s _ _ e, Sns.same r s⟩, h.ok, h.z, h.na, h.k.trans (kept_of s), h.D.same s⟩
theorem Dr1.roll (h : Dr1 K H0 H d n p a ss) (k : EW.Kept d H H') (D : Dc H' d n') : Dr1 K H0 H' d n' p a ss := by
  obtain ⟨ds, hds⟩ := h.D.lst
  exact ⟨h.p1, h.p2, let ⟨xs, e, r⟩ := h.x; ⟨xs, k _ _ h.na e, Sns.kept r hds k⟩, h.ok, h.z, h.na, h.k.trans k, D⟩
theorem Dr1.mono (h : Dr1 K H0 H d n p a ss) (l : n ≤ n') : Dr1 K H0 H d n' p a ss := ⟨h.p1, h.p2, h.x, h.ok, h.z, h.na, h.k, h.D.mono l⟩
theorem Has.roll (h : Has K H u p A m) (D : Dc H d n) (k : EW.Kept d H H') : Has K H' u p A m := let ⟨_, hds⟩ := D.lst; h.kept hds k
theorem Dr1.nr (h : Dr1 K H0 H d n p a ss) : ∀ s ∈ ss, Nr s.lo ∧ Nr s.hi := fun s hs => (h.ok s hs).2
theorem Dr1.spok (h : Dr1 K H0 H d n p a ss) : ∀ s ∈ ss, Rn.SpOk p s := fun s hs => (h.ok s hs).1
end
end TM
end

section
set_option maxHeartbeats 1000000
/-! EwCuts: how many runs a set can have: where its members begin, where they end. -/
namespace Rn
/-- from t to t + p it changes at a cut only -/
def Cuts (p : Int) (A : Int → Prop) (n : Nat) : Prop := ∃ us ds : List Int, us.length ≤ n ∧ ds.length ≤ n ∧ (∀ t, ¬ A t → A (t + p) → ∃ c ∈ us, t < c ∧ c ≤ t + p) ∧ ∀ t, A t → ¬ A (t + p) → ∃ c ∈ ds, t < c ∧ c ≤ t + p
section
variable {p : Int} {A B : Int → Prop} {n m : Nat}
theorem Cuts.le (h : Cuts p A n) (l : n ≤ m) : Cuts p A m := let ⟨us, ds, a, b, c⟩ := h; ⟨us, ds, Nat.le_trans a l, Nat.le_trans b l, c⟩
theorem Cuts.congr (h : Cuts p A n) (e : ∀ t, A t ↔ B t) : Cuts p B n := by
  have q : A = B := funext fun t => propext (e t)
  rw [← q]
  exact h
theorem Cuts.or (h : Cuts p A n) (h' : Cuts p B m) : Cuts p (fun t => A t ∨ B t) (n + m) := by
  obtain ⟨us, ds, a, b, c, d⟩ := h
  obtain ⟨us', ds', a', b', c', d'⟩ := h'
  refine ⟨us ++ us', ds ++ ds', by rw [List.length_append]; omega, by rw [List.length_append]; omega, fun t q1 q2 => ?_, fun t q1 q2 => ?_⟩
  · rcases q2 with q2 | q2
    · obtain ⟨x, hx, r⟩ := c t (fun z => q1 (.inl z)) q2
      exact ⟨x, List.mem_append_left _ hx, r⟩
    · obtain ⟨x, hx, r⟩ := c' t (fun z => q1 (.inr z)) q2
      exact ⟨x, List.mem_append_right _ hx, r⟩
  · rcases q1 with q1 | q1
    · obtain ⟨x, hx, r⟩ := d t q1 fun z => q2 (.inl z)
      exact ⟨x, List.mem_append_left _ hx, r⟩
    · obtain ⟨x, hx, r⟩ := d' t q1 fun z => q2 (.inr z)
      exact ⟨x, List.mem_append_right _ hx, r⟩
theorem Cuts.not (h : Cuts p A n) : Cuts p (fun t => ¬ A t) n := by
  obtain ⟨us, ds, a, b, c, d⟩ := h
  exact ⟨ds, us, b, a, fun t q1 q2 => d t (Classical.not_not.mp q1) q2, fun t q1 q2 => c t q1 (Classical.not_not.mp q2)⟩
theorem Cuts.and (h : Cuts p A n) (h' : Cuts p B m) : Cuts p (fun t => A t ∧ B t) (n + m) := by
  refine ((h.not.or h'.not).not).congr fun t => ?_
  rw [not_or, Classical.not_not, Classical.not_not]
theorem Cuts.sub (h : Cuts p A n) (h' : Cuts p B m) : Cuts p (fun t => A t ∧ ¬ B t) (n + m) := h.and h'.not
theorem Cuts.shift (h : Cuts p A n) (s : Int) : Cuts p (fun t => A (t - s)) n := by
  obtain ⟨us, ds, a, b, c, d⟩ := h
  refine ⟨us.map (· + s), ds.map (· + s), by rw [List.length_map]; exact a, by rw [List.length_map]; exact b, fun t q1 q2 => ?_, fun t q1 q2 => ?_⟩
  · have e : t + p - s = t - s + p := by omega
    obtain ⟨x, hx, r1, r2⟩ := c (t - s) q1 (e ▸ q2)
    exact ⟨x + s, List.mem_map.mpr ⟨x, hx, rfl⟩, by omega, by omega⟩
  · have e : t + p - s = t - s + p := by omega
    obtain ⟨x, hx, r1, r2⟩ := d (t - s) q1 (e ▸ q2)
    exact ⟨x + s, List.mem_map.mpr ⟨x, hx, rfl⟩, by omega, by omega⟩
theorem Cuts.turn (h : Cuts p A n) : Cuts p (fun t => A (-t)) n := by
  obtain ⟨us, ds, a, b, c, d⟩ := h
  refine ⟨ds.map (1 - ·), us.map (1 - ·), by rw [List.length_map]; exact b, by rw [List.length_map]; exact a, fun t q1 q2 => ?_, fun t q1 q2 => ?_⟩
  · have e : -(t + p) + p = -t := by omega
    obtain ⟨x, hx, r1, r2⟩ := d (-(t + p)) q2 (by rw [e]; exact q1)
    exact ⟨1 - x, List.mem_map.mpr ⟨x, hx, rfl⟩, by omega, by omega⟩
  · have e : -(t + p) + p = -t := by omega
    obtain ⟨x, hx, r1, r2⟩ := c (-(t + p)) q2 (by rw [e]; exact q1)
    exact ⟨1 - x, List.mem_map.mpr ⟨x, hx, rfl⟩, by omega, by omega⟩
theorem Cuts.twice (hp : 0 < p) (h : Cuts p A n) : Cuts (2 * p) A n := by
  obtain ⟨us, ds, a, b, c, d⟩ := h
  have e : ∀ t : Int, t + 2 * p = t + p + p := fun t => by omega
  refine ⟨us, ds, a, b, fun t q1 q2 => ?_, fun t q1 q2 => ?_⟩
  · rw [e] at q2
    by_cases k : A (t + p)
    · obtain ⟨x, hx, r1, r2⟩ := c t q1 k
      exact ⟨x, hx, r1, by omega⟩
    · obtain ⟨x, hx, r1, r2⟩ := c (t + p) k q2
      exact ⟨x, hx, by omega, by omega⟩
  · rw [e] at q2
    by_cases k : A (t + p)
    · obtain ⟨x, hx, r1, r2⟩ := d (t + p) k q2
      exact ⟨x, hx, by omega, by omega⟩
    · obtain ⟨x, hx, r1, r2⟩ := d t q1 k
      exact ⟨x, hx, r1, by omega⟩
theorem Cuts.span (hp : 0 < p) (s : Sp3) : Cuts p (inSpan p s) 1 := by
  obtain ⟨res, lo, hi⟩ := s
  have key : ∀ t, (∀ r, res = some r → t % p = r) ↔ (∀ r, res = some r → (t + p) % p = r) := fun t => by simp only [Int.add_emod_right]
  refine ⟨lo.toList, (hi.map (· + 1)).toList, by cases lo <;> simp, by cases hi <;> simp, fun t q1 q2 => ?_, fun t q1 q2 => ?_⟩
  · obtain ⟨h1, h2, h3⟩ := q2
    cases lo with
    | none => exact absurd ⟨(key t).mpr h1, (fun l e => nomatch e), fun l e => by have := h3 l e; omega⟩ q1
    | some l =>
      by_cases c : l ≤ t
      · exact absurd ⟨(key t).mpr h1, (fun x e => by cases e; exact c), fun x e => by have := h3 x e; omega⟩ q1
      · exact ⟨l, by simp, by omega, h2 l rfl⟩
  · obtain ⟨h1, h2, h3⟩ := q1
    cases hi with
    | none => exact absurd ⟨(key t).mp h1, (fun l e => by have := h2 l e; omega), fun l e => nomatch e⟩ q2
    | some l =>
      have h3 := h3 l rfl
      by_cases c : t + p ≤ l
      · exact absurd ⟨(key t).mp h1, (fun x e => by have := h2 x e; omega), fun x e => by cases e; exact c⟩ q2
      · exact ⟨l + 1, by simp, by omega, by omega⟩
theorem Cuts.spans (hp : 0 < p) : ∀ ss : List Sp3, Cuts p (inSpans p ss) ss.length
  | [] => ⟨[], [], Nat.le_refl _, Nat.le_refl _, fun t _ ⟨x, hx, _⟩ => (by cases hx), fun t ⟨x, hx, _⟩ => (by cases hx)⟩
  | s :: ss => by
    refine Cuts.le (((Cuts.span hp s).or (Cuts.spans hp ss)).congr fun t => ?_) (by rw [List.length_cons]; omega)
    exact (spans_cons ..).symm
end
/-- each of l takes one of us, no two the same -/
theorem pigeon {α β : Type} [DecidableEq β] {R : α → β → Prop} : ∀ {l : List α} {us : List β}, (∀ a ∈ l, ∃ b ∈ us, R a b) → l.Pairwise (fun a a' => ∀ b, R a b → R a' b → False) → l.length ≤ us.length
  | [], us, _, _ => Nat.zero_le _
  | a :: l, us, h, pw => by
    obtain ⟨b, hb, r⟩ := h a List.mem_cons_self
    obtain ⟨p1, p2⟩ := List.pairwise_cons.mp pw
    have q := pigeon (l := l) (us := us.erase b) (fun x hx => by
      obtain ⟨y, hy, ry⟩ := h x (List.mem_cons_of_mem _ hx)
      have ne : y ≠ b := fun e => p1 x hx b r (by rw [← e]; exact ry)
      exact ⟨y, (List.mem_erase_of_ne ne).mpr hy, ry⟩) p2
    rw [List.length_erase_of_mem hb] at q
    have : 0 < us.length := List.length_pos_of_mem hb
    rw [List.length_cons]
    omega
theorem flat_len {α β : Type} {f : α → List β} {k : Nat} (h : ∀ a, (f a).length = k) : ∀ l : List α, (l.flatMap f).length = l.length * k
  | [] => by simp
  | a :: l => by
    rw [List.flatMap_cons, List.length_append, h a, flat_len h l, List.length_cons, Nat.succ_mul, Nat.add_comm]
/-- the number of runs -/
theorem Cuts.runs {p : Int} {A : Int → Prop} {n : Nat} {zs : List Run} (hp : 0 < p) (h : Cuts p A n) (c : Canon p zs) (e : ∀ t, inRuns p zs t ↔ A t) : zs.length ≤ p.toNat * (n + 1) := by
  obtain ⟨us, ds, a, _, up, _⟩ := h
  have q := pigeon (l := zs) (us := (List.range p.toNat).flatMap fun (r : Nat) => (none :: us.map some).map fun (o : Option Int) => ((r : Int), o))
    (R := fun (z : Run) (b : Int × Option Int) => z.r = b.1 ∧ match b.2 with | none => z.lo = none | some x => ∃ l, z.lo = some l ∧ l - p < x ∧ x ≤ l) (fun z hz => ?_) (c.pw.imp_of_mem fun {x y} hx hy hl b r1 r2 => ?_)
  · rw [flat_len (k := us.length + 1) fun r => by simp, List.length_range] at q
    exact Nat.le_trans q (Nat.mul_le_mul_left _ (Nat.succ_le_succ a))
  · have g := c.good z hz
    have g0 := g.r0
    have g1 := g.r1
    cases el : z.lo with
    | none => exact ⟨(z.r, none), List.mem_flatMap.mpr ⟨z.r.toNat, List.mem_range.mpr (by omega), List.mem_map.mpr ⟨none, List.mem_cons_self, by rw [Int.toNat_of_nonneg g0]⟩⟩, rfl, rfl⟩
    | some l =>
      have i1 : inRuns p zs l := ⟨z, hz, in_lo g el⟩
      have e1 : l - p + p = l := by omega
      obtain ⟨x, hx, r1, r2⟩ := up (l - p) (fun q => c.below hp hz el ((e _).mpr q)) (by rw [e1]; exact (e l).mp i1)
      exact ⟨(z.r, some x), List.mem_flatMap.mpr ⟨z.r.toNat, List.mem_range.mpr (by omega), List.mem_map.mpr ⟨some x, List.mem_cons_of_mem _ (List.mem_map.mpr ⟨x, hx, rfl⟩), by rw [Int.toNat_of_nonneg g0]⟩⟩, rfl, l, rfl, r1, by omega⟩
  · obtain ⟨b1, b2⟩ := b
    obtain ⟨e1, r1⟩ := r1
    obtain ⟨e2, r2⟩ := r2
    rcases hl with hl | ⟨_, m, l, em, el, hlt⟩
    · have e1 : x.r = b1 := e1
      have e2 : y.r = b1 := e2
      omega
    · cases b2 with
      | none =>
        have r2 : y.lo = none := r2
        rw [el] at r2
        cases r2
      | some v =>
        obtain ⟨l1, f1, f2, f3⟩ := r1
        obtain ⟨l2, f4, f5, f6⟩ := r2
        rw [el] at f4
        cases f4
        have := (c.good x hx).le l1 m f1 em
        omega
end Rn
end

section
set_option maxHeartbeats 2000000
/-! EwZipN: generator methods as facts. -/
namespace EW
open PySem PySem.Spec PyProof.Rows GenW L2
def EF : XK := fun _ _ _ => False
structure GMtZ (P : Program) (w : World) (K : W.Frag) (mg : Str → Option Value) (base : Heap) (k : Nat) (C : Addr) (m : Str) (ps : List Str) (ds : List Value) (dvs : List V) (sp : SpZ) : Prop where
  ex : ∃ f fd, GFnZ P w K mg base k f fd ps sp ∧ Binds K fd ps ds ∧ Vals dvs ds ∧ Meth K C m f
structure GMtL (P : Program) (w : World) (K : W.Frag) (mg : Str → Option Value) (base : Heap) (k : Nat) (C : Addr) (m : Str) (ps : List Str) (ds : List Value) (dvs : List V) (sp : SpG) : Prop where
  ex : ∃ f fd, GFn P w K mg base k f fd ps sp ∧ Binds K fd ps ds ∧ Vals dvs ds ∧ Meth K C m f
section
variable {X : Cx} {k : Nat} {C : Addr} {m : Str} {ps : List Str} {ds : List Value} {dvs : List V} {o e : Expr} {es : List Expr} {ta : TE} {t : TA} {pos' apos : Pos}
theorem pgz_mt {sp : SpZ} {pl : Sem Bool} (he : PE X o ta) (c : Cls X.K C) (M : GMtZ X.prog X.w X.K X.mg X.base k C m ps ds dvs sp) (hr : Room k X.A) (ha : PA X (e :: es) t)
    (hst : starEach (e :: es) X.env = (false, eval e X.env) :: starEach es X.env := by rfl) (hpl : (backTo pos' (starEach es X.env)).any (·.1) = false := by rfl)
    (ht : eval (.Call (.Attribute o m apos) (e :: es) [] pos') X.env = (do
      let ov ← eval o X.env
      standAt apos.atName
      let (f, first) ← holding [ov] (getMethod ov m pl)
      callWith pos' f first (backTo pos' (starEach (e :: es) X.env)) (backToKw pos' (keywordEach [] X.env))) := by rfl) :
    PGenZ X k (.Call (.Attribute o m apos) (e :: es) [] pos') (tMethZ C m sp dvs ta t) := by
  obtain ⟨f, fd, F, b, hd, hm⟩ := M.ex
  exact pgz_meth he c hm F hr b hd ha hst hpl ht
theorem pgl_mt {sp : SpG} {pl : Sem Bool} (he : PE X o ta) (c : Cls X.K C) (M : GMtL X.prog X.w X.K X.mg X.base k C m ps ds dvs sp) (hr : Room k X.A) (ha : PA X (e :: es) t)
    (hst : starEach (e :: es) X.env = (false, eval e X.env) :: starEach es X.env := by rfl) (hpl : (backTo pos' (starEach es X.env)).any (·.1) = false := by rfl)
    (ht : eval (.Call (.Attribute o m apos) (e :: es) [] pos') X.env = (do
      let ov ← eval o X.env
      standAt apos.atName
      let (f, first) ← holding [ov] (getMethod ov m pl)
      callWith pos' f first (backTo pos' (starEach (e :: es) X.env)) (backToKw pos' (keywordEach [] X.env))) := by rfl) :
    PGen X k (.Call (.Attribute o m apos) (e :: es) [] pos') (tMethG C m sp dvs EF ta t) EF := by
  obtain ⟨f, fd, F, b, hd, hm⟩ := M.ex
  exact pgen_meth he c hm F hr b hd ha hst hpl ht
theorem pgl_mt0 {sp : SpG} {pl : Sem Bool} (he : PE X o ta) (c : Cls X.K C) (M : GMtL X.prog X.w X.K X.mg X.base k C m ps ds dvs sp) (hr : Room k X.A)
    (ht : eval (.Call (.Attribute o m apos) [] [] pos') X.env = (do
      let ov ← eval o X.env
      standAt apos.atName
      let (f, first) ← holding [ov] (getMethod ov m pl)
      callWith pos' f first (backTo pos' (starEach [] X.env)) (backToKw pos' (keywordEach [] X.env))) := by rfl) :
    PGen X k (.Call (.Attribute o m apos) [] [] pos') (tMethG C m sp dvs EF ta tNil) EF := by
  obtain ⟨f, fd, F, b, hd, hm⟩ := M.ex
  exact pgen_meth0 he c hm F hr b hd ht
theorem pe_listGF {tg : TGen} {p pos : Pos} (h : PGen X k e tg EF) (hr : Room (k + 3) X.A) (hg : Gl X "list") (hmg : X.mg "list" = none) (hv : bootBuiltins "list" = some (.type "list"))
    (he : starEach [e] X.env = (false, eval e X.env) :: starEach [] X.env := by rfl) : PE X (.Call (.Name "list" p) [e] [] pos) (tListG tg) := by
  refine pe_listG h ?_ (fun _ _ _ z => z.elim) hr hg hmg hv (by decide) (by decide) he
  intro _ _ H s e s' _ z
  obtain ⟨a, B, H', cls, d, _, _, _, _, _, _, _, hW⟩ := z
  exact hW.elim
end
end EW
end

section
set_option maxHeartbeats 4000000
namespace EW
open PySem PySem.Spec PyProof.Rows L2
/-! ### C.m(e, .., k = v, ..), m a classmethod -/
section
variable {K : W.Frag} {x qual : Str} {params : Arguments} {body : List Stmt} {scope : Scope} {kws : List (Str × V)} {f : Addr} {fd : FuncData} {ps : List Str}
/-- all keywords are told -/
theorem kbindsA (F : FunD K x qual params body scope [] kws f fd) (n : Nat) (ks : List Str) (g : {α : Type} → List α → List α → List α)
    (hrel : ∀ {vs zs : List V} {us ws : List Value}, Vals vs us → Vals zs ws → Vals (g vs zs) (g us ws))
    (h : ∀ (kV doc pm : Value) (an : Option Addr) (cdv ct : Value) (us ws : List Value), us.length = n → ws.length = ks.length → bindArgs (W.fnOf x qual params body scope .none kV doc pm an cdv ct) ⟨us, ks.zip ws⟩ = pure (ps.zip (g us ws))) :
    KBn K fd ps n ks (fun us ws => g us ws) (fun vs zs => g vs zs) := by
  obtain ⟨oc, od, dV, kV, doc, pm, an, cdv, ct, osl, rfl, lk, hcd, hD, hK⟩ := F.ex
  rcases hD with ⟨_, rfl⟩ | ⟨e, _⟩
  · exact ⟨fun s us ws X l1 l2 => BindsTo.of_looks fun M => W.Looks.of_pure (h kV doc pm an cdv ct us ws l1 l2), fun r1 r2 => hrel r1 r2⟩
  · exact absurd rfl e
end
structure CMtN (P : Program) (w : World) (K : W.Frag) (mg : Str → Option Value) (base : Heap) (k : Nat) (C : Addr) (m : Str) (n : Nat) (ks : List Str) (gV : List V → List V → List V) (sp : Sp) : Prop where
  ex : ∃ mc p f fd ps g, ClX.CRead K C mc ∧ ClX.CMet K C mc m p f ∧ FnOk P w K mg base CX0 k f fd ps sp ∧ KBn K fd ps (n + 1) ks g gV
def tCMethN (C : Addr) (n m : Nat) (sp : Sp) (gV : List V → List V → List V) (ta : TE) (t tk : TA) : TE := fun σ H Q => ta σ H fun x H1 => x = .ref C ∧ t σ H1 fun vs H2 => tk σ H2 fun zs H3 => vs.length = n ∧ zs.length = m ∧ sp (gV (.ref C :: vs) zs) H3 Q E0
section
variable {X : Cx} {k n : Nat} {C : Addr} {m : Str} {ks : List Str} {gV : List V → List V → List V} {sp : Sp} {o e : Expr} {es : List Expr} {kws : List Keyword} {ta : TE} {t tk : TA} {pos apos : Pos} {pl : Sem Bool}
theorem pe_cmtN (he : PE X o ta) (M : CMtN X.prog X.w X.K X.mg X.base k C m n ks gV sp) (hr : Room k X.A) (ha : PA X (e :: es) t) (hkw : PK X kws tk)
    (hall : (backToKw pos (keywordEach kws X.env)).all (·.1.isSome) = true := by rfl) (hks : (backToKw pos (keywordEach kws X.env)).filterMap (·.1) = ks := by rfl)
    (hst : starEach (e :: es) X.env = (false, eval e X.env) :: starEach es X.env := by rfl) (hpl : ((backTo pos (starEach (e :: es) X.env)).any (·.1) || (backToKw pos (keywordEach kws X.env)).any (·.1.isNone)) = false := by rfl)
    (ht : eval (.Call (.Attribute o m apos) (e :: es) kws pos) X.env = (do
      let ov ← eval o X.env
      standAt apos.atName
      let (f, first) ← holding [ov] (getMethod ov m pl)
      callWith pos f first (backTo pos (starEach (e :: es) X.env)) (backToKw pos (keywordEach kws X.env))) := by rfl) :
    PE X (.Call (.Attribute o m apos) (e :: es) kws pos) (tCMethN C n ks.length sp gV ta t tk) := by
  obtain ⟨mc, p, f, fd, ps, g, r, c, F, hb⟩ := M.ex
  refine ⟨fun pins s σ H Q I h => ?_⟩
  refine W.methodCall_KW (pl := pl) (thn (he.run pins s σ H _ I h) fun u s1 ⟨x, H1, I1, rx, ex, q⟩ => ?_) ht
  subst ex
  obtain rfl : u = Value.ref C := rx
  refine ClX.getmethcm_ok I1 r c fun s2 I2 => ?_
  refine W.callWith_of (first := []) hpl (W.keeps_M (q := s1.heap.objs.size) (self := .ref C) c.fi) (evalArgs_kw2 hall ?_ hst)
  refine thn (ha.run pos _ s2 σ H1 _ I2 q) fun us s3 ⟨vs, H2, I3, rv, q2⟩ => ?_
  refine thn (hkw.run pos _ s3 σ H2 _ I3 q2) fun ws s4 ⟨zs, H3, I4, rz, l1, l2, q3⟩ => ⟨⟨ClX.pin_at I4, I4.kIn⟩, ?_⟩
  rw [hks]
  have r2 := hb.rel (vs := .ref C :: vs) (us := .ref C :: us) (.cons rfl rv) rz
  have z : wpAny (model X.prog X.w) X.A (call (.ref s1.heap.objs.size) us (ks.zip ws)) (EP X ((s1.heap.objs.size, W.methodObj (.ref f) (.ref C)) :: pins) σ Q) X.xe s4 := by
    refine wpAny_call (W.method_call (ClX.pin_at I4) (codeAny_mono (F.run X.A X.stack s4 H3 ⟨.ref C :: us, ks.zip ws⟩ (g (.ref C :: us) ws) (gV (.ref C :: vs) zs) Q E0 hr I4.env0 (hb.to s4 _ ws I4.kIn (by rw [List.length_cons, ← rv.length, l1]) (rz.length.symm.trans l2)) r2 q3) fun r s' hq => ?_))
    cases r with
    | error e => exact (hq : False).elim
    | ok fl =>
      cases fl with
      | ret u => exact I4.after hq
      | next => exact False.elim hq
      | brk => exact False.elim hq
      | cont => exact False.elim hq
  exact thn z fun _ _ y => ClX.unpinE y
end
end EW
end

section
set_option maxHeartbeats 4000000
/-! EwMtKw: o.m(e, .., k = v, ..), m a method. -/
namespace EW
open PySem PySem.Spec PyProof.Rows L2
structure MtN (P : Program) (w : World) (K : W.Frag) (mg : Str → Option Value) (base : Heap) (k : Nat) (C : Addr) (m : Str) (n : Nat) (ks : List Str) (gV : List V → List V → List V) (sp : Sp) : Prop where
  ex : ∃ f fd ps g, FnOk P w K mg base CX0 k f fd ps sp ∧ KBn K fd ps (n + 1) ks g gV ∧ Meth K C m f
def tMethN (C : Addr) (m : Str) (n j : Nat) (sp : Sp) (gV : List V → List V → List V) (ta : TE) (t tk : TA) : TE := fun σ H Q => ta σ H fun x H1 => ∃ a dx fs, x = .ref a ∧ H1 a = some (.ins C dx fs) ∧ fs.lookup m = none ∧
  t σ H1 fun vs H2 => tk σ H2 fun zs H3 => vs.length = n ∧ zs.length = j ∧ sp (gV (x :: vs) zs) H3 Q E0
section
variable {X : Cx} {k n : Nat} {C : Addr} {m : Str} {ks : List Str} {gV : List V → List V → List V} {sp : Sp} {o e : Expr} {es : List Expr} {kws : List Keyword} {ta : TE} {t tk : TA} {pos apos : Pos} {pl : Sem Bool}
theorem pe_mtN (he : PE X o ta) (c : Cls X.K C) (M : MtN X.prog X.w X.K X.mg X.base k C m n ks gV sp) (hr : Room k X.A) (ha : PA X (e :: es) t) (hkw : PK X kws tk)
    (hall : (backToKw pos (keywordEach kws X.env)).all (·.1.isSome) = true := by rfl) (hks : (backToKw pos (keywordEach kws X.env)).filterMap (·.1) = ks := by rfl)
    (hst : starEach (e :: es) X.env = (false, eval e X.env) :: starEach es X.env := by rfl) (hpl : ((backTo pos (starEach (e :: es) X.env)).any (·.1) || (backToKw pos (keywordEach kws X.env)).any (·.1.isNone)) = false := by rfl)
    (ht : eval (.Call (.Attribute o m apos) (e :: es) kws pos) X.env = (do
      let ov ← eval o X.env
      standAt apos.atName
      let (f, first) ← holding [ov] (getMethod ov m pl)
      callWith pos f first (backTo pos (starEach (e :: es) X.env)) (backToKw pos (keywordEach kws X.env))) := by rfl) :
    PE X (.Call (.Attribute o m apos) (e :: es) kws pos) (tMethN C m n ks.length sp gV ta t tk) := by
  obtain ⟨f, fd, ps, g, F, hb, hm⟩ := M.ex
  refine ⟨fun pins s σ H Q I h => ?_⟩
  refine W.methodCall_KW (pl := pl) (thn (he.run pins s σ H _ I h) fun u s1 ⟨x, H1, I1, rx, a, dx, fs, ex, ea, l, q⟩ => ?_) ht
  subst ex
  obtain rfl : u = Value.ref a := rx
  refine getmeth_ok I1 ea c hm l ?_
  refine W.callWith_of (first := [.ref a]) (P := fun h => X.K.In h) hpl (W.keeps_K hm.kp) (evalArgs_kw2 hall ?_ hst)
  refine thn (ha.run pos _ s1 σ H1 _ I1 q) fun us s3 ⟨vs, H2, I3, rv, q2⟩ => ?_
  refine thn (hkw.run pos _ s3 σ H2 _ I3 q2) fun ws s4 ⟨zs, H3, I4, rz, l1, l2, q3⟩ => ⟨I4.kIn, ?_⟩
  rw [hks]
  have r2 := hb.rel (vs := .ref a :: vs) (us := .ref a :: us) (.cons rfl rv) rz
  refine wpAny_call (codeAny_mono (F.run X.A X.stack s4 H3 ⟨.ref a :: us, ks.zip ws⟩ (g (.ref a :: us) ws) (gV (.ref a :: vs) zs) Q E0 hr I4.env0 (hb.to s4 _ ws I4.kIn (by rw [List.length_cons, ← rv.length, l1]) (rz.length.symm.trans l2)) r2 q3) fun r s' hq => ?_)
  cases r with
  | error e => exact (hq : False).elim
  | ok fl =>
    cases fl with
    | ret u => exact I4.after hq
    | next => exact False.elim hq
    | brk => exact False.elim hq
    | cont => exact False.elim hq
end
end EW
end

section
set_option maxHeartbeats 4000000
namespace TM
open PySem PySem.Spec PyProof.Rows L2 EW
theorem con1 {v : V} {σ : L2.St} {H : Hp} {R : List V → Hp → Prop} (h : R [v] H) : tCons (tC v) tNil σ H R := h
theorem fit_of {n : Nat} (h : n ≤ 100000000000000000000000000000000) : Rn.Fit (n + 1) := by
  unfold Rn.Fit
  exact Nat.lt_of_le_of_lt (Nat.succ_le_succ h) (by decide +kernel)
section
variable {K : W.Frag} {H H' : Hp} {u v : V} {p t a b : Int} {A B : Int → Prop} {n m : Nat} {Q : VK} {QZ' : QZ}
theorem hMt (m : Str) (hm : ∀ p l, (FS p l).lookup m = none) {R : Prop} (h : Has K H u p A n) (q : R) : ∃ a dx fs, u = .ref a ∧ H a = some (.ins (CT K) dx fs) ∧ fs.lookup m = none ∧ R := by
  obtain ⟨zs, ⟨a, dx, l, e, h1, _⟩, _⟩ := h
  exact ⟨a, dx, _, e, h1, hm _ _, q⟩
theorem hCon (hu : Has K H u p A n) (k : ∀ (b : Bool) (H' : Hp), (b = true ↔ A t) → Same H H' → Q (.bl b) H') : IsC H (CT K) u ∧ spCon K [u, .int t] H (Bl Q) E0 := by
  refine ⟨hu.isC, ?_⟩
  obtain ⟨zs, ou, mu, lu⟩ := hu
  exact ⟨u, p, t, zs, rfl, ou, fun b H' hb s => ⟨b, rfl, k b H' (hb.trans (mu t)) s⟩⟩
theorem hAfter (hu : Has K H u p A n) (k : ∀ (o : Option Int) (H' : Hp), Same H H' → Rn.IsNext A t o → Q (ob o) H') : spAfter K [u, .int t] H Q E0 := by
  obtain ⟨zs, ou, mu, lu⟩ := hu
  exact ⟨u, p, t, zs, rfl, ou, fun o H' s h => k o H' s (h.congr mu)⟩
theorem hBefor (hu : Has K H u p A n) (k : ∀ (o : Option Int) (H' : Hp), Same H H' → Rn.IsLast A t o → Q (ob o) H') : spBefor K [u, .int t] H Q E0 := by
  obtain ⟨zs, ou, mu, lu⟩ := hu
  exact ⟨u, p, t, zs, rfl, ou, fun o H' s h => k o H' s (h.congr mu)⟩
theorem hShift {s : Int} (hu : Has K H u p A n) (k : Hn K H p (fun t => A (t - s)) n Q) : spShift K [u, .int s] H Q E0 := by
  obtain ⟨zs, ou, mu, lu⟩ := hu
  exact ⟨u, p, s, zs, rfl, ou, k.made (fun t => mu (t - s)) lu⟩
theorem hTurn (hu : Has K H u p A n) (k : Hn K H p (fun t => A (-t)) n Q) : spTurn K [u] H Q E0 := by
  obtain ⟨zs, ou, mu, lu⟩ := hu
  exact ⟨u, p, zs, rfl, ou, k.made (fun t => mu (-t)) lu⟩
theorem hBy {i : Nat} (hu : Has K H u p A n) (hi : 0 < i) (h4 : p * (i : Int) ≤ 400) (hl : n * i ≤ 10000000) (k : Hn K H (p * (i : Int)) A (n * i) Q) : spBy K [u, .int (p * (i : Int))] H Q E0 := by
  obtain ⟨zs, ou, mu, lu⟩ := hu
  exact ⟨u, p, i, zs, rfl, hi, h4, ou, Nat.le_trans (Nat.mul_le_mul_right i lu) hl, k.made mu (Nat.mul_le_mul_right i lu)⟩
theorem hKth {i : Nat} (hu : Has K H u p A n) (hi : Rn.Fit (i + 1)) (hn : n ≤ 1000000) (k : ∀ (o : Option Int) (H' : Hp), Same H H' → Rn.IsKth A a i o → Q (ob o) H') : spKth K [u, .int i, .int a] H Q E0 := by
  obtain ⟨zs, ou, mu, lu⟩ := hu
  exact ⟨u, p, a, i, zs, rfl, ou, hi, Nat.le_trans lu hn, fun o H' s h => k o H' s (h.congr mu)⟩
theorem hHow (hu : Has K H u p A n) (k : ∀ (c : Int) (H' : Hp), Same H H' → c = (Rn.cnt A a b : Int) → Q (.int c) H') : spHowM K [u, .int a, .int b] H Q E0 := by
  obtain ⟨zs, o, e, _⟩ := hu
  exact ⟨u, p, a, b, zs, rfl, o, fun c H' s hc => k c H' s (by rw [hc, Rn.cnt_congr fun t _ _ => e t])⟩
theorem hOnZ (hu : Has K H u p A n) (k : ∀ (ys : List Int) (H' : Hp), Same H H' → Rn.Walk A m a ys → QZ' (nums ys) H') : spOnZ K [u, .int a] H m QZ' := by
  obtain ⟨zs, o, e, _⟩ := hu
  exact ⟨u, p, a, zs, rfl, o, fun c H' s hc => k c H' s (hc.congr e)⟩
/-- a set and its cuts: the number of its runs -/
theorem Has.cut (hu : Has K H u p A n) (c : Rn.Cuts p A m) : Has K H u p A (p.toNat * (m + 1)) := by
  have hp := hu.per.1
  obtain ⟨ws, ou, mw, lw⟩ := hu
  obtain ⟨x, da, l, e1, e2, R, q⟩ := ou
  obtain ⟨ys, y1, y2, cw, y3⟩ := id R
  exact ⟨ws, ⟨x, da, l, e1, e2, R, q⟩, mw, c.runs (by omega) cw mw⟩
end
end TM
end

section
set_option maxHeartbeats 4000000
namespace TM
open PySem PySem.Spec PyProof.Rows L2 EW
/-- how a set is told: by spans, or by earlier ones -/
inductive Pl where
  | spans (ss : List Rn.Sp3)
  | or (i j : Nat)
  | and (i j : Nat)
  | less (i j : Nat)
  | not (i : Nat)
  | move (i : Nat) (s : Int)
/-- .. as a value -/
def PlV (K : W.Frag) (N : List Addr) (H : Hp) (v : V) : Pl → Prop
  | .spans ss => ∃ l xs, Tp K H v [.str "spans", .ref l] ∧ l ∉ N ∧ H l = some (.lst xs) ∧ Sns K H xs ss
  | .or i j => Tp K H v [.str "or", .int i, .int j]
  | .and i j => Tp K H v [.str "and", .int i, .int j]
  | .less i j => Tp K H v [.str "less", .int i, .int j]
  | .not i => Tp K H v [.str "not", .int i]
  | .move i s => Tp K H v [.str "move", .int i, .int s]
/-- .. and what it means, the earlier sets given -/
def Tell (p : Int) (As : List (Int → Prop)) : Pl → (Int → Prop) → Prop
  | .spans ss, A => (∀ s ∈ ss, Sok p s) ∧ ss.length ≤ 3 ∧ ∀ t, A t ↔ Rn.inSpans p ss t
  | .or i j, A => ∃ B C, As[i]? = some B ∧ As[j]? = some C ∧ ∀ t, A t ↔ B t ∨ C t
  | .and i j, A => ∃ B C, As[i]? = some B ∧ As[j]? = some C ∧ ∀ t, A t ↔ B t ∧ C t
  | .less i j, A => ∃ B C, As[i]? = some B ∧ As[j]? = some C ∧ ∀ t, A t ↔ B t ∧ ¬ C t
  | .not i, A => ∃ B, As[i]? = some B ∧ ∀ t, A t ↔ ¬ B t
  | .move i s, A => ∃ B, As[i]? = some B ∧ ∀ t, A t ↔ B (t - s)
theorem PlV.same {K : W.Frag} {N : List Addr} {H H' : Hp} {v : V} (s : Same H H') : ∀ {pl : Pl}, PlV K N H v pl → PlV K N H' v pl
  | .spans _, ⟨l, xs, h1, hn, h2, h3⟩ => ⟨l, xs, h1.same s, hn, s _ _ h2, Sns.same h3 s⟩
  | .or _ _, h => Tp.same h s
  | .and _ _, h => Tp.same h s
  | .less _ _, h => Tp.same h s
  | .not _, h => Tp.same h s
  | .move _ _, h => Tp.same h s
end TM
end

section
set_option maxHeartbeats 4000000
namespace TM
open PySem PySem.Spec PyProof.Rows L2 EW
abbrev NEdges : List Str := ["_law_plain_here"]
theorem Edges : FnScope NEdges ["_law_plain_here"] (defScope sEdges) := ⟨rfl, rfl, rfl, by decide +kernel, rfl, by decide +kernel, by decide +kernel⟩
def spEdges (K : W.Frag) : Sp := fun vs H Q _ => ∃ (N : List Addr) (p : Int) (v : V) (pl : Pl) (As : List (Int → Prop)) (B : Int → Prop), vs = [v] ∧ PlV K N H v pl ∧ Tell p As pl B ∧ ∀ (q : Addr) (ns : List Int) (H' : Hp), H q = none → Same H H' → H' q = some (.lst (ns.map V.int)) → (∀ n ∈ ns, Far n) → ns.length ≤ 6 → Q (.ref q) H'
section
variable {P : Program} {w : World} {K : W.Frag} {mg : Str → Option Value} {base : Heap}
theorem ok_edges {fd : FuncData} (F : FnP K "_law_edges" sEdges fd) (D_law_bounds : Df P w K mg base 1 "_law_bounds" ["_law_spans_here"] (spBounds K)) : FnOk P w K mg base CX0 2 (He.ga K "_law_edges") fd ["_law_plain_here"] (spEdges K) := by
  refine F.ok Edges (fun vs H Q E h => ?_) (fun cdv A outer s H vs Q E hr h => ?_)
  · obtain ⟨N, p, v, pl, As, B, rfl, _⟩ := h
    rfl
  · obtain ⟨N, p, v, pl, As, B, rfl, hv, ht, k⟩ := h
    refine ⟨_, PSs.nox (pss_one (ps_ret (pe_ifExp (pt_cmpR op_eq (pe_ix (ix_tupK K rfl) (pv 0) pe_int (fun _ _ => rfl)) pe_str (nomark _)) (pe_df D_law_bounds (hr.mono (by decide)) rfl (pa_cons (pe_ix (ix_tupK K rfl) (pv 0) pe_int (fun _ _ => rfl)) pa_nil)) (pe_lstS pa_nil)))), ?_⟩
    cases pl with
    | spans ss =>
      obtain ⟨l, xs, ⟨x, rfl, hx⟩, _, e, R⟩ := hv
      obtain ⟨h1, h2, _⟩ := ht
      have hl := R.length
      refine ⟨_, rfl, x, _, _, _, rfl, rfl, hx, rfl, rfl, _, rfl, iteT ?_⟩
      refine ⟨_, rfl, x, _, _, _, rfl, rfl, hx, rfl, l, xs, ss, rfl, SqL.of e, R, fun s hs => (h1 s hs).2, by omega, fun q H2 ns n2 s2 e2 hf hn => ?_⟩
      exact k q ns H2 n2 s2 e2 hf (by omega)
    | or i j =>
      obtain ⟨x, rfl, hx⟩ := hv
      refine ⟨_, rfl, x, _, _, _, rfl, rfl, hx, rfl, rfl, _, rfl, iteC (by decide) ⟨(by show 0 ≤ sizeLine; decide), fun q H2 n2 s2 e2 => ?_⟩⟩
      exact k q [] H2 n2 s2 e2 (fun n hn => nomatch hn) (Nat.zero_le _)
    | and i j =>
      obtain ⟨x, rfl, hx⟩ := hv
      refine ⟨_, rfl, x, _, _, _, rfl, rfl, hx, rfl, rfl, _, rfl, iteC (by decide) ⟨(by show 0 ≤ sizeLine; decide), fun q H2 n2 s2 e2 => ?_⟩⟩
      exact k q [] H2 n2 s2 e2 (fun n hn => nomatch hn) (Nat.zero_le _)
    | less i j =>
      obtain ⟨x, rfl, hx⟩ := hv
      refine ⟨_, rfl, x, _, _, _, rfl, rfl, hx, rfl, rfl, _, rfl, iteC (by decide) ⟨(by show 0 ≤ sizeLine; decide), fun q H2 n2 s2 e2 => ?_⟩⟩
      exact k q [] H2 n2 s2 e2 (fun n hn => nomatch hn) (Nat.zero_le _)
    | not i =>
      obtain ⟨x, rfl, hx⟩ := hv
      refine ⟨_, rfl, x, _, _, _, rfl, rfl, hx, rfl, rfl, _, rfl, iteC (by decide) ⟨(by show 0 ≤ sizeLine; decide), fun q H2 n2 s2 e2 => ?_⟩⟩
      exact k q [] H2 n2 s2 e2 (fun n hn => nomatch hn) (Nat.zero_le _)
    | move i t =>
      obtain ⟨x, rfl, hx⟩ := hv
      refine ⟨_, rfl, x, _, _, _, rfl, rfl, hx, rfl, rfl, _, rfl, iteC (by decide) ⟨(by show 0 ≤ sizeLine; decide), fun q H2 n2 s2 e2 => ?_⟩⟩
      exact k q [] H2 n2 s2 e2 (fun n hn => nomatch hn) (Nat.zero_le _)
end
end TM
end

section
set_option maxHeartbeats 4000000
namespace TM
open PySem PySem.Spec PyProof.Rows L2 EW
abbrev NHasL : List Str := ["_law_period_here", "_law_known", "_law_plain_here", "_law_time", "_law_here", "_law_there"]
theorem HasL : FnScope NHasL ["_law_period_here", "_law_known", "_law_plain_here", "_law_time"] (defScope sHasL) := ⟨rfl, rfl, rfl, by decide +kernel, rfl, by decide +kernel, by decide +kernel⟩
theorem nil_ {σ : L2.St} {H : Hp} {R : List V → Hp → Prop} (h : R [] H) : tNil σ H R := h
theorem Tell.mono {p : Int} {As As' : List (Int → Prop)} {B : Int → Prop} (h : ∀ (i : Nat) A, As[i]? = some A → As'[i]? = some A) : ∀ {pl : Pl}, Tell p As pl B → Tell p As' pl B
  | .spans _, q => q
  | .or _ _, ⟨A, C, h1, h2, e⟩ => ⟨A, C, h _ _ h1, h _ _ h2, e⟩
  | .and _ _, ⟨A, C, h1, h2, e⟩ => ⟨A, C, h _ _ h1, h _ _ h2, e⟩
  | .less _ _, ⟨A, C, h1, h2, e⟩ => ⟨A, C, h _ _ h1, h _ _ h2, e⟩
  | .not _, ⟨A, h1, e⟩ => ⟨A, h _ _ h1, e⟩
  | .move _ _, ⟨A, h1, e⟩ => ⟨A, h _ _ h1, e⟩
/-- what is known: each told by the earlier ones -/
structure Kn (K : W.Frag) (N : List Addr) (H : Hp) (p : Int) (l : Addr) (pls : List Pl) (As : List (Int → Prop)) : Prop where
  at_ : ∃ vs, H l = some (.lst vs) ∧ Paired (fun v pl => PlV K N H v pl) vs pls
  len : pls.length = As.length
  few : pls.length ≤ 7
  tell : ∀ (i : Nat) pl A, pls[i]? = some pl → As[i]? = some A → Tell p (As.take i) pl A
theorem Kn.same {K : W.Frag} {N : List Addr} {H H' : Hp} {p : Int} {l : Addr} {pls : List Pl} {As : List (Int → Prop)} (h : Kn K N H p l pls As) (s : Same H H') : Kn K N H' p l pls As :=
  ⟨let ⟨vs, e, r⟩ := h.at_; ⟨vs, s _ _ e, Paired.mono (fun _ _ q => PlV.same s q) r⟩, h.len, h.few, h.tell⟩
theorem Kn.get {K : W.Frag} {N : List Addr} {H : Hp} {p : Int} {l : Addr} {pls : List Pl} {As : List (Int → Prop)} (h : Kn K N H p l pls As) {i a : Nat} {A : Int → Prop} (e : (As.take i)[a]? = some A) : a < i ∧ ∃ vs u pl, H l = some (.lst vs) ∧ vs[a]? = some u ∧ PlV K N H u pl ∧ Tell p (As.take a) pl A := by
  have ha : a < i := by
    have := (List.getElem?_eq_some_iff.mp e).1
    rw [List.length_take] at this
    omega
  rw [List.getElem?_take, if_pos ha] at e
  have hl := (List.getElem?_eq_some_iff.mp e).1
  obtain ⟨vs, e1, R⟩ := h.at_
  have hle := R.length
  have hlen := h.len
  have hv : a < vs.length := by omega
  obtain ⟨pl, hpl, hP⟩ := pr_get R (List.getElem?_eq_getElem hv)
  exact ⟨ha, vs, _, pl, e1, List.getElem?_eq_getElem hv, hP, h.tell a pl A hpl e⟩
def spHas (K : W.Frag) (j : Nat) : Sp := fun vs H Q _ => ∃ (N : List Addr) (p t : Int) (l : Addr) (v : V) (pl : Pl) (pls : List Pl) (As : List (Int → Prop)) (B : Int → Prop) (i : Nat), vs = [.int p, .ref l, v, .int t] ∧ 0 < p ∧ i < j ∧ Kn K N H p l pls As ∧ PlV K N H v pl ∧ Tell p (As.take i) pl B ∧
  ∀ (b : Bool) (H' : Hp), (b = true ↔ B t) → Same H H' → Q (.bl b) H'
section
variable {P : Program} {w : World} {K : W.Frag} {mg : Str → Option Value} {base : Heap}
theorem has_no {fd : FuncData} (F : FnP K "_law_has" sHasL fd) : FnOk P w K mg base CX0 3 (He.ga K "_law_has") fd ["_law_period_here", "_law_known", "_law_plain_here", "_law_time"] (spHas K 0) := by
  refine F.ok HasL (fun vs H Q E h => ?_) (fun cdv A outer s H vs Q E hr h => ?_)
  · obtain ⟨N, p, t, l, v, pl, pls, As, B, i, rfl, hp, hi, _⟩ := h
    exact nomatch hi
  · obtain ⟨N, p, t, l, v, pl, pls, As, B, i, rfl, hp, hi, _⟩ := h
    exact nomatch hi
theorem has_step {fd : FuncData} (F : FnP K "_law_has" sHasL fd) (j : Nat) (D_law_is_in : Df P w K mg base 2 "_law_is_in" ["_law_period_here", "_law_spans_here", "_law_time"] (spIsIn K)) (D_law_has : Df P w K mg base (j + 3) "_law_has" ["_law_period_here", "_law_known", "_law_plain_here", "_law_time"] (spHas K j)) :
    FnOk P w K mg base CX0 (j + 4) (He.ga K "_law_has") fd ["_law_period_here", "_law_known", "_law_plain_here", "_law_time"] (spHas K (j + 1)) := by
  refine F.ok HasL (fun vs H Q E h => ?_) (fun cdv A outer s H vs Q E hr h => ?_)
  · obtain ⟨N, p, t, l, v, pl, pls, As, B, i, rfl, _⟩ := h
    rfl
  · obtain ⟨N, p, t, l, v, pl, pls, As, B, i, rfl, hp, hi, hK, hv, ht, k⟩ := h
    refine ⟨_, PSs.nox (pss_cons (ps_if (pt_cmpR op_eq (pe_ix (ix_tupK K rfl) (pv 2) pe_int (fun _ _ => rfl)) pe_str (nomark _)) (pss_one (ps_ret (pe_df D_law_is_in (hr.mono (by omega)) rfl (pa_cons (pv 0) (pa_cons (pe_ix (ix_tupK K rfl) (pv 2) pe_int (fun _ _ => rfl)) (pa_cons (pv 3) pa_nil)))))) pss_nil)
      (pss_cons (ps_if (pt_cmpR op_eq (pe_ix (ix_tupK K rfl) (pv 2) pe_int (fun _ _ => rfl)) pe_str (nomark _)) (pss_one (ps_ret (pe_df D_law_has (hr.mono (by omega)) rfl (pa_cons (pv 0) (pa_cons (pv 1) (pa_cons (pe_ix (ix_listK K rfl) (pv 1) (pe_ix (ix_tupK K rfl) (pv 2) pe_int (fun _ _ => rfl)) (fun _ _ => rfl)) (pa_cons (pe_op op_sub (pv 3) (pe_ix (ix_tupK K rfl) (pv 2) pe_int (fun _ _ => rfl))) pa_nil))))))) pss_nil)
      (pss_cons (ps_set (i := 4) HasL.nd rfl (Or.inl rfl) (pe_df D_law_has (hr.mono (by omega)) rfl (pa_cons (pv 0) (pa_cons (pv 1) (pa_cons (pe_ix (ix_listK K rfl) (pv 1) (pe_ix (ix_tupK K rfl) (pv 2) pe_int (fun _ _ => rfl)) (fun _ _ => rfl)) (pa_cons (pv 3) pa_nil))))))
      (pss_cons (ps_if (pt_cmpR op_eq (pe_ix (ix_tupK K rfl) (pv 2) pe_int (fun _ _ => rfl)) pe_str (nomark _)) (pss_one (ps_ret (pe_not (pv 4)))) pss_nil)
      (pss_cons (ps_set (i := 5) HasL.nd rfl (Or.inl rfl) (pe_df D_law_has (hr.mono (by omega)) rfl (pa_cons (pv 0) (pa_cons (pv 1) (pa_cons (pe_ix (ix_listK K rfl) (pv 1) (pe_ix (ix_tupK K rfl) (pv 2) pe_int (fun _ _ => rfl)) (fun _ _ => rfl)) (pa_cons (pv 3) pa_nil))))))
      (pss_cons (ps_if (pt_cmpR op_eq (pe_ix (ix_tupK K rfl) (pv 2) pe_int (fun _ _ => rfl)) pe_str (nomark _)) (pss_one (ps_ret (pe_and (pv 4) (pe_one (pe_not (pv 5)))))) pss_nil)
      (pss_one (ps_ret (pe_ifExp (pt_cmpR op_eq (pe_ix (ix_tupK K rfl) (pv 2) pe_int (fun _ _ => rfl)) pe_str (nomark _)) (pe_or (pv 4) (pe_one (pv 5))) (pe_and (pv 4) (pe_one (pv 5)))))))))))), ?_⟩
    have call : ∀ {a : Nat} {A : Int → Prop} {H1 : Hp}, (As.take i)[a]? = some A → Same H H1 → ∃ vs u, H1 l = some (.lst vs) ∧ vs[a]? = some u ∧ ∀ (t : Int) (Q : VK), (∀ (b : Bool) (H' : Hp), (b = true ↔ A t) → Same H1 H' → Q (.bl b) H') → spHas K j [.int p, .ref l, u, .int t] H1 Q E0 := fun {a A H1} e s1 => by
      obtain ⟨ha, vs, u, pl', e1, e2, hP, hT⟩ := (hK.same s1).get e
      exact ⟨vs, u, e1, e2, fun t Q q => ⟨N, p, t, l, u, pl', pls, As, A, a, rfl, hp, by omega, hK.same s1, hP, hT, q⟩⟩
    cases pl with
    | spans ss =>
      obtain ⟨q, xs, ⟨x, rfl, hx⟩, _, e, R⟩ := hv
      obtain ⟨h1, h2, h3⟩ := ht
      have hl := R.length
      refine ⟨_, rfl, x, _, _, _, rfl, rfl, hx, rfl, rfl, _, rfl, iteT ?_⟩
      refine ⟨_, rfl, _, rfl, x, _, _, _, rfl, rfl, hx, rfl, _, rfl, p, t, q, xs, ss, rfl, hp, SqL.of e, R, by omega, fun b H2 hb s2 => ?_⟩
      exact k b H2 (hb.trans (h3 t).symm) s2
    | move a m =>
      obtain ⟨x, rfl, hx⟩ := hv
      obtain ⟨A, e, h3⟩ := ht
      obtain ⟨vs, u, e1, e2, c⟩ := call e (Same.refl H)
      refine ⟨_, rfl, x, _, _, _, rfl, rfl, hx, rfl, rfl, _, rfl, iteC (by decide) ?_⟩
      refine ⟨_, rfl, x, _, _, _, rfl, rfl, hx, rfl, rfl, _, rfl, iteT ?_⟩
      refine ⟨_, rfl, _, rfl, _, rfl, _, rfl, x, _, _, _, rfl, rfl, hx, rfl, l, _, _, _, rfl, rfl, SqL.of e1, atI_nat e2, ?_⟩
      refine ⟨_, rfl, _, rfl, x, _, _, _, rfl, rfl, hx, rfl, _, _, rfl, rfl, ?_⟩
      exact c _ _ fun b H2 hb s2 => k b H2 (hb.trans (h3 t).symm) s2
    | not a =>
      obtain ⟨x, rfl, hx⟩ := hv
      obtain ⟨A, e, h3⟩ := ht
      obtain ⟨vs, u, e1, e2, c⟩ := call e (Same.refl H)
      refine ⟨_, rfl, x, _, _, _, rfl, rfl, hx, rfl, rfl, _, rfl, iteC (by decide) ?_⟩
      refine ⟨_, rfl, x, _, _, _, rfl, rfl, hx, rfl, rfl, _, rfl, iteC (by decide) ?_⟩
      refine ⟨_, rfl, _, rfl, _, rfl, _, rfl, x, _, _, _, rfl, rfl, hx, rfl, l, _, _, _, rfl, rfl, SqL.of e1, atI_nat e2, _, rfl, ?_⟩
      refine nil_ (c _ _ fun b H2 hb s2 => ?_)
      have hx2 := SqT.same hx s2
      refine ⟨_, rfl, x, _, _, _, rfl, rfl, hx2, rfl, rfl, _, rfl, iteT ?_⟩
      refine ⟨_, rfl, b, rfl, ?_⟩
      refine k _ H2 ?_ s2
      rw [h3, ← hb]
      cases b <;> simp
    | less a b =>
      obtain ⟨x, rfl, hx⟩ := hv
      obtain ⟨A, C, e, e', h3⟩ := ht
      obtain ⟨vs, u, e1, e2, c⟩ := call e (Same.refl H)
      refine ⟨_, rfl, x, _, _, _, rfl, rfl, hx, rfl, rfl, _, rfl, iteC (by decide) ?_⟩
      refine ⟨_, rfl, x, _, _, _, rfl, rfl, hx, rfl, rfl, _, rfl, iteC (by decide) ?_⟩
      refine ⟨_, rfl, _, rfl, _, rfl, _, rfl, x, _, _, _, rfl, rfl, hx, rfl, l, _, _, _, rfl, rfl, SqL.of e1, atI_nat e2, _, rfl, ?_⟩
      refine nil_ (c _ _ fun f H2 hf s2 => ?_)
      have hx2 := SqT.same hx s2
      refine ⟨_, rfl, x, _, _, _, rfl, rfl, hx2, rfl, rfl, _, rfl, iteC (by decide) ?_⟩
      obtain ⟨vs, u, e1, e2, c⟩ := call e' s2
      refine ⟨_, rfl, _, rfl, _, rfl, _, rfl, x, _, _, _, rfl, rfl, hx2, rfl, l, _, _, _, rfl, rfl, SqL.of e1, atI_nat e2, _, rfl, ?_⟩
      refine nil_ (c _ _ fun g H3 hg s3 => ?_)
      have hx3 := SqT.same hx2 s3
      refine ⟨_, rfl, x, _, _, _, rfl, rfl, hx3, rfl, rfl, _, rfl, iteT ?_⟩
      refine ⟨_, rfl, f, rfl, ?_⟩
      have s13 := Same.trans s2 s3
      cases f with
      | true =>
        refine iteT ⟨_, rfl, g, rfl, k _ H3 ?_ s13⟩
        rw [h3, ← hf, ← hg]
        cases g <;> simp
      | false =>
        refine iteF (k _ H3 ?_ s13)
        rw [h3, ← hf, ← hg]
        simp
    | or a b =>
      obtain ⟨x, rfl, hx⟩ := hv
      obtain ⟨A, C, e, e', h3⟩ := ht
      obtain ⟨vs, u, e1, e2, c⟩ := call e (Same.refl H)
      refine ⟨_, rfl, x, _, _, _, rfl, rfl, hx, rfl, rfl, _, rfl, iteC (by decide) ?_⟩
      refine ⟨_, rfl, x, _, _, _, rfl, rfl, hx, rfl, rfl, _, rfl, iteC (by decide) ?_⟩
      refine ⟨_, rfl, _, rfl, _, rfl, _, rfl, x, _, _, _, rfl, rfl, hx, rfl, l, _, _, _, rfl, rfl, SqL.of e1, atI_nat e2, _, rfl, ?_⟩
      refine nil_ (c _ _ fun f H2 hf s2 => ?_)
      have hx2 := SqT.same hx s2
      refine ⟨_, rfl, x, _, _, _, rfl, rfl, hx2, rfl, rfl, _, rfl, iteC (by decide) ?_⟩
      obtain ⟨vs, u, e1, e2, c⟩ := call e' s2
      refine ⟨_, rfl, _, rfl, _, rfl, _, rfl, x, _, _, _, rfl, rfl, hx2, rfl, l, _, _, _, rfl, rfl, SqL.of e1, atI_nat e2, _, rfl, ?_⟩
      refine nil_ (c _ _ fun g H3 hg s3 => ?_)
      have hx3 := SqT.same hx2 s3
      refine ⟨_, rfl, x, _, _, _, rfl, rfl, hx3, rfl, rfl, _, rfl, iteC (by decide) ?_⟩
      refine ⟨_, rfl, x, _, _, _, rfl, rfl, hx3, rfl, rfl, _, rfl, iteT ?_⟩
      refine ⟨_, rfl, f, rfl, ?_⟩
      have s13 := Same.trans s2 s3
      cases f with
      | true =>
        refine iteT (k _ H3 ?_ s13)
        rw [h3, ← hf, ← hg]
        simp
      | false =>
        refine iteF ⟨_, rfl, k _ H3 ?_ s13⟩
        rw [h3, ← hf, ← hg]
        simp
    | and a b =>
      obtain ⟨x, rfl, hx⟩ := hv
      obtain ⟨A, C, e, e', h3⟩ := ht
      obtain ⟨vs, u, e1, e2, c⟩ := call e (Same.refl H)
      refine ⟨_, rfl, x, _, _, _, rfl, rfl, hx, rfl, rfl, _, rfl, iteC (by decide) ?_⟩
      refine ⟨_, rfl, x, _, _, _, rfl, rfl, hx, rfl, rfl, _, rfl, iteC (by decide) ?_⟩
      refine ⟨_, rfl, _, rfl, _, rfl, _, rfl, x, _, _, _, rfl, rfl, hx, rfl, l, _, _, _, rfl, rfl, SqL.of e1, atI_nat e2, _, rfl, ?_⟩
      refine nil_ (c _ _ fun f H2 hf s2 => ?_)
      have hx2 := SqT.same hx s2
      refine ⟨_, rfl, x, _, _, _, rfl, rfl, hx2, rfl, rfl, _, rfl, iteC (by decide) ?_⟩
      obtain ⟨vs, u, e1, e2, c⟩ := call e' s2
      refine ⟨_, rfl, _, rfl, _, rfl, _, rfl, x, _, _, _, rfl, rfl, hx2, rfl, l, _, _, _, rfl, rfl, SqL.of e1, atI_nat e2, _, rfl, ?_⟩
      refine nil_ (c _ _ fun g H3 hg s3 => ?_)
      have hx3 := SqT.same hx2 s3
      refine ⟨_, rfl, x, _, _, _, rfl, rfl, hx3, rfl, rfl, _, rfl, iteC (by decide) ?_⟩
      refine ⟨_, rfl, x, _, _, _, rfl, rfl, hx3, rfl, rfl, _, rfl, iteC (by decide) ?_⟩
      refine ⟨_, rfl, f, rfl, ?_⟩
      have s13 := Same.trans s2 s3
      cases f with
      | true =>
        refine iteT ⟨_, rfl, k _ H3 ?_ s13⟩
        rw [h3, ← hf, ← hg]
        simp
      | false =>
        refine iteF (k _ H3 ?_ s13)
        rw [h3, ← hf, ← hg]
        simp
end
end TM
end

section
set_option maxHeartbeats 4000000
namespace TM
open PySem PySem.Spec PyProof.Rows L2 EW
abbrev NMadeL : List Str := ["_law_period_here", "_law_made_here", "_law_plain_here", "_law_one", "_law_two"]
theorem MadeL : FnScope NMadeL ["_law_period_here", "_law_made_here", "_law_plain_here"] (defScope sMadeL) := ⟨rfl, rfl, rfl, by decide +kernel, rfl, by decide +kernel, by decide +kernel⟩
def spMade (K : W.Frag) : Sp := fun vs H Q _ => ∃ (N : List Addr) (p : Int) (m : Addr) (v : V) (pl : Pl) (us : List V) (As : List (Int → Prop)) (B : Int → Prop), vs = [.int p, .ref m, v] ∧ 1 ≤ p ∧ p ≤ 12 ∧ H m = some (.lst us) ∧ (∀ (i : Nat) A, As[i]? = some A → ∃ u, us[i]? = some u ∧ Has K H u p A 1200) ∧
  PlV K N H v pl ∧ Tell p As pl B ∧ ∀ u H', Same H H' → Has K H' u p B 3000000 → Q u H'
section
variable {P : Program} {w : World} {K : W.Frag} {mg : Str → Option Value} {base : Heap}
theorem ok_made {fd : FuncData} (F : FnP K "_law_made" sMadeL fd) (T : Fre mg) (KT : Kl K mg "Times") (Cof : CMt P w K mg base 9 (CT K) "of" (spOf K)) (Mor : Mt P w K mg base 10 (CT K) "__or__" ["self", "other"] (spOr K)) (Mand : Mt P w K mg base 10 (CT K) "__and__" ["self", "other"] (spAnd K)) (Minv : Mt P w K mg base 10 (CT K) "__invert__" ["self"] (spInv K)) (Msub : Mt P w K mg base 11 (CT K) "__sub__" ["self", "other"] (spSub K)) (Mshi : Mtk P w K mg base 10 (CT K) "shifted" ["self", "many"] [] [] (spShift K)) :
    FnOk P w K mg base CX0 12 (He.ga K "_law_made") fd ["_law_period_here", "_law_made_here", "_law_plain_here"] (spMade K) := by
  refine F.ok MadeL (fun vs H Q E h => ?_) (fun cdv A outer s H vs Q E hr h => ?_)
  · obtain ⟨N, p, m, v, pl, us, As, B, rfl, _⟩ := h
    rfl
  · obtain ⟨N, p, m, v, pl, us, As, B, rfl, p1, p2, hm, hA, hv, ht, k⟩ := h
    refine ⟨_, PSs.nox (pss_cons (ps_if (pt_cmpR op_eq (pe_ix (ix_tupK K rfl) (pv 2) pe_int (fun _ _ => rfl)) pe_str (nomark _)) (pss_one (ps_ret (pe_cmt (pe_glob (v := .ref (He.ga K "Times")) rfl KT.g rfl) Cof (hr.mono (by decide)) (pa_cons (pv 0) (pa_cons (pe_callTy (call_tupS K rfl) (by rfl) T.tuple EW.boot_tuple (pa_cons (pe_ix (ix_tupK K rfl) (pv 2) pe_int (fun _ _ => rfl)) pa_nil)) pa_nil))))) pss_nil)
      (pss_cons (ps_set (i := 3) MadeL.nd rfl (Or.inl rfl) (pe_ix (ix_listK K rfl) (pv 1) (pe_ix (ix_tupK K rfl) (pv 2) pe_int (fun _ _ => rfl)) (fun _ _ => rfl)))
      (pss_cons (ps_if (pt_cmpR op_eq (pe_ix (ix_tupK K rfl) (pv 2) pe_int (fun _ _ => rfl)) pe_str (nomark _)) (pss_one (ps_ret (pe_mtk (pv 3) KT.cl Mshi (hr.mono (by decide)) (pa_cons (pe_ix (ix_tupK K rfl) (pv 2) pe_int (fun _ _ => rfl)) pa_nil)))) pss_nil)
      (pss_cons (ps_if (pt_cmpR op_eq (pe_ix (ix_tupK K rfl) (pv 2) pe_int (fun _ _ => rfl)) pe_str (nomark _)) (pss_one (ps_ret (pe_un (un_own Minv (hr.mono (by decide))) (pv 3)))) pss_nil)
      (pss_cons (ps_set (i := 4) MadeL.nd rfl (Or.inl rfl) (pe_ix (ix_listK K rfl) (pv 1) (pe_ix (ix_tupK K rfl) (pv 2) pe_int (fun _ _ => rfl)) (fun _ _ => rfl)))
      (pss_cons (ps_if (pt_cmpR op_eq (pe_ix (ix_tupK K rfl) (pv 2) pe_int (fun _ _ => rfl)) pe_str (nomark _)) (pss_one (ps_ret (pe_op (op_own Msub KT.sf (hr.mono (by decide))) (pv 3) (pv 4)))) pss_nil)
      (pss_one (ps_ret (pe_ifExp (pt_cmpR op_eq (pe_ix (ix_tupK K rfl) (pv 2) pe_int (fun _ _ => rfl)) pe_str (nomark _)) (pe_op (op_own Mor KT.sf (hr.mono (by decide))) (pv 3) (pv 4)) (pe_op (op_own Mand KT.sf (hr.mono (by decide))) (pv 3) (pv 4))))))))))), ?_⟩
    have hp : p.toNat ≤ 12 := by omega
    cases pl with
    | spans ss =>
      obtain ⟨q, xs, ⟨x, rfl, hx⟩, _, e, R⟩ := hv
      obtain ⟨h1, h2, h3⟩ := ht
      refine ⟨_, rfl, x, _, _, _, rfl, rfl, hx, rfl, rfl, _, rfl, iteT ?_⟩
      refine ⟨rfl, _, rfl, _, rfl, x, _, _, _, rfl, rfl, hx, rfl, q, xs, rfl, SqL.of e, fun q1 H2 n2 s2 e2 => hOf p1 (by omega) (SqT.of e2) (Sns.same R s2) (fun s hs => (h1 s hs).1) (by omega) fun u H3 s3 h3' => ?_⟩
      have hb : p.toNat * ss.length ≤ 36 := Nat.mul_le_mul hp h2
      exact k u H3 (Same.trans s2 s3) ((h3'.mem fun t => (h3 t).symm).le (by omega))
    | move a m' =>
      obtain ⟨x, rfl, hx⟩ := hv
      obtain ⟨A, e, h3⟩ := ht
      obtain ⟨u, e1, hu⟩ := hA a A e
      refine ⟨_, rfl, x, _, _, _, rfl, rfl, hx, rfl, rfl, _, rfl, iteC (by decide) ?_⟩
      refine ⟨_, rfl, _, rfl, x, _, _, _, rfl, rfl, hx, rfl, m, _, _, _, rfl, rfl, SqL.of hm, atI_nat e1, ?_⟩
      refine ⟨_, rfl, x, _, _, _, rfl, rfl, hx, rfl, rfl, _, rfl, iteT ?_⟩
      refine ⟨_, rfl, hMt "shifted" (fun _ _ => rfl) hu ⟨_, rfl, x, _, _, _, rfl, rfl, hx, rfl, nil_ (hShift hu fun f H1 s1 h1 => ?_)⟩⟩
      exact k f H1 s1 ((h1.mem fun t => (h3 t).symm).le (by omega))
    | not a =>
      obtain ⟨x, rfl, hx⟩ := hv
      obtain ⟨A, e, h3⟩ := ht
      obtain ⟨u, e1, hu⟩ := hA a A e
      refine ⟨_, rfl, x, _, _, _, rfl, rfl, hx, rfl, rfl, _, rfl, iteC (by decide) ?_⟩
      refine ⟨_, rfl, _, rfl, x, _, _, _, rfl, rfl, hx, rfl, m, _, _, _, rfl, rfl, SqL.of hm, atI_nat e1, ?_⟩
      refine ⟨_, rfl, x, _, _, _, rfl, rfl, hx, rfl, rfl, _, rfl, iteC (by decide) ?_⟩
      refine ⟨_, rfl, x, _, _, _, rfl, rfl, hx, rfl, rfl, _, rfl, iteT ?_⟩
      refine ⟨_, rfl, hInv hu (by omega) fun f H1 s1 h1 => ?_⟩
      exact k f H1 s1 ((h1.mem fun t => (h3 t).symm).le (by omega))
    | less a b =>
      obtain ⟨x, rfl, hx⟩ := hv
      obtain ⟨A, C, e, e', h3⟩ := ht
      obtain ⟨u, e1, hu⟩ := hA a A e
      obtain ⟨v, e2, hv⟩ := hA b C e'
      refine ⟨_, rfl, x, _, _, _, rfl, rfl, hx, rfl, rfl, _, rfl, iteC (by decide) ?_⟩
      refine ⟨_, rfl, _, rfl, x, _, _, _, rfl, rfl, hx, rfl, m, _, _, _, rfl, rfl, SqL.of hm, atI_nat e1, ?_⟩
      refine ⟨_, rfl, x, _, _, _, rfl, rfl, hx, rfl, rfl, _, rfl, iteC (by decide) ?_⟩
      refine ⟨_, rfl, x, _, _, _, rfl, rfl, hx, rfl, rfl, _, rfl, iteC (by decide) ?_⟩
      refine ⟨_, rfl, _, rfl, x, _, _, _, rfl, rfl, hx, rfl, m, _, _, _, rfl, rfl, SqL.of hm, atI_nat e2, ?_⟩
      refine ⟨_, rfl, x, _, _, _, rfl, rfl, hx, rfl, rfl, _, rfl, iteT ?_⟩
      have hb : 1200 * (1200 + p.toNat) ≤ 1200 * 1212 := Nat.mul_le_mul_left _ (by omega)
      refine ⟨_, rfl, _, rfl, hSub hu hv (by omega) (by omega) fun f H1 s1 h1 => ?_⟩
      exact k f H1 s1 ((h1.mem fun t => (h3 t).symm).le (by omega))
    | or a b =>
      obtain ⟨x, rfl, hx⟩ := hv
      obtain ⟨A, C, e, e', h3⟩ := ht
      obtain ⟨u, e1, hu⟩ := hA a A e
      obtain ⟨v, e2, hv⟩ := hA b C e'
      refine ⟨_, rfl, x, _, _, _, rfl, rfl, hx, rfl, rfl, _, rfl, iteC (by decide) ?_⟩
      refine ⟨_, rfl, _, rfl, x, _, _, _, rfl, rfl, hx, rfl, m, _, _, _, rfl, rfl, SqL.of hm, atI_nat e1, ?_⟩
      refine ⟨_, rfl, x, _, _, _, rfl, rfl, hx, rfl, rfl, _, rfl, iteC (by decide) ?_⟩
      refine ⟨_, rfl, x, _, _, _, rfl, rfl, hx, rfl, rfl, _, rfl, iteC (by decide) ?_⟩
      refine ⟨_, rfl, _, rfl, x, _, _, _, rfl, rfl, hx, rfl, m, _, _, _, rfl, rfl, SqL.of hm, atI_nat e2, ?_⟩
      refine ⟨_, rfl, x, _, _, _, rfl, rfl, hx, rfl, rfl, _, rfl, iteC (by decide) ?_⟩
      refine ⟨_, rfl, x, _, _, _, rfl, rfl, hx, rfl, rfl, _, rfl, iteT ?_⟩
      refine ⟨_, rfl, _, rfl, hOr hu hv (by omega) fun f H1 s1 h1 => ?_⟩
      exact k f H1 s1 ((h1.mem fun t => (h3 t).symm).le (by omega))
    | and a b =>
      obtain ⟨x, rfl, hx⟩ := hv
      obtain ⟨A, C, e, e', h3⟩ := ht
      obtain ⟨u, e1, hu⟩ := hA a A e
      obtain ⟨v, e2, hv⟩ := hA b C e'
      refine ⟨_, rfl, x, _, _, _, rfl, rfl, hx, rfl, rfl, _, rfl, iteC (by decide) ?_⟩
      refine ⟨_, rfl, _, rfl, x, _, _, _, rfl, rfl, hx, rfl, m, _, _, _, rfl, rfl, SqL.of hm, atI_nat e1, ?_⟩
      refine ⟨_, rfl, x, _, _, _, rfl, rfl, hx, rfl, rfl, _, rfl, iteC (by decide) ?_⟩
      refine ⟨_, rfl, x, _, _, _, rfl, rfl, hx, rfl, rfl, _, rfl, iteC (by decide) ?_⟩
      refine ⟨_, rfl, _, rfl, x, _, _, _, rfl, rfl, hx, rfl, m, _, _, _, rfl, rfl, SqL.of hm, atI_nat e2, ?_⟩
      refine ⟨_, rfl, x, _, _, _, rfl, rfl, hx, rfl, rfl, _, rfl, iteC (by decide) ?_⟩
      refine ⟨_, rfl, x, _, _, _, rfl, rfl, hx, rfl, rfl, _, rfl, iteC (by decide) ?_⟩
      refine ⟨_, rfl, _, rfl, hAnd hu hv (by omega) fun f H1 s1 h1 => ?_⟩
      exact k f H1 s1 ((h1.mem fun t => (h3 t).symm).le (by omega))
end
end TM
end

section
set_option maxHeartbeats 4000000
namespace TM
open PySem PySem.Spec PyProof.Rows L2 EW
abbrev NPlainL : List Str := ["_law_dice_here", "_law_period_here", "_law_known", "_law_way", "_law_one", "_law_two"]
theorem PlainL : FnScope NPlainL ["_law_dice_here", "_law_period_here", "_law_known"] (defScope sPlainL) := ⟨rfl, rfl, rfl, by decide +kernel, rfl, by decide +kernel, by decide +kernel⟩
/-- a plain set by k earlier ones -/
def Fits (p : Int) (k : Nat) : Pl → Prop
  | .spans ss => (∀ s ∈ ss, Sok p s) ∧ ss.length ≤ 3
  | .or i j => 2 ≤ k ∧ i < k ∧ j < k
  | .and i j => 2 ≤ k ∧ i < k ∧ j < k
  | .less i j => 2 ≤ k ∧ i < k ∧ j < k
  | .not i => 2 ≤ k ∧ i < k
  | .move i s => 2 ≤ k ∧ i < k
theorem Fits.tell {p : Int} (hp : 0 < p) {As : List (Int → Prop)} (h : ∀ A ∈ As, Rn.Cuts p A (3 * 2 ^ (As.length - 2))) : ∀ {pl : Pl}, Fits p As.length pl → ∃ B, Tell p As pl B ∧ Rn.Cuts p B (3 * 2 ^ (As.length - 1))
  | .spans ss, f => ⟨Rn.inSpans p ss, ⟨f.1, f.2, fun t => Iff.rfl⟩, (Rn.Cuts.spans hp ss).le (Nat.le_trans f.2 (Nat.le_mul_of_pos_right 3 (Nat.two_pow_pos _)))⟩
  | .or i j, ⟨f1, f2, f3⟩ => by
    have e : 3 * 2 ^ (As.length - 1) = 3 * 2 ^ (As.length - 2) + 3 * 2 ^ (As.length - 2) := by
      rw [show As.length - 1 = As.length - 2 + 1 by omega, Nat.pow_succ]
      omega
    exact ⟨_, ⟨_, _, List.getElem?_eq_getElem f2, List.getElem?_eq_getElem f3, fun t => Iff.rfl⟩, e ▸ (h _ (List.getElem_mem f2)).or (h _ (List.getElem_mem f3))⟩
  | .and i j, ⟨f1, f2, f3⟩ => by
    have e : 3 * 2 ^ (As.length - 1) = 3 * 2 ^ (As.length - 2) + 3 * 2 ^ (As.length - 2) := by
      rw [show As.length - 1 = As.length - 2 + 1 by omega, Nat.pow_succ]
      omega
    exact ⟨_, ⟨_, _, List.getElem?_eq_getElem f2, List.getElem?_eq_getElem f3, fun t => Iff.rfl⟩, e ▸ (h _ (List.getElem_mem f2)).and (h _ (List.getElem_mem f3))⟩
  | .less i j, ⟨f1, f2, f3⟩ => by
    have e : 3 * 2 ^ (As.length - 1) = 3 * 2 ^ (As.length - 2) + 3 * 2 ^ (As.length - 2) := by
      rw [show As.length - 1 = As.length - 2 + 1 by omega, Nat.pow_succ]
      omega
    exact ⟨_, ⟨_, _, List.getElem?_eq_getElem f2, List.getElem?_eq_getElem f3, fun t => Iff.rfl⟩, e ▸ (h _ (List.getElem_mem f2)).sub (h _ (List.getElem_mem f3))⟩
  | .not i, ⟨f1, f2⟩ => ⟨_, ⟨_, List.getElem?_eq_getElem f2, fun t => Iff.rfl⟩, ((h _ (List.getElem_mem f2)).not).le (Nat.mul_le_mul_left 3 (Nat.pow_le_pow_right (by decide) (by omega)))⟩
  | .move i s, ⟨f1, f2⟩ => ⟨_, ⟨_, List.getElem?_eq_getElem f2, fun t => Iff.rfl⟩, ((h _ (List.getElem_mem f2)).shift s).le (Nat.mul_le_mul_left 3 (Nat.pow_le_pow_right (by decide) (by omega)))⟩
theorem PlV.roll {K : W.Frag} {N : List Addr} {H H' : Hp} {v : V} {d : Addr} {n : Int} (D : Dc H d n) (k : EW.Kept d H H') : ∀ {pl : Pl}, PlV K N H v pl → PlV K N H' v pl
  | .spans ss, ⟨l, xs, h1, hn, h2, h3⟩ => by
    obtain ⟨ds, hd⟩ := D.lst
    have ne : l ≠ d := fun e => by
      obtain ⟨g, b, c, hd', _⟩ := D
      rw [e, hd'] at h2
      cases h2
      cases h3 with
      | cons h _ =>
        obtain ⟨a, e, _⟩ := h
        cases e
    exact ⟨l, xs, h1.kept hd k, hn, k _ _ ne h2, Sns.kept h3 hd k⟩
  | .or _ _, h => let ⟨_, hd⟩ := D.lst; Tp.kept h hd k
  | .and _ _, h => let ⟨_, hd⟩ := D.lst; Tp.kept h hd k
  | .less _ _, h => let ⟨_, hd⟩ := D.lst; Tp.kept h hd k
  | .not _, h => let ⟨_, hd⟩ := D.lst; Tp.kept h hd k
  | .move _ _, h => let ⟨_, hd⟩ := D.lst; Tp.kept h hd k
def spPlain (K : W.Frag) : Sp := fun vs H Q _ => ∃ (N : List Addr) (d l : Addr) (p n : Int) (us : List V), (∀ a ∈ N, a ≠ d ∧ ∃ o, H a = some o) ∧ vs = [.ref d, .int p, .ref l] ∧ Dc H d n ∧ n + 200 ≤ 1000000 ∧ 1 ≤ p ∧ p ≤ 12 ∧ l ≠ d ∧ H l = some (.lst us) ∧ us.length ≤ 7 ∧
  ∀ (v : V) (pl : Pl) (H' : Hp), EW.Kept d H H' → Dc H' d (n + 200) → PlV K N H' v pl → Fits p us.length pl → Q v H'
section
variable {P : Program} {w : World} {K : W.Frag} {mg : Str → Option Value} {base : Heap}
theorem ok_plain {fd : FuncData} (F : FnP K "_law_plain" sPlainL fd) (T : Fre mg) (D_law_roll : Df P w K mg base 1 "_law_roll" ["_law_dice_here", "_law_many"] spRoll) (D_law_near : Df P w K mg base 2 "_law_near" ["_law_dice_here", "_law_far"] spNear) (D_law_spans : Df P w K mg base 6 "_law_spans" ["_law_dice_here", "_law_period_here", "_law_most"] (spSpansL K)) :
    FnOk P w K mg base CX0 7 (He.ga K "_law_plain") fd ["_law_dice_here", "_law_period_here", "_law_known"] (spPlain K) := by
  refine F.ok PlainL (fun vs H Q E h => ?_) (fun cdv A outer s H vs Q E hr h => ?_)
  · obtain ⟨N, d, l, p, n, us, hN, rfl, _⟩ := h
    rfl
  · obtain ⟨N, d, l, p, n, us, hN, rfl, D, hn, p1, p2, nl, hl, hz, k⟩ := h
    refine ⟨_, PSs.nox (pss_cons (ps_set (i := 3) PlainL.nd rfl (Or.inl rfl) (pe_df D_law_roll (hr.mono (by decide)) rfl (pa_cons (pv 0) (pa_cons pe_int pa_nil))))
      (pss_cons (ps_if (PW.pt (pw_or (pt_cmpR op_lt (pe_callB (call_lenK K rfl) (by rfl) T.len PySem.boot_len (pa_cons (pv 2) pa_nil)) pe_int (nomark _)) (pw_or1 (pt_cmpR op_eq (pv 3) pe_int (nomark _))))) (pss_one (ps_ret (pe_tupS (pa_cons pe_str (pa_cons (pe_df D_law_spans (hr.mono (by decide)) rfl (pa_cons (pv 0) (pa_cons (pv 1) (pa_cons pe_int pa_nil)))) pa_nil))))) pss_nil)
      (pss_cons (ps_par (i := 4) (j := 5) (by rfl) PlainL.nd rfl rfl (by decide) rfl rfl (pa_cons (pe_df D_law_roll (hr.mono (by decide)) rfl (pa_cons (pv 0) (pa_cons (pe_callB (call_lenK K rfl) (by rfl) T.len PySem.boot_len (pa_cons (pv 2) pa_nil)) pa_nil))) (pa_cons (pe_df D_law_roll (hr.mono (by decide)) rfl (pa_cons (pv 0) (pa_cons (pe_callB (call_lenK K rfl) (by rfl) T.len PySem.boot_len (pa_cons (pv 2) pa_nil)) pa_nil))) pa_nil)) (by rfl))
      (pss_cons (ps_if (pt_cmpR op_lt (pv 3) pe_int (nomark _)) (pss_one (ps_ret (pe_tupS (pa_cons pe_str (pa_cons (pv 4) (pa_cons (pv 5) pa_nil)))))) pss_nil)
      (pss_cons (ps_if (pt_cmpR op_lt (pv 3) pe_int (nomark _)) (pss_one (ps_ret (pe_tupS (pa_cons pe_str (pa_cons (pv 4) (pa_cons (pv 5) pa_nil)))))) pss_nil)
      (pss_cons (ps_if (pt_cmpR op_eq (pv 3) pe_int (nomark _)) (pss_one (ps_ret (pe_tupS (pa_cons pe_str (pa_cons (pv 4) (pa_cons (pv 5) pa_nil)))))) pss_nil)
      (pss_one (ps_ret (pe_ifExp (pt_cmpR op_eq (pv 3) pe_int (nomark _)) (pe_tupS (pa_cons pe_str (pa_cons (pv 4) pa_nil))) (pe_tupS (pa_cons pe_str (pa_cons (pv 4) (pa_cons (pe_df D_law_near (hr.mono (by decide)) rfl (pa_cons (pv 0) (pa_cons pe_int pa_nil))) pa_nil))))))))))))), ?_⟩
    refine ⟨_, rfl, d, 8, _, rfl, D, by omega, by decide, by decide, fun y H1 y0 y1 k1 D1 => ?_⟩
    have hl1 := k1 _ _ nl hl
    -- drawn spans
    have sp : spSpansL K [.ref d, .int p, .int 3] H1 (fun x H2 => (2 : Nat) ≤ sizeLine ∧ New H2 (fun _ => .tup [.str "spans", x]) Q) E0 := by
      refine ⟨d, p, 3, _, rfl, D1, by omega, by omega, by omega, by decide, by decide, fun a xs ss H2 n2 g z k2 D2 e R => ⟨(by decide), fun q H3 n3 s3 e3 => ?_⟩⟩
      exact k _ (.spans ss) H3 (k1.trans (k2.trans (kept_of s3))) ((D2.same s3).mono (by omega)) ⟨a, xs, Tp.of e3, (fun ha => by obtain ⟨nd, o, ho⟩ := hN a ha; have := k1 _ _ nd ho; rw [n2] at this; cases this), s3 _ _ e, Sns.same R s3⟩ ⟨g, by omega⟩
    refine ⟨_, rfl, _, _, rfl, Or.inl ⟨_, SqL.of hl1, rfl⟩, _, _, rfl, rfl, _, rfl, ?_⟩
    by_cases h2 : us.length < 2
    · refine iteB (decide_eq_true (by omega)) (iteT ?_)
      exact ⟨_, rfl, _, rfl, sp⟩
    refine iteC (decide_eq_false (by omega)) ⟨_, rfl, rfl, _, rfl, ?_⟩
    by_cases h3 : y = 0
    · refine iteB (decide_eq_true (by rw [h3])) ?_
      exact ⟨_, rfl, _, rfl, sp⟩
    refine iteC (decide_eq_false (fun z => h3 (V.int.inj z))) ?_
    refine ⟨_, rfl, _, rfl, _, _, rfl, Or.inl ⟨_, SqL.of hl1, rfl⟩, d, _, _, rfl, D1, by omega, by omega, Int.lt_of_le_of_lt (by omega : (us.length : Int) ≤ 7) (by decide), fun i H2 i0 i1 k2 D2 => ?_⟩
    have hl2 := k2 _ _ nl hl1
    refine ⟨_, rfl, _, rfl, _, _, rfl, Or.inl ⟨_, SqL.of hl2, rfl⟩, d, _, _, rfl, D2, by omega, by omega, Int.lt_of_le_of_lt (by omega : (us.length : Int) ≤ 7) (by decide), fun j H3 j0 j1 k3 D3 => ?_⟩
    obtain ⟨i, rfl⟩ := Int.eq_ofNat_of_zero_le i0
    obtain ⟨j, rfl⟩ := Int.eq_ofNat_of_zero_le j0
    have k13 := k1.trans (k2.trans k3)
    have end_ : ∀ {q : Addr} {H4 : Hp} {pl : Pl}, Same H3 H4 → PlV K N H4 (.ref q) pl → Fits p us.length pl → Q (.ref q) H4 := fun s4 hv hf => k _ _ _ (k13.trans (kept_of s4)) ((D3.same s4).mono (by omega)) hv hf
    refine ⟨_, _, rfl, _, rfl, _, _, rfl, rfl, _, rfl, ite2 (fun c => ?_) fun c => ?_⟩
    · exact ⟨_, rfl, _, rfl, (by show 3 ≤ sizeLine; decide), fun q H4 n4 s4 e4 => end_ (pl := .or i j) s4 (Tp.of e4) ⟨by omega, by omega, by omega⟩⟩
    refine ⟨_, rfl, _, _, rfl, rfl, _, rfl, ite2 (fun c => ?_) fun c => ?_⟩
    · exact ⟨_, rfl, _, rfl, (by show 3 ≤ sizeLine; decide), fun q H4 n4 s4 e4 => end_ (pl := .and i j) s4 (Tp.of e4) ⟨by omega, by omega, by omega⟩⟩
    refine ⟨_, rfl, rfl, _, rfl, ite2 (fun c => ?_) fun c => ?_⟩
    · exact ⟨_, rfl, _, rfl, (by show 3 ≤ sizeLine; decide), fun q H4 n4 s4 e4 => end_ (pl := .less i j) s4 (Tp.of e4) ⟨by omega, by omega, by omega⟩⟩
    refine ⟨_, rfl, rfl, _, rfl, ite2 (fun c => ?_) fun c => ?_⟩
    · exact ⟨_, rfl, (by show 2 ≤ sizeLine; decide), fun q H4 n4 s4 e4 => end_ (pl := .not i) s4 (Tp.of e4) ⟨by omega, by omega⟩⟩
    refine ⟨_, rfl, _, rfl, d, 9, _, rfl, D3, by omega, by decide, by decide, fun m H4 _ _ k4 D4 => ⟨(by show 3 ≤ sizeLine; decide), fun q H5 n5 s5 e5 => ?_⟩⟩
    exact k _ (.move i m) H5 (k13.trans (k4.trans (kept_of s5))) ((D4.same s5).mono (by omega)) (Tp.of e5) ⟨by omega, by omega⟩
end
end TM
end

section
set_option maxHeartbeats 4000000
namespace TM
open PySem PySem.Spec PyProof.Rows L2 EW
abbrev NWays : List Str := ["_law_dice_here", "_law_period_here", "_law_one", "_law_two", "_law_cut", "_law_low", "_law_high", "_law_pairs", "_law_doubled", "_law_left", "_law_right_here"]
theorem Ways : FnScope NWays ["_law_dice_here", "_law_period_here", "_law_one", "_law_two"] (defScope sWays) := ⟨rfl, rfl, rfl, by decide +kernel, rfl, by decide +kernel, by decide +kernel⟩
theorem hByE {K : W.Frag} {H : Hp} {u : V} {p q : Int} {A : Int → Prop} {n i : Nat} {Q : VK} (e : p * (i : Int) = q) (hu : Has K H u p A n) (hi : 0 < i) (h4 : q ≤ 400) (hl : n * i ≤ 10000000) (k : Hn K H q A (n * i) Q) : spBy K [u, .int q] H Q E0 := by
  subst e
  exact hBy hu hi h4 hl k
/-- a pair of equal sets -/
def Pr (K : W.Frag) (H : Hp) (x : V) : Prop := ∃ (u v : V) (q : Int) (A : Int → Prop) (n m : Nat), Tp K H x [u, v] ∧ Has K H u q A n ∧ Has K H v q A m
theorem Pr.kept {K : W.Frag} {H H' : Hp} {x : V} {l : Addr} {ys : List V} (h : Pr K H x) (hl : H l = some (.lst ys)) (k : EW.Kept l H H') : Pr K H' x := let ⟨u, v, q, A, n, m, h1, h2, h3⟩ := h; ⟨u, v, q, A, n, m, h1.kept hl k, h2.kept hl k, h3.kept hl k⟩
theorem Pr.same {K : W.Frag} {H H' : Hp} {x : V} (h : Pr K H x) (s : Same H H') : Pr K H' x := let ⟨u, v, q, A, n, m, h1, h2, h3⟩ := h; ⟨u, v, q, A, n, m, h1.same s, h2.same s, h3.same s⟩
def Prs (K : W.Frag) (H : Hp) (l : Addr) (n : Nat) : Prop := ∃ xs, H l = some (.lst xs) ∧ (∀ x ∈ xs, Pr K H x) ∧ xs.length = n
def spWays (K : W.Frag) : Sp := fun vs H Q _ => ∃ (d : Addr) (p n : Int) (u v : V) (A B : Int → Prop), vs = [.ref d, .int p, u, v] ∧ Dc H d n ∧ n ≤ 1000000 ∧ 1 ≤ p ∧ p ≤ 12 ∧ Has K H u p A 1200 ∧ Has K H v p B 1200 ∧
  ∀ (H' : Hp), EW.Kept d H H' → Dc H' d (n + 1) → Q (.bl true) H'
section
variable {P : Program} {w : World} {K : W.Frag} {mg : Str → Option Value} {base : Heap}
theorem ok_ways {fd : FuncData} (F : FnP K "_law_ways_right" sWays fd) (T : Fre mg) (KT : Kl K mg "Times") (hNe : W.findIn K (.ref (CT K)) "__ne__" = some (some (.builtin "object.__ne__"))) (FT : FnR P w K mg base CX0 7 (He.ma K (CT K) "__init__") (spTInit K)) (Mor : Mt P w K mg base 10 (CT K) "__or__" ["self", "other"] (spOr K)) (Mand : Mt P w K mg base 10 (CT K) "__and__" ["self", "other"] (spAnd K)) (Minv : Mt P w K mg base 10 (CT K) "__invert__" ["self"] (spInv K)) (Msub : Mt P w K mg base 11 (CT K) "__sub__" ["self", "other"] (spSub K)) (Meq : Mt P w K mg base 1 (CT K) "__eq__" ["self", "other"] (spEq K))
    (Mshi : Mtk P w K mg base 10 (CT K) "shifted" ["self", "many"] [] [] (spShift K)) (Mtur : Mtk P w K mg base 10 (CT K) "turned" ["self"] [] [] (spTurn K)) (Mby : Mtk P w K mg base 10 (CT K) "by" ["self", "period"] [] [] (spBy K)) (Prun : Prp P w K mg base 1 (CT K) "runs" (spRunsP K))
    (D_law_near : Df P w K mg base 2 "_law_near" ["_law_dice_here", "_law_far"] spNear) :
    FnOk P w K mg base CX0 12 (He.ga K "_law_ways_right") fd ["_law_dice_here", "_law_period_here", "_law_one", "_law_two"] (spWays K) := by
  refine F.ok Ways (fun vs H Q E h => ?_) (fun cdv A outer s H vs Q E hr h => ?_)
  · obtain ⟨d, p, n, u, v, A, B, rfl, _⟩ := h
    rfl
  · obtain ⟨d, p, n, u, v, A, B, rfl, D, hn, p1, p2, hu, hv, k⟩ := h
    refine ⟨_, PSs.nox (pss_cons (ps_cut (ps_set (i := 4) Ways.nd rfl (Or.inl rfl) (pe_df D_law_near (hr.mono (by decide)) rfl (pa_cons (pv 0) (pa_cons pe_int pa_nil)))))
      (pss_cons (ps_cut (ps_par (i := 5) (j := 6) (by rfl) Ways.nd rfl rfl (by decide) rfl rfl (pa_cons (StX.pe_makeR KT.mkr FT (hr.mono (by decide)) rfl KT.g pass0 (pa_cons (pv 1) (pa_cons (pe_tupS (pa_cons pe_non (pa_cons pe_non (pa_cons (pv 4) pa_nil)))) pa_nil))) (pa_cons (StX.pe_makeR KT.mkr FT (hr.mono (by decide)) rfl KT.g pass0 (pa_cons (pv 1) (pa_cons (pe_tupS (pa_cons pe_non (pa_cons (pe_op op_add (pv 4) pe_int) (pa_cons pe_non pa_nil)))) pa_nil))) pa_nil)) (by rfl)))
      (pss_cons (ps_cut (ps_set (i := 7) Ways.nd rfl (Or.inl rfl) (pe_lstS (pa_cons (pe_tupS (pa_cons (pe_op (op_own Mor KT.sf (hr.mono (by decide))) (pe_op (op_own Mand KT.sf (hr.mono (by decide))) (pv 2) (pv 5)) (pe_op (op_own Mand KT.sf (hr.mono (by decide))) (pv 2) (pv 6))) (pa_cons (pv 2) pa_nil))) (pa_cons (pe_tupS (pa_cons (pe_un (un_own Minv (hr.mono (by decide))) (pe_op (op_own Mor KT.sf (hr.mono (by decide))) (pv 2) (pv 3))) (pa_cons (pe_op (op_own Mand KT.sf (hr.mono (by decide))) (pe_un (un_own Minv (hr.mono (by decide))) (pv 2)) (pe_un (un_own Minv (hr.mono (by decide))) (pv 3))) pa_nil))) (pa_cons (pe_tupS (pa_cons (pe_op (op_own Msub KT.sf (hr.mono (by decide))) (pv 2) (pv 3)) (pa_cons (pe_op (op_own Mand KT.sf (hr.mono (by decide))) (pv 2) (pe_un (un_own Minv (hr.mono (by decide))) (pv 3))) pa_nil))) pa_nil))))))
      (pss_cons (ps_cut (ps_set (i := 7) Ways.nd rfl (Or.inl rfl) (pe_op op_catS (pv 7) (pe_lstS (pa_cons (pe_tupS (pa_cons (pe_op (op_own Msub KT.sf (hr.mono (by decide))) (pe_op (op_own Mor KT.sf (hr.mono (by decide))) (pv 2) (pv 3)) (pv 3)) (pa_cons (pe_op (op_own Msub KT.sf (hr.mono (by decide))) (pv 2) (pv 3)) pa_nil))) (pa_cons (pe_tupS (pa_cons (pe_op (op_own Mor KT.sf (hr.mono (by decide))) (pe_mtk0 (pv 2) KT.cl Mtur (hr.mono (by decide))) (pe_mtk0 (pv 3) KT.cl Mtur (hr.mono (by decide)))) (pa_cons (pe_mtk0 (pe_op (op_own Mor KT.sf (hr.mono (by decide))) (pv 2) (pv 3)) KT.cl Mtur (hr.mono (by decide))) pa_nil))) pa_nil))))))
      (pss_cons (ps_cut (ps_set (i := 7) Ways.nd rfl (Or.inl rfl) (pe_op op_catS (pv 7) (pe_lstS (pa_cons (pe_tupS (pa_cons (pe_mtk (pe_op (op_own Mand KT.sf (hr.mono (by decide))) (pv 2) (pv 3)) KT.cl Mshi (hr.mono (by decide)) (pa_cons (pv 4) pa_nil)) (pa_cons (pe_op (op_own Mand KT.sf (hr.mono (by decide))) (pe_mtk (pv 2) KT.cl Mshi (hr.mono (by decide)) (pa_cons (pv 4) pa_nil)) (pe_mtk (pv 3) KT.cl Mshi (hr.mono (by decide)) (pa_cons (pv 4) pa_nil))) pa_nil))) (pa_cons (pe_tupS (pa_cons (pe_op (op_own Mand KT.sf (hr.mono (by decide))) (pv 2) (pe_op (op_own Mor KT.sf (hr.mono (by decide))) (pv 2) (pv 3))) (pa_cons (pv 2) pa_nil))) pa_nil))))))
      (pss_cons (ps_cut (ps_set (i := 8) Ways.nd rfl (Or.inl rfl) (pe_lstS (pa_cons (pe_mtk (pv 2) KT.cl Mby (hr.mono (by decide)) (pa_cons (pe_op op_mul pe_int (pv 1)) pa_nil)) (pa_cons (pe_mtk (pv 3) KT.cl Mby (hr.mono (by decide)) (pa_cons (pe_op op_mul pe_int (pv 1)) pa_nil)) pa_nil)))))
      (pss_cons (ps_cut (ps_expr (pe_bm PySem.F.plainAttrs_list PySem.F.slot_list_append PySem.F.type_list_append mt_append (pv 7) (pa_cons (pe_tupS (pa_cons (pe_op (op_own Mand KT.sf (hr.mono (by decide))) (pe_ix (ix_listK K rfl) (pv 8) pe_int (fun _ _ => rfl)) (pe_ix (ix_listK K rfl) (pv 8) pe_int (fun _ _ => rfl))) (pa_cons (pe_mtk (pe_op (op_own Mand KT.sf (hr.mono (by decide))) (pv 2) (pv 3)) KT.cl Mby (hr.mono (by decide)) (pa_cons (pe_op op_mul pe_int (pv 1)) pa_nil)) pa_nil))) pa_nil))))
      (pss_one (ps_ret (pe_cmpR (op_eqDK K rfl hr.units) (pe_lc (own := [("_law_left", 9), ("_law_right_here", 10)]) (g := gTup K 2 (gCons (gName 9) (gCons (gName 10) gNil))) (tt := _) (by rfl) Ways.nd (pi_listK (K := K) rfl (pv 7)) (blkOk_by (own := [("_law_left", 9), ("_law_right_here", 10)]) (N := NWays) (sc := defScope sWays) (by decide +kernel)) (fun _ _ _ _ _ => (pg_tup rfl (pgs_cons (pg_name (i := 9) Ways.nd rfl (Or.inl rfl)) (pgs_cons (pg_name (i := 10) Ways.nd rfl (Or.inl rfl)) pgs_nil)))) (fun _ _ _ _ _ => (pts_one (PW.pt (pw_or (pt_cmpR (op_neO Meq KT.ob hNe (hr.mono (by decide))) (pv 9) (pv 10) (nomark _)) (pw_or1 (pt_cmpR (op_neDK K rfl hr.units) (pe_prp (pv 9) KT.cl Prun (hr.mono (by decide))) (pe_prp (pv 10) KT.cl Prun (hr.mono (by decide))) (nomark _))))))) (fun _ _ _ _ _ => pe_int)) (pe_lstS pa_nil) (nomark _))))))))))), ?_⟩
    have hp : p.toNat ≤ 12 := by omega
    have spok1 : ∀ {lo hi : Option Int}, ∀ s ∈ [(⟨none, lo, hi⟩ : Rn.Sp3)], Rn.SpOk p s := fun {lo hi} s hs r e => by
      rw [List.mem_singleton.mp hs] at e
      cases e
    -- cut
    refine ⟨fun σ' H' => ∃ c : Int, σ' = [some (.ref d), some (.int p), some u, some v, some (.int c), none, none, none, none, none, none] ∧ EW.Kept d H H' ∧ Dc H' d (n + 1) ∧ Has K H' u p A 1200 ∧ Has K H' v p B 1200, ?_, ?_⟩
    · exact ⟨_, rfl, d, 15, _, rfl, D, by omega, by decide, by decide, fun i H2 i0 i1 k2 D2 => ⟨i, rfl, k2, D2, hu.roll D k2, hv.roll D k2⟩⟩
    clear hu hv
    rintro σ' H1 ⟨c, rfl, k1, D1, hu, hv⟩
    -- low, high
    refine ⟨fun σ' H' => ∃ lo hi : V, σ' = [some (.ref d), some (.int p), some u, some v, some (.int c), some lo, some hi, none, none, none, none] ∧ Same H1 H' ∧ Has K H' lo p (Rn.inSpans p [⟨none, none, some c⟩]) 12 ∧ Has K H' hi p (Rn.inSpans p [⟨none, some (c + 1), none⟩]) 12, ?_, ?_⟩
    · refine ⟨_, rfl, _, rfl, (by show 3 ≤ sizeLine; decide), fun q1 H2 n2 s2 e2 => fun xx dx nx ndx ne => hMake xx dx nx ndx ne (p := p) (ss := [⟨none, none, some c⟩]) p1 (by omega) (.cons (Tp.of e2) .nil) spok1 (by show 1 ≤ 20000; decide) fun H3 s3 h3 => ⟨rfl, ?_⟩⟩
      refine ⟨_, rfl, _, rfl, _, _, rfl, rfl, (by show 3 ≤ sizeLine; decide), fun q1 H4 n4 s4 e4 => fun xx dx nx ndx ne => hMake xx dx nx ndx ne (p := p) (ss := [⟨none, some (c + 1), none⟩]) p1 (by omega) (.cons (Tp.of e4) .nil) spok1 (by show 1 ≤ 20000; decide) fun H5 s5 h5 => ⟨rfl, ?_⟩⟩
      exact ⟨_, _, rfl, _, _, rfl, Same.trans s2 (Same.trans s3 (Same.trans s4 s5)), (h3.same (Same.trans s4 s5)).le (by show p.toNat * 1 ≤ 12; omega), h5.le (by show p.toNat * 1 ≤ 12; omega)⟩
    rintro σ' H2 ⟨lo, hi, rfl, s2, hlo, hhi⟩
    have hu2 := hu.same s2
    have hv2 := hv.same s2
    clear hu hv
    have k2 : EW.Kept d H H2 := k1.trans (kept_of s2)
    have D2 := D1.same s2
    clear k1 D1 s2 H1
    -- pairs
    refine ⟨fun σ' H' => ∃ l : Addr, σ' = [some (.ref d), some (.int p), some u, some v, some (.int c), some lo, some hi, some (.ref l), none, none, none] ∧ Same H2 H' ∧ Prs K H' l 3, ?_, ?_⟩
    · refine ⟨_, rfl, _, rfl, hAnd hu2 hlo (by omega) fun f1 H3 s3 h1 => ⟨_, rfl, _, rfl, hAnd (hu2.same s3) (hhi.same s3) (by omega) fun f2 H4 s4 h2 => hOr (h1.same s4) h2 (by omega) fun f3 H5 s5 h3 => ⟨_, rfl, (by show 2 ≤ sizeLine; decide), fun q1 H6 n6 s6 e6 => ?_⟩⟩⟩
      have S5 : Same H2 H5 := Same.trans s3 (Same.trans s4 s5)
      have S6 := Same.trans S5 s6
      have P1 : Pr K H6 (.ref q1) := ⟨f3, u, p, A, _, _, Tp.of e6, (h3.same s6).mem (fun t => ?_), hu2.same S6⟩
      · refine ⟨_, rfl, _, rfl, hOr (hu2.same S6) (hv2.same S6) (by omega) fun g1 H7 s7 i1 => hInv i1 (by omega) fun g2 H8 s8 i2 => ⟨_, rfl, hInv (hu2.same (Same.trans S6 (Same.trans s7 s8))) (by omega) fun g3 H9 s9 i3 => ⟨_, rfl, hInv (hv2.same (Same.trans S6 (Same.trans s7 (Same.trans s8 s9)))) (by omega) fun g4 H10 s10 i4 => hAnd ((i3.same s10).le (by omega : _ ≤ 1212)) (i4.le (by omega : _ ≤ 1212)) (by omega) fun g5 H11 s11 i5 => ⟨(by show 2 ≤ sizeLine; decide), fun q2 H12 n12 s12 e12 => ?_⟩⟩⟩⟩
        have S12 := Same.trans s7 (Same.trans s8 (Same.trans s9 (Same.trans s10 (Same.trans s11 s12))))
        have P2 : Pr K H12 (.ref q2) := ⟨g2, g5, p, _, _, _, Tp.of e12, i2.same (Same.trans s9 (Same.trans s10 (Same.trans s11 s12))), (i5.same s12).mem fun t => not_or.symm⟩
        have T12 := Same.trans S6 S12
        refine ⟨_, rfl, _, rfl, hSub (hu2.same T12) (hv2.same T12) (by omega) (by omega) fun w1 H13 s13 j1 => ⟨_, rfl, _, rfl, hInv (hv2.same (Same.trans T12 s13)) (by omega) fun w2 H14 s14 j2 => hAnd (hu2.same (Same.trans T12 (Same.trans s13 s14))) (j2.le (by omega : _ ≤ 1212)) (by omega) fun w3 H15 s15 j3 => ⟨(by show 2 ≤ sizeLine; decide), fun q3 H16 n16 s16 e16 => ⟨(by show 3 ≤ sizeLine; decide), fun l H17 n17 s17 e17 => ?_⟩⟩⟩⟩
        have S16 := Same.trans s13 (Same.trans s14 (Same.trans s15 s16))
        have P3 : Pr K H16 (.ref q3) := ⟨w1, w3, p, _, _, _, Tp.of e16, j1.same (Same.trans s14 (Same.trans s15 s16)), j3.same s16⟩
        refine ⟨l, rfl, Same.trans T12 (Same.trans S16 s17), _, e17, fun x hx => ?_, rfl⟩
        simp only [List.mem_cons, List.not_mem_nil, or_false] at hx
        rcases hx with rfl | rfl | rfl
        · exact P1.same (Same.trans S12 (Same.trans S16 s17))
        · exact P2.same (Same.trans S16 s17)
        · exact P3.same s17
      · simp only [Rn.spans_cons, Rn.spans_nil, Rn.span_N, Rn.geN, Rn.geS, Rn.leN, Rn.leS, true_and, and_true, or_false]
        constructor
        · rintro (h | h)
          · exact h.1
          · exact h.1
        · intro h
          by_cases e : t ≤ c
          · exact .inl ⟨h, e⟩
          · exact .inr ⟨h, by omega⟩
    rintro σ' H3 ⟨l, rfl, s3, hl⟩
    have hu3 := hu2.same s3
    have hv3 := hv2.same s3
    have k3 : EW.Kept d H H3 := k2.trans (kept_of s3)
    have D3 := D2.same s3
    clear hu2 hv2 k2 D2 s3 hlo hhi H2
    refine ⟨fun σ' H' => ∃ l : Addr, σ' = [some (.ref d), some (.int p), some u, some v, some (.int c), some lo, some hi, some (.ref l), none, none, none] ∧ Same H3 H' ∧ Prs K H' l 5, ?_, ?_⟩
    · obtain ⟨xs, el, hxs, lx⟩ := hl
      refine ⟨_, rfl, _, rfl, _, rfl, hOr hu3 hv3 (by omega) fun f1 H4 s4 h1 => ⟨_, rfl, hSub h1 (hv3.same s4) (by omega) (by omega) fun f2 H5 s5 h2 => ⟨_, rfl, _, rfl, hSub (hu3.same (Same.trans s4 s5)) (hv3.same (Same.trans s4 s5)) (by omega) (by omega) fun f3 H6 s6 h3 => ⟨(by show 2 ≤ sizeLine; decide), fun q1 H7 n7 s7 e7 => ?_⟩⟩⟩⟩
      have S7 := Same.trans s4 (Same.trans s5 (Same.trans s6 s7))
      have P1 : Pr K H7 (.ref q1) := ⟨f2, f3, p, _, _, _, Tp.of e7, h2.same (Same.trans s6 s7), (h3.same s7).mem fun t => (by
        constructor
        · rintro ⟨h, g⟩
          exact ⟨.inl h, g⟩
        · rintro ⟨h | h, g⟩
          · exact ⟨h, g⟩
          · exact absurd h g)⟩
      refine ⟨_, rfl, hMt "turned" (fun _ _ => rfl) (hu3.same S7) (nil_ (hTurn (hu3.same S7) fun g1 H8 s8 i1 => ⟨_, rfl, hMt "turned" (fun _ _ => rfl) (hv3.same (Same.trans S7 s8)) (nil_ (hTurn (hv3.same (Same.trans S7 s8)) fun g2 H9 s9 i2 => hOr (i1.same s9) i2 (by omega) fun g3 H10 s10 i3 => ?_))⟩))⟩
      have S10 := Same.trans S7 (Same.trans s8 (Same.trans s9 s10))
      refine ⟨_, rfl, _, rfl, hOr (hu3.same S10) (hv3.same S10) (by omega) fun g4 H11 s11 i4 => hMt "turned" (fun _ _ => rfl) i4 (nil_ (hTurn i4 fun g5 H12 s12 i5 => ⟨(by show 2 ≤ sizeLine; decide), fun q2 H13 n13 s13 e13 => ⟨(by show 2 ≤ sizeLine; decide), fun l2 H14 n14 s14 e14 => ?_⟩⟩))⟩
      have S13 := Same.trans S10 (Same.trans s11 (Same.trans s12 s13))
      have S14 := Same.trans S13 s14
      have P2 : Pr K H13 (.ref q2) := ⟨g3, g5, p, _, _, _, Tp.of e13, i3.same (Same.trans s11 (Same.trans s12 s13)), i5.same s13⟩
      have P1' := P1.same (Same.trans s8 (Same.trans s9 (Same.trans s10 (Same.trans s11 (Same.trans s12 (Same.trans s13 s14))))))
      refine ⟨l, l2, _, _, rfl, rfl, S14 _ _ el, e14, ?_, fun l3 H15 n15 s15 e15 => ⟨l3, rfl, Same.trans S14 s15, _, e15, fun x hx => ?_, ?_⟩⟩
      · rw [lx]
        show 3 + 2 ≤ sizeLine
        decide
      · rcases List.mem_append.mp hx with hx | hx
        · exact (hxs x hx).same (Same.trans S14 s15)
        · simp only [List.mem_cons, List.not_mem_nil, or_false] at hx
          rcases hx with rfl | rfl
          · exact P1'.same s15
          · exact P2.same (Same.trans s14 s15)
      · rw [List.length_append, lx]
        rfl
    clear hl
    rintro σ' H4 ⟨l, rfl, s4, hl⟩
    have hu4 := hu3.same s4
    have hv4 := hv3.same s4
    have k4 : EW.Kept d H H4 := k3.trans (kept_of s4)
    have D4 := D3.same s4
    clear hu3 hv3 k3 D3 s4 H3
    refine ⟨fun σ' H' => ∃ l : Addr, σ' = [some (.ref d), some (.int p), some u, some v, some (.int c), some lo, some hi, some (.ref l), none, none, none] ∧ Same H4 H' ∧ (l ≠ d ∧ H l = none) ∧ Prs K H' l 7, ?_, ?_⟩
    · obtain ⟨xs, el, hxs, lx⟩ := hl
      refine ⟨_, rfl, _, rfl, _, rfl, hAnd hu4 hv4 (by omega) fun f1 H5 s5 h1 => hMt "shifted" (fun _ _ => rfl) h1 ⟨_, rfl, nil_ (hShift h1 fun f2 H6 s6 h2 => ?_)⟩⟩
      have S6 := Same.trans s5 s6
      refine ⟨_, rfl, hMt "shifted" (fun _ _ => rfl) (hu4.same S6) ⟨_, rfl, nil_ (hShift (hu4.same S6) fun f3 H7 s7 h3 => ⟨_, rfl, hMt "shifted" (fun _ _ => rfl) (hv4.same (Same.trans S6 s7)) ⟨_, rfl, nil_ (hShift (hv4.same (Same.trans S6 s7)) fun f4 H8 s8 h4 => hAnd (h3.same s8) h4 (by omega) fun f5 H9 s9 h5 => ⟨(by show 2 ≤ sizeLine; decide), fun q1 H10 n10 s10 e10 => ?_⟩)⟩⟩)⟩⟩
      have S10 := Same.trans S6 (Same.trans s7 (Same.trans s8 (Same.trans s9 s10)))
      have P1 : Pr K H10 (.ref q1) := ⟨f2, f5, p, _, _, _, Tp.of e10, h2.same (Same.trans s7 (Same.trans s8 (Same.trans s9 s10))), h5.same s10⟩
      refine ⟨_, rfl, _, rfl, _, rfl, hOr (hu4.same S10) (hv4.same S10) (by omega) fun g1 H11 s11 i1 => hAnd (hu4.same (Same.trans S10 s11)) i1 (by omega) fun g2 H12 s12 i2 => ⟨_, rfl, (by show 2 ≤ sizeLine; decide), fun q2 H13 n13 s13 e13 => ⟨(by show 2 ≤ sizeLine; decide), fun l2 H14 n14 s14 e14 => ?_⟩⟩⟩
      have S13 := Same.trans S10 (Same.trans s11 (Same.trans s12 s13))
      have S14 := Same.trans S13 s14
      have P2 : Pr K H13 (.ref q2) := ⟨g2, u, p, A, _, _, Tp.of e13, (i2.same s13).mem (fun t => ⟨fun h => h.1, fun h => ⟨h, .inl h⟩⟩), hu4.same S13⟩
      have P1' := P1.same (Same.trans s11 (Same.trans s12 (Same.trans s13 s14)))
      refine ⟨l, l2, _, _, rfl, rfl, S14 _ _ el, e14, ?_, fun l3 H15 n15 s15 e15 => ⟨l3, rfl, Same.trans S14 s15, ⟨(D4.same S14).nn n15, (k4.trans (kept_of S14)).free n15 ((D4.same S14).nn n15)⟩, _, e15, fun x hx => ?_, ?_⟩⟩
      · rw [lx]
        show 5 + 2 ≤ sizeLine
        decide
      · rcases List.mem_append.mp hx with hx | hx
        · exact (hxs x hx).same (Same.trans S14 s15)
        · simp only [List.mem_cons, List.not_mem_nil, or_false] at hx
          rcases hx with rfl | rfl
          · exact P1'.same s15
          · exact P2.same (Same.trans s14 s15)
      · rw [List.length_append, lx]
        rfl
    clear hl
    rintro σ' H5 ⟨l, rfl, s5, ⟨nld, hl0⟩, hl⟩
    have hu5 := hu4.same s5
    have hv5 := hv4.same s5
    have k5 : EW.Kept d H H5 := k4.trans (kept_of s5)
    have D5 := D4.same s5
    clear hu4 hv4 k4 D4 s5 H4
    -- doubled
    refine ⟨fun σ' H' => ∃ (b : Addr) (x y : V), σ' = [some (.ref d), some (.int p), some u, some v, some (.int c), some lo, some hi, some (.ref l), some (.ref b), none, none] ∧ Same H5 H' ∧ H' b = some (.lst [x, y]) ∧ Has K H' x (2 * p) A 2400 ∧ Has K H' y (2 * p) B 2400, ?_, ?_⟩
    · have e2 : p * ((2 : Nat) : Int) = 2 * p := by
        show p * 2 = 2 * p
        omega
      refine ⟨_, rfl, hMt "by" (fun _ _ => rfl) hu5 ⟨_, rfl, _, _, rfl, rfl, .inl ⟨by omega, by omega⟩, nil_ (hByE e2 hu5 (by omega) (by omega) (by omega) fun f1 H6 s6 h1 => ⟨_, rfl, hMt "by" (fun _ _ => rfl) (hv5.same s6) ⟨_, rfl, _, _, rfl, rfl, .inl ⟨by omega, by omega⟩, nil_ (hByE e2 (hv5.same s6) (by omega) (by omega) (by omega) fun f2 H7 s7 h2 => ⟨(by show 2 ≤ sizeLine; decide), fun b H8 n8 s8 e8 => ?_⟩)⟩⟩)⟩⟩
      exact ⟨b, f1, f2, rfl, Same.trans s6 (Same.trans s7 s8), e8, h1.same (Same.trans s7 s8), h2.same s8⟩
    rintro σ' H6 ⟨b, x, y, rfl, s6, eb, hx, hy⟩
    have hu6 := hu5.same s6
    have hv6 := hv5.same s6
    have k6 : EW.Kept d H H6 := k5.trans (kept_of s6)
    have D6 := D5.same s6
    -- the last pair
    refine ⟨fun σ' H' => σ' = [some (.ref d), some (.int p), some u, some v, some (.int c), some lo, some hi, some (.ref l), some (.ref b), none, none] ∧ EW.Kept d H H' ∧ Dc H' d (n + 1) ∧ Prs K H' l 8, ?_, ?_⟩
    · obtain ⟨xs, el, hxs, lx⟩ := hl
      have el6 := s6 _ _ el
      have e2 : p * ((2 : Nat) : Int) = 2 * p := by
        show p * 2 = 2 * p
        omega
      refine ⟨_, rfl, Or.inl ⟨rfl, _, SqL.of el6⟩, ?_⟩
      refine ⟨_, rfl, b, _, _, _, rfl, rfl, SqL.of eb, atI_nat (j := 0) rfl, _, rfl, b, _, _, _, rfl, rfl, SqL.of eb, atI_nat (j := 1) rfl, hAnd hx hy (by omega) fun f1 H7 s7 h1 => ⟨_, rfl, _, rfl, hAnd (hu6.same s7) (hv6.same s7) (by omega) fun f2 H8 s8 h2 => hMt "by" (fun _ _ => rfl) h2 ⟨_, rfl, _, _, rfl, rfl, .inl ⟨by omega, by omega⟩, nil_ (hByE e2 h2 (by omega) (by omega) (by omega) fun f3 H9 s9 h3 => ⟨(by show 2 ≤ sizeLine; decide), fun q1 H10 n10 s10 e10 => ?_⟩)⟩⟩⟩
      have S10 := Same.trans s7 (Same.trans s8 (Same.trans s9 s10))
      have P1 : Pr K H10 (.ref q1) := ⟨f1, f3, _, _, _, _, Tp.of e10, h1.same (Same.trans s8 (Same.trans s9 s10)), h3.same s10⟩
      have el10 := S10 _ _ el6
      have k10 := k6.trans (kept_of S10)
      refine ⟨l, _, _, rfl, rfl, el10, by rw [lx]; decide, rfl, fun a o ne e => ?_, (D6.same S10).keep (upd_ne (Ne.symm nld)), _, upd_same, fun z hz => ?_, by rw [List.length_append, lx]; rfl⟩
      · rw [upd_ne (ne_of_none e hl0)]
        exact k10 a o ne e
      · rcases List.mem_append.mp hz with hz | hz
        · exact ((hxs z hz).same (Same.trans s6 S10)).kept el10 Kept.upd
        · rw [List.mem_singleton.mp hz]
          exact P1.kept el10 Kept.upd
    clear hu5 hv5 k5 D5 s6 H5 hl hx hy eb hu6 hv6 k6 D6 H6
    rintro σ' H7 ⟨rfl, k7, D7, xs, el, hxs, lx⟩
    refine ⟨_, rfl, l, rfl, ⟨_, SqL.of el⟩, fun L hL => ?_⟩
    refine loop_list (xs := xs) (fun i H' => H' L = some (.lst []) ∧ Same H7 H') ⟨upd_same, upd_new hL⟩ ?_ ?_ ?_
    · rintro j H' _ ⟨_, s8⟩
      exact SqL.of (s8 _ _ el)
    · rintro j z H8 hz ⟨hLa, s8⟩
      obtain ⟨a1, a2, q, A', n1, n2, ⟨az, rfl, hZ⟩, i1, i2⟩ := (hxs z (List.mem_of_getElem? hz)).same s8
      refine ⟨az, _, rfl, hZ, rfl, _, _, rfl, _, _, rfl, rfl, ?_⟩
      refine ⟨rfl, _, rfl, _, rfl, hEq i1 i2 fun f hf => ⟨f, rfl, _, rfl, ?_⟩⟩
      obtain rfl : f = true := hf.mpr fun t => Iff.rfl
      refine iteF ⟨_, rfl, hRuns i1 fun l1 w1 R1 m1 => ⟨_, rfl, hRuns i2 fun l2 w2 R2 m2 => ne_runs (by have := i1.per; omega) R1 R2 (fun t => (m1 t).trans (m2 t).symm) ⟨_, rfl, iteF ⟨hLa, s8⟩⟩⟩⟩
    · rintro H8 ⟨hLa, s8⟩
      refine ⟨(by show 0 ≤ sizeLine; decide), fun q H9 n9 s9 e9 => eqD_self (.list []) (by decide) (.lst (SqL.of (s9 _ _ hLa)) .nil) (.lst (SqL.of e9) .nil) ?_⟩
      exact k H9 (k7.trans (kept_of (Same.trans s8 s9))) (D7.same (Same.trans s8 s9))
end
end TM
end

section

/-! EwK06: numbers of members of two sets, walks and members by index. -/
namespace Rn
section
variable {A B : Int → Prop} {lo hi : Int}
theorem cnt_split (A B : Int → Prop) (lo hi : Int) : cnt A lo hi = cnt (fun t => A t ∧ B t) lo hi + cnt (fun t => A t ∧ ¬ B t) lo hi := by
  rw [← cnt_or fun t h1 h2 => h2.2 h1.2]
  exact cnt_congr fun t _ _ => ⟨fun h => (Classical.em (B t)).elim (fun q => .inl ⟨h, q⟩) fun q => .inr ⟨h, q⟩, fun h => h.elim And.left And.left⟩
theorem cnt_both (A B : Int → Prop) (lo hi : Int) : cnt (fun t => A t ∨ B t) lo hi + cnt (fun t => A t ∧ B t) lo hi = cnt A lo hi + cnt B lo hi := by
  have e : cnt (fun t => A t ∨ B t) lo hi = cnt (fun t => A t ∨ (B t ∧ ¬ A t)) lo hi := cnt_congr fun t _ _ => ⟨fun h => h.elim .inl fun q => (Classical.em (A t)).elim .inl fun r => .inr ⟨q, r⟩, fun h => h.elim .inl fun q => .inr q.1⟩
  have e2 : cnt (fun t => B t ∧ A t) lo hi = cnt (fun t => A t ∧ B t) lo hi := cnt_congr fun t _ _ => And.comm
  have h1 := cnt_split B A lo hi
  rw [e, cnt_or fun t h1 h2 => h2.2 h1, h1, e2]
  omega
theorem cntN_all : ∀ {n : Nat}, cntN (fun _ => True) lo n = n
  | 0 => rfl
  | n + 1 => by
    unfold cntN
    rw [cntN_all (n := n), if_pos trivial]
theorem cnt_not (A : Int → Prop) (h : lo ≤ hi + 1) : (cnt A lo hi : Int) + (cnt (fun t => ¬ A t) lo hi : Int) = hi + 1 - lo := by
  have e : cnt (fun t => A t ∨ ¬ A t) lo hi = cnt (fun _ => True) lo hi := cnt_congr fun t _ _ => ⟨fun _ => trivial, fun _ => Classical.em _⟩
  rw [cnt_or fun t h1 h2 => h2 h1] at e
  have e2 : cnt (fun _ => True) lo hi = (hi + 1 - lo).toNat := cntN_all
  omega
theorem kth_on {y i : Int} {k : Nat} {a : Int} {o : Option Int} (h : IsNext A a (some y)) (hk : IsKth A (y + 1) k o) : IsKth A a (k + 1) o := by
  obtain ⟨h1, h2, h3⟩ := h
  have key : ∀ {m : Int}, y ≤ m → cnt A a m = cnt A (y + 1) m + 1 := fun {m} hm => by
    rw [cnt_cut (c := y) (by omega) hm, cnt_yes h2 h1, cnt_none (lo := a) (hi := y - 1) fun t t1 t2 ht => by have := h3 t t1 ht; omega]
    omega
  cases o with
  | none =>
    intro m
    have q := hk m
    by_cases c : y ≤ m
    · rw [key c]
      omega
    · rw [cnt_none fun t t1 t2 ht => by have := h3 t t1 ht; omega]
      omega
  | some m =>
    obtain ⟨k1, k2, k3⟩ := hk
    refine ⟨k1, by omega, ?_⟩
    rw [key (by omega), k3]
theorem kth_zero {a y : Int} (h : IsNext A a (some y)) : IsKth A a 0 (some y) := by
  obtain ⟨h1, h2, h3⟩ := h
  refine ⟨h1, h2, ?_⟩
  rw [cnt_yes h2 h1, cnt_none (lo := a) (hi := y - 1) fun t t1 t2 ht => by have := h3 t t1 ht; omega]
theorem kth_none {a : Int} (h : IsNext A a none) (k : Nat) : IsKth A a k none := fun m => by
  rw [cnt_none fun t t1 _ ht => h t t1 ht]
  exact Nat.zero_le _
/-- walks and members by index -/
theorem Walk.kth : ∀ {m : Nat} {a : Int} {ys : List Int}, Walk A m a ys → ∀ i, i < m → IsKth A a i ys[i]?
  | 0, _, _, _, i, hi => absurd hi (Nat.not_lt_zero _)
  | m + 1, a, [], h, i, _ => kth_none h i
  | m + 1, a, y :: ys, h, 0, _ => kth_zero h.1
  | m + 1, a, y :: ys, h, i + 1, hi => kth_on (i := 0) h.1 (Walk.kth h.2 i (Nat.lt_of_succ_lt_succ hi))
theorem Walk.asc : ∀ {m : Nat} {a : Int} {ys : List Int}, Walk A m a ys → (∀ y ∈ ys, a ≤ y) ∧ ys.Pairwise (· < ·)
  | 0, _, _, h => by
    obtain rfl : _ = [] := h
    exact ⟨(fun _ h => nomatch h), List.Pairwise.nil⟩
  | m + 1, a, [], h => ⟨(fun _ h => nomatch h), List.Pairwise.nil⟩
  | m + 1, a, y :: ys, h => by
    obtain ⟨q1, q2⟩ := Walk.asc h.2
    have := h.1.2.1
    refine ⟨fun z hz => ?_, .cons (fun z hz => ?_) q2⟩
    · rcases List.mem_cons.mp hz with rfl | hz
      · exact h.1.2.1
      · have := q1 z hz
        omega
    · have := q1 z hz
      omega
/-- ascending lists with the same members -/
theorem asc_uniq : ∀ {xs ys : List Int}, xs.Pairwise (· < ·) → ys.Pairwise (· < ·) → (∀ t, t ∈ xs ↔ t ∈ ys) → xs = ys
  | [], [], _, _, _ => rfl
  | [], y :: ys, _, _, h => nomatch (h y).mpr List.mem_cons_self
  | x :: xs, [], _, _, h => nomatch (h x).mp List.mem_cons_self
  | x :: xs, y :: ys, h1, h2, h => by
    obtain ⟨a1, a2⟩ := List.pairwise_cons.mp h1
    obtain ⟨b1, b2⟩ := List.pairwise_cons.mp h2
    have e : x = y := by
      rcases List.mem_cons.mp ((h x).mp List.mem_cons_self) with e | e
      · exact e
      · rcases List.mem_cons.mp ((h y).mpr List.mem_cons_self) with f | f
        · exact f.symm
        · have := b1 x e
          have := a1 y f
          omega
    subst e
    rw [asc_uniq (xs := xs) (ys := ys) a2 b2 fun t => ?_]
    constructor
    · intro ht
      rcases List.mem_cons.mp ((h t).mp (List.mem_cons_of_mem _ ht)) with e | e
      · have := a1 t ht
        omega
      · exact e
    · intro ht
      rcases List.mem_cons.mp ((h t).mpr (List.mem_cons_of_mem _ ht)) with e | e
      · have := b1 t ht
        omega
      · exact e
/-- the last one in a window by its index -/
theorem kth_last {c : Nat} {o : Option Int} (hc : cnt A lo hi = c) (h0 : 0 < c) (h : IsKth A lo (c - 1) o) : ∃ t, o = some t ∧ A t ∧ lo ≤ t ∧ t ≤ hi ∧ IsLast A hi (some t) := by
  cases o with
  | none =>
    have := h hi
    omega
  | some t =>
    obtain ⟨h1, h2, h3⟩ := h
    have hle : t ≤ hi := by
      by_cases q : t ≤ hi
      · exact q
      · have := cnt_lt (by omega : hi < t) h2 h1
        omega
    refine ⟨t, rfl, h1, h2, hle, h1, hle, fun s hs hA => ?_⟩
    by_cases q : s ≤ t
    · exact q
    · have := cnt_lt (by omega : t < s) (by omega : lo ≤ s) hA
      have := cnt_mono (A := A) (lo := lo) hs
      omega
theorem next_beyond {t : Int} (hc : cnt A lo hi = 0) (h : IsNext A lo (some t)) : hi < t := by
  by_cases q : hi < t
  · exact q
  · have q : t ≤ hi := by omega
    have h1 := cnt_yes h.2.1 h.1
    have := cnt_mono (A := A) (lo := lo) q
    omega
end
end Rn
end

section
set_option maxHeartbeats 4000000
/-! EwSet3: set(l) with its members told, sorted(s) of fewer than 64. -/
namespace EW
open PySem PySem.Spec PyProof.Rows L2
section
variable {X : Cx}
theorem cr_setLm (K : W.Frag) (w : World) (h : X.K = K) (hw : X.w = w) (hc : X.calm = true) : CallR X (.type "set") (fun vs H Q => ∃ (a : Addr) (ns : List Int), vs = [V.ref a] ∧ SqL K H a (ns.map V.int) ∧ ns.length + 1 < scanBound ∧ ∀ (p : Addr) (c : Nat) (H' : Hp), H p = none → Same H H' → H' p = some (SetO w p (fun j => decide (j ∈ ns)) c) → c ≤ ns.length → Q (.ref p) H') := by
  subst h
  subst hw
  intro pins s σ H vs us Q I r h
  obtain ⟨a, ns, rfl, hS, hb, q⟩ := h
  obtain rfl := Vals.ref1 r
  obtain ⟨its, rv, hl, hz⟩ := I.list hS
  refine call_setL (I.ok.hd hc) hl.isList (show IntsAre its.toArray.toList ns from rv.ints) hb fun h' tk c R hcn kp => ?_
  have hf := I.hok.fresh (Nat.le_refl s.heap.objs.size)
  exact ⟨.ref _, upd H s.heap.objs.size (SetO X.w s.heap.objs.size (fun j => decide (j ∈ ns)) c), I.laid (t' := tk) kp (Nat.le_refl _) (setO_new R), rfl, q _ c _ hf (sameN hf) upd_same hcn⟩
theorem cr_sortedSetm (w : World) (hw : X.w = w) (hc : X.calm = true) : CallR X (.builtin "sorted") (fun vs H Q => ∃ (a : Addr) (S : Int → Bool) (n : Nat), vs = [V.ref a] ∧ H a = some (SetO w a S n) ∧ n < 64 ∧ ∀ ns : List Int, ns.Pairwise (· < ·) → (∀ k : Int, k ∈ ns ↔ S k = true) → ns.length = n → New H (fun _ => .lst (ns.map V.int)) Q) := by
  subst hw
  intro pins s σ H vs us Q I r h
  obtain ⟨a, S, n, e, h1, h2, q⟩ := h
  exact cr_sortedSet hc pins s σ H vs us Q I r ⟨a, S, n, e, h1, h2, fun ns p g1 g2 g3 hp => (q ns g1 g2 g3).at hp⟩
end
end EW
end

section
set_option maxHeartbeats 4000000
namespace TM
open PySem PySem.Spec PyProof.Rows L2 EW
abbrev NNumb : List Str := ["_law_dice_here", "_law_one", "_law_two", "_law_low", "_law_high", "_law_told", "_law_parts", "_law_middle", "_law_walked", "_law_turn", "_law_time", "_law_found", "_law_index", "_law_last"]
theorem Numb : FnScope NNumb ["_law_dice_here", "_law_one", "_law_two"] (defScope sNumb) := ⟨rfl, rfl, rfl, by decide +kernel, rfl, by decide +kernel, by decide +kernel⟩
theorem boot_sum : bootBuiltins "sum" = some (.builtin "sum") := by decide +kernel
theorem ods_lay : ∀ l : List (Option Int), PyData.canLayAll0 (l.map od) = true
  | [] => by simp [PyData.canLayAll0]
  | s :: ss => by simp [PyData.canLayAll0, od_lay, ods_lay ss]
theorem ods_depth : ∀ l : List (Option Int), PyData.depthAll (l.map od) = 0
  | [] => by simp [PyData.depthAll]
  | s :: ss => by
    have h := ods_depth ss
    simp [PyData.depthAll, od_depth, h]
theorem shaped_ods (l : List (Option Int)) : SeqAt.shaped (.list (l.map od)) = true := by
  simp [SeqAt.shaped, PyData.canLay0, PyData.depth, ods_lay, ods_depth]
theorem ods_dp {K : W.Frag} {H : Hp} : ∀ l : List (Option Int), DpAll K H (l.map ob) (l.map od)
  | [] => .nil
  | o :: l => .cons (od_dp o) (ods_dp l)
/-- the first n by index: those that are there, then none -/
theorem firsts {ys : List Int} {n : Nat} (h : ys.length ≤ n) : (List.range n).map (fun (i : Nat) => ys[i]?) = ys.map some ++ List.replicate (n - ys.length) none := by
  refine List.ext_getElem? fun i => ?_
  rw [List.getElem?_map, List.getElem?_append, List.length_map]
  by_cases c : i < ys.length
  · rw [if_pos c, List.getElem?_map, List.getElem?_range (by omega)]
    show some ys[i]? = _
    rw [List.getElem?_eq_getElem c]
    rfl
  · rw [if_neg c]
    by_cases e : i < n
    · rw [List.getElem?_range e, List.getElem?_replicate, if_pos (by omega), Option.map_some, List.getElem?_eq_none (by omega)]
    · rw [List.getElem?_replicate, if_neg (by omega), List.getElem?_eq_none (by rw [List.length_range]; omega)]
      rfl
theorem ne_no {x y : V} (h : x = y) : (!decide (x = y)) = false := by rw [decide_eq_true h]; rfl
theorem con2 {v v' : V} {σ : L2.St} {H : Hp} {R : List V → Hp → Prop} (h : R [v, v'] H) : tCons (tC v) (tCons (tC v') tNil) σ H R := h
def spNumb (K : W.Frag) : Sp := fun vs H Q _ => ∃ (d : Addr) (p n : Int) (u v : V) (A B : Int → Prop), vs = [.ref d, u, v] ∧ Dc H d n ∧ n + 10 ≤ 1000000 ∧ 1 ≤ p ∧ p ≤ 12 ∧ Has K H u p A 1200 ∧ Has K H v p B 1200 ∧
  ∀ (H' : Hp), EW.Kept d H H' → Dc H' d (n + 10) → Q (.bl true) H'
/-- what stands through it -/
structure Nm (K : W.Frag) (H0 H : Hp) (d : Addr) (n p : Int) (u v : V) (A B : Int → Prop) : Prop where
  k : EW.Kept d H0 H
  D : Dc H d n
  u : Has K H u p A 1200
  v : Has K H v p B 1200
theorem Nm.same {K : W.Frag} {H0 H H' : Hp} {d : Addr} {n p : Int} {u v : V} {A B : Int → Prop} (h : Nm K H0 H d n p u v A B) (s : Same H H') : Nm K H0 H' d n p u v A B := ⟨h.k.trans (kept_of s), h.D.same s, h.u.same s, h.v.same s⟩
theorem Nm.roll {K : W.Frag} {H0 H H' : Hp} {d : Addr} {n n' p : Int} {u v : V} {A B : Int → Prop} (h : Nm K H0 H d n p u v A B) (k : EW.Kept d H H') (D : Dc H' d n') : Nm K H0 H' d n' p u v A B := ⟨h.k.trans k, D, h.u.roll h.D k, h.v.roll h.D k⟩
theorem Nm.mono {K : W.Frag} {H0 H : Hp} {d : Addr} {n n' p : Int} {u v : V} {A B : Int → Prop} (h : Nm K H0 H d n p u v A B) (l : n ≤ n') : Nm K H0 H d n' p u v A B := ⟨h.k, h.D.mono l, h.u, h.v⟩
section
variable {P : Program} {w : World} {K : W.Frag} {mg : Str → Option Value} {base : Heap}
theorem ok_numb {fd : FuncData} (F : FnP K "_law_numbers_right" sNumb fd) (T : Fre mg) (fZip : mg "zip" = none) (fSum : mg "sum" = none) (KT : Kl K mg "Times") (Mor : Mt P w K mg base 10 (CT K) "__or__" ["self", "other"] (spOr K)) (Mand : Mt P w K mg base 10 (CT K) "__and__" ["self", "other"] (spAnd K)) (Minv : Mt P w K mg base 10 (CT K) "__invert__" ["self"] (spInv K)) (Msub : Mt P w K mg base 11 (CT K) "__sub__" ["self", "other"] (spSub K)) (Mcon : Mt P w K mg base 2 (CT K) "__contains__" ["self", "value"] (spCon K))
    (Mhow : Mtk P w K mg base 4 (CT K) "how_many" ["self", "low", "high"] [] [] (spHowM K)) (MkthN : MtN P w K mg base 5 (CT K) "kth" 1 ["start"] (fun vs zs => vs ++ zs) (spKth K)) (ZOn : GMtZ P w K mg base 4 (CT K) "onward" ["self", "start"] [] [] (spOnZ K))
    (Maft : Mtk P w K mg base 4 (CT K) "at_or_after" ["self", "time"] [] [] (spAfter K)) (Mbef : Mtk P w K mg base 4 (CT K) "at_or_before" ["self", "time"] [] [] (spBefor K))
    (D_law_pick : Df P w K mg base 2 "_law_pick" ["_law_dice_here", "_law_items"] (spPick K)) (D_law_roll : Df P w K mg base 1 "_law_roll" ["_law_dice_here", "_law_many"] spRoll) (D_law_near : Df P w K mg base 2 "_law_near" ["_law_dice_here", "_law_far"] spNear) :
    FnOk P w K mg base CX0 12 (He.ga K "_law_numbers_right") fd ["_law_dice_here", "_law_one", "_law_two"] (spNumb K) := by
  refine F.ok Numb (fun vs H Q E h => ?_) (fun cdv A outer s H vs Q E hr h => ?_)
  · obtain ⟨d, p, n, u, v, A, B, rfl, _⟩ := h
    rfl
  · obtain ⟨d, p, n, u, v, A, B, rfl, D, hn, p1, p2, hu, hv, k⟩ := h
    refine ⟨_, PSs.nox (pss_cons (ps_cut (ps_set (i := 3) Numb.nd rfl (Or.inr rfl) (pe_df D_law_pick (hr.mono (by decide)) rfl (pa_cons (pv 0) (pa_cons (pe_lstS (pa_cons (pe_df D_law_near (hr.mono (by decide)) rfl (pa_cons (pv 0) (pa_cons pe_int pa_nil))) (pa_cons (pe_op op_sub pe_int (pe_op op_powW pe_int pe_int)) pa_nil))) pa_nil)))))
      (pss_cons (ps_cut (ps_set (i := 4) Numb.nd rfl (Or.inl rfl) (pe_op op_add (pv 3) (pe_df D_law_pick (hr.mono (by decide)) rfl (pa_cons (pv 0) (pa_cons (pe_lstS (pa_cons (pe_df D_law_roll (hr.mono (by decide)) rfl (pa_cons (pv 0) (pa_cons pe_int pa_nil))) (pa_cons (pe_op op_add (pe_op op_powW pe_int pe_int) (pe_df D_law_roll (hr.mono (by decide)) rfl (pa_cons (pv 0) (pa_cons pe_int pa_nil)))) (pa_cons (pe_op op_powW pe_int pe_int) pa_nil)))) pa_nil))))))
      (pss_cons (ps_cut (ps_set (i := 5) Numb.nd rfl (Or.inl rfl) (pe_lstS (pa_cons (pe_mtk (pe_op (op_own Mor KT.sf (hr.mono (by decide))) (pv 1) (pv 2)) KT.cl Mhow (hr.mono (by decide)) (pa_cons (pv 3) (pa_cons (pv 4) pa_nil))) (pa_cons (pe_mtk (pe_op (op_own Mand KT.sf (hr.mono (by decide))) (pv 1) (pv 2)) KT.cl Mhow (hr.mono (by decide)) (pa_cons (pv 3) (pa_cons (pv 4) pa_nil))) (pa_cons (pe_mtk (pe_op (op_own Msub KT.sf (hr.mono (by decide))) (pv 1) (pv 2)) KT.cl Mhow (hr.mono (by decide)) (pa_cons (pv 3) (pa_cons (pv 4) pa_nil))) pa_nil))))))
      (pss_cons (ps_cut (ps_set (i := 6) Numb.nd rfl (Or.inl rfl) (pe_lstS (pa_cons (pe_mtk (pv 1) KT.cl Mhow (hr.mono (by decide)) (pa_cons (pv 3) (pa_cons (pv 4) pa_nil))) (pa_cons (pe_mtk (pv 2) KT.cl Mhow (hr.mono (by decide)) (pa_cons (pv 3) (pa_cons (pv 4) pa_nil))) pa_nil)))))
      (pss_cons (ps_cut (ps_if (PW.pt (pw_or (pt_cmpR op_ne (pe_op op_add (pe_ix (ix_listK K rfl) (pv 5) pe_int (fun _ _ => rfl)) (pe_ix (ix_listK K rfl) (pv 5) pe_int (fun _ _ => rfl))) (pe_callB (cr_sum rfl) (by rfl) fSum boot_sum (pa_cons (pv 6) pa_nil)) (nomark _)) (pw_or1 (pt_cmpR op_ne (pe_op op_add (pe_ix (ix_listK K rfl) (pv 5) pe_int (fun _ _ => rfl)) (pe_ix (ix_listK K rfl) (pv 5) pe_int (fun _ _ => rfl))) (pe_ix (ix_listK K rfl) (pv 6) pe_int (fun _ _ => rfl)) (nomark _))))) (pss_one (ps_ret pe_bl)) pss_nil))
      (pss_cons (ps_cut (ps_if (pt_cmpR op_ne (pe_op op_add (pe_ix (ix_listK K rfl) (pv 6) pe_int (fun _ _ => rfl)) (pe_mtk (pe_un (un_own Minv (hr.mono (by decide))) (pv 1)) KT.cl Mhow (hr.mono (by decide)) (pa_cons (pv 3) (pa_cons (pv 4) pa_nil)))) (pe_op op_add (pe_op op_sub (pv 4) (pv 3)) pe_int) (nomark _)) (pss_one (ps_ret pe_bl)) pss_nil))
      (pss_cons (ps_cut (ps_set (i := 7) Numb.nd rfl (Or.inl rfl) (pe_op op_fdivW (pe_op op_add (pv 3) (pv 4)) pe_int)))
      (pss_cons (ps_cut (ps_if (pt_cmpR op_ne (pe_op op_add (pe_mtk (pv 1) KT.cl Mhow (hr.mono (by decide)) (pa_cons (pv 3) (pa_cons (pv 7) pa_nil))) (pe_mtk (pv 1) KT.cl Mhow (hr.mono (by decide)) (pa_cons (pe_op op_add (pv 7) pe_int) (pa_cons (pv 4) pa_nil)))) (pe_ix (ix_listK K rfl) (pv 6) pe_int (fun _ _ => rfl)) (nomark _)) (pss_one (ps_ret pe_bl)) pss_nil))
      (pss_cons (ps_cut (ps_setZg (i := 8) (by rfl) Numb.nd rfl rfl (sw_true rfl rfl rfl (by decide +kernel)) (zScope_by (by decide +kernel)) (by rfl) fZip (by rfl) T.range (pa_cons pe_int pa_nil) (pgz_mt (pv 1) KT.cl ZOn (hr.mono (by decide)) (pa_cons (pv 3) pa_nil)) (hr.mono (by decide))))
      (pss_cons (ps_cut (ps_setLc (i := 11) (own := [("_law_index", 12)]) (g := gName 12) (tt := tYes) (by rfl) Numb.nd rfl rfl (sw_true rfl rfl rfl (by decide +kernel)) (pi_range1 rfl T.range (pa_cons pe_int pa_nil)) (blkOk_by (own := [("_law_index", 12)]) (N := NNumb) (sc := defScope sNumb) (by decide +kernel)) (fun _ _ _ _ _ => (pg_name (i := 12) Numb.nd rfl (Or.inl rfl))) (fun _ _ _ _ _ => pts_nil) (fun _ _ _ _ _ => (pe_mtN (pv 1) KT.cl MkthN (hr.mono (by decide)) (pa_cons (pv 12) pa_nil) (pk_cons (pv 3) pk_nil)))))
      (pss_cons (ps_cut (ps_if (PW.pt (pw_or (pt_cmpR (op_neDK K rfl hr.units) (pv 11) (pe_op op_catS (pv 8) (pe_op op_repS (pe_lstS (pa_cons pe_non pa_nil)) (pe_op op_sub pe_int (pe_callB (call_lenK K rfl) (by rfl) T.len PySem.boot_len (pa_cons (pv 8) pa_nil))))) (nomark _)) (pw_or1 (pt_cmpR (op_neDK K rfl hr.units) (pv 8) (pe_callB (cr_sortedSetm w rfl rfl) (by rfl) T.sorted EW.boot_sorted (pa_cons (pe_callTy (cr_setLm K w rfl rfl rfl) (by rfl) T.set EW.boot_set (pa_cons (pv 8) pa_nil)) pa_nil)) (nomark _))))) (pss_one (ps_ret pe_bl)) pss_nil))
      (pss_cons (ps_if (pt_cmpR op_gt (pe_ix (ix_listK K rfl) (pv 6) pe_int (fun _ _ => rfl)) pe_int (nomark _)) (pss_cons (ps_set (i := 13) Numb.nd rfl (Or.inl rfl) (pe_mtN (pv 1) KT.cl MkthN (hr.mono (by decide)) (pa_cons (pe_op op_sub (pe_ix (ix_listK K rfl) (pv 6) pe_int (fun _ _ => rfl)) pe_int) pa_nil) (pk_cons (pv 3) pk_nil)))
      (pss_one (ps_ret (pe_and (pe_cmpR op_eq (pv 13) (pe_mtk (pv 1) KT.cl Mbef (hr.mono (by decide)) (pa_cons (pv 4) pa_nil)) (nomark _)) (pe_and (pe_cmpR (op_inO Mcon (hr.mono (by decide))) (pv 13) (pv 1) rfl) (pe_one (pe_chain op_le op_le (pv 3) (pv 13) (pv 4)))))))) pss_nil)
      (pss_one (ps_ret (pe_or (pe_cmp (pc_isN (pe_mtk (pv 1) KT.cl Maft (hr.mono (by decide)) (pa_cons (pv 3) pa_nil)))) (pe_one (pe_cmpR op_gt (pe_mtk (pv 1) KT.cl Maft (hr.mono (by decide)) (pa_cons (pv 3) pa_nil)) (pv 4) (nomark _)))))))))))))))))), ?_⟩
    have hp : p.toNat ≤ 12 := by omega
    have e25 : (10 : Int) ^ (25 : Int).toNat = 10000000000000000000000000 := by decide +kernel
    have e13 : (10 : Int) ^ (13 : Int).toNat = 10000000000000 := by decide +kernel
    have e26 : (10 : Int) ^ (26 : Int).toNat = 100000000000000000000000000 := by decide +kernel
    have W : Nm K H H d n p u v A B := ⟨EW.Kept.refl _ _, D, hu, hv⟩
    clear hu hv D
    -- low
    refine ⟨fun σ' H' => ∃ lo : Int, σ' = [some (.ref d), some u, some v, some (.int lo), none, none, none, none, none, none, none, none, none, none] ∧ Nm K H H' d (n + 2) p u v A B ∧ -10000000000000000000000000 ≤ lo ∧ lo ≤ 30, ?_, ?_⟩
    · refine ⟨_, rfl, _, rfl, d, 30, _, rfl, W.D, by omega, by decide, by decide, fun i H2 i0 i1 k2 D2 => ⟨_, _, rfl, rfl, ⟨by decide, by decide⟩, _, _, rfl, rfl, (by show 2 ≤ sizeLine; decide), fun q H3 n3 s3 e3 => ?_⟩⟩
      have W3 := (W.roll k2 D2).same s3
      refine ⟨d, q, _, _, rfl, W3.D, by omega, SqL.of e3, (D2.nn n3), (by show 0 < 2; decide), (by show 2 < 1000; decide), fun x H4 hx k4 D4 => ?_⟩
      have W4 : Nm K H H4 d (n + 2) p u v A B := W3.roll k4 (D4.mono (by omega))
      simp only [List.mem_cons, List.not_mem_nil, or_false] at hx
      rcases hx with rfl | rfl
      · exact ⟨i, rfl, W4, by omega, by omega⟩
      · exact ⟨_, rfl, W4, by rw [e25]; omega, by rw [e25]; omega⟩
    clear W
    rintro σ' H1 ⟨lo, rfl, W, l0, l1⟩
    -- high
    refine ⟨fun σ' H' => ∃ hi : Int, σ' = [some (.ref d), some u, some v, some (.int lo), some (.int hi), none, none, none, none, none, none, none, none, none] ∧ Nm K H H' d (n + 5) p u v A B ∧ lo ≤ hi ∧ hi ≤ lo + 100000000000000000000000000, ?_, ?_⟩
    · refine ⟨_, rfl, _, rfl, _, rfl, d, 50, _, rfl, W.D, by omega, by decide, by decide, fun i H2 i0 i1 k2 D2 => ?_⟩
      have W2 := W.roll k2 D2
      refine ⟨_, _, rfl, rfl, ⟨by decide, by decide⟩, _, rfl, d, 99, _, rfl, W2.D, by omega, by decide, by decide, fun j H3 j0 j1 k3 D3 => ⟨_, _, rfl, rfl, _, _, rfl, rfl, ⟨by decide, by decide⟩, (by show 3 ≤ sizeLine; decide), fun q H4 n4 s4 e4 => ?_⟩⟩
      have W4 := (W2.roll k3 D3).same s4
      refine ⟨d, q, _, _, rfl, W4.D, by omega, SqL.of e4, (D3.nn n4), (by show 0 < 3; decide), (by show 3 < 1000; decide), fun x H5 hx k5 D5 => ?_⟩
      have W5 : Nm K H H5 d (n + 5) p u v A B := W4.roll k5 (D5.mono (by omega))
      simp only [List.mem_cons, List.not_mem_nil, or_false] at hx
      rcases hx with rfl | rfl | rfl
      · exact ⟨_, _, rfl, rfl, _, rfl, W5, by omega, by omega⟩
      · exact ⟨_, _, rfl, rfl, _, rfl, W5, by rw [e13]; omega, by rw [e13]; omega⟩
      · exact ⟨_, _, rfl, rfl, _, rfl, W5, by rw [e26]; omega, by rw [e26]; omega⟩
    clear W
    rintro σ' H1 ⟨hi, rfl, W, h0, h1⟩
    -- told
    refine ⟨fun σ' H' => ∃ lt : Addr, σ' = [some (.ref d), some u, some v, some (.int lo), some (.int hi), some (.ref lt), none, none, none, none, none, none, none, none] ∧ Nm K H H' d (n + 5) p u v A B ∧ H' lt = some (.lst [.int (Rn.cnt (fun t => A t ∨ B t) lo hi : Int), .int (Rn.cnt (fun t => A t ∧ B t) lo hi : Int), .int (Rn.cnt (fun t => A t ∧ ¬ B t) lo hi : Int)]), ?_, ?_⟩
    · refine ⟨_, rfl, _, rfl, hOr W.u W.v (by omega) fun f1 H2 s2 h1 => hMt "how_many" (fun _ _ => rfl) h1 ⟨_, rfl, _, rfl, nil_ (hHow h1 fun c1 H3 s3 e1 => ?_)⟩⟩
      have W3 := W.same (Same.trans s2 s3)
      refine ⟨_, rfl, _, rfl, hAnd W3.u W3.v (by omega) fun f2 H4 s4 h2 => hMt "how_many" (fun _ _ => rfl) h2 ⟨_, rfl, _, rfl, nil_ (hHow h2 fun c2 H5 s5 e2 => ?_)⟩⟩
      have W5 := W3.same (Same.trans s4 s5)
      refine ⟨_, rfl, _, rfl, hSub W5.u W5.v (by omega) (by omega) fun f3 H6 s6 h3 => hMt "how_many" (fun _ _ => rfl) h3 ⟨_, rfl, _, rfl, nil_ (hHow h3 fun c3 H7 s7 e3 => ⟨(by show 3 ≤ sizeLine; decide), fun lt H8 n8 s8 e8 => ?_⟩)⟩⟩
      subst e1 e2 e3
      exact ⟨lt, rfl, W5.same (Same.trans s6 (Same.trans s7 s8)), e8⟩
    clear W
    rintro σ' H1 ⟨lt, rfl, W, et⟩
    -- parts
    refine ⟨fun σ' H' => ∃ lp : Addr, σ' = [some (.ref d), some u, some v, some (.int lo), some (.int hi), some (.ref lt), some (.ref lp), none, none, none, none, none, none, none] ∧ Nm K H H' d (n + 5) p u v A B ∧ H' lt = some (.lst [.int (Rn.cnt (fun t => A t ∨ B t) lo hi : Int), .int (Rn.cnt (fun t => A t ∧ B t) lo hi : Int), .int (Rn.cnt (fun t => A t ∧ ¬ B t) lo hi : Int)]) ∧ H' lp = some (.lst [.int (Rn.cnt A lo hi : Int), .int (Rn.cnt B lo hi : Int)]), ?_, ?_⟩
    · refine ⟨_, rfl, hMt "how_many" (fun _ _ => rfl) W.u ⟨_, rfl, _, rfl, nil_ (hHow W.u fun c1 H2 s2 e1 => ⟨_, rfl, hMt "how_many" (fun _ _ => rfl) (W.same s2).v ⟨_, rfl, _, rfl, nil_ (hHow (W.same s2).v fun c2 H3 s3 e2 => ⟨(by show 2 ≤ sizeLine; decide), fun lp H4 n4 s4 e4 => ?_⟩)⟩⟩)⟩⟩
      subst e1 e2
      have s14 := Same.trans s2 (Same.trans s3 s4)
      exact ⟨lp, rfl, W.same s14, s14 _ _ et, e4⟩
    clear W et
    rintro σ' H1 ⟨lp, rfl, W, et, ep⟩
    have m1 := Rn.cnt_both A B lo hi
    have m2 := Rn.cnt_split A B lo hi
    refine ⟨fun σ' H' => σ' = [some (.ref d), some u, some v, some (.int lo), some (.int hi), some (.ref lt), some (.ref lp), none, none, none, none, none, none, none] ∧ H' = H1, ?_, ?_⟩
    · refine ⟨_, rfl, lt, _, _, _, rfl, rfl, SqL.of et, atI_nat (j := 0) rfl, _, rfl, lt, _, _, _, rfl, rfl, SqL.of et, atI_nat (j := 1) rfl, _, _, rfl, rfl, _, rfl, lp, [_, _], rfl, SqL.of ep, ?_⟩
      refine ⟨rfl, _, rfl, iteC (ne_no (congrArg V.int (by simp only [List.sum_cons, List.sum_nil]; omega))) ?_⟩
      refine ⟨_, rfl, lt, _, _, _, rfl, rfl, SqL.of et, atI_nat (j := 2) rfl, _, rfl, lt, _, _, _, rfl, rfl, SqL.of et, atI_nat (j := 1) rfl, _, _, rfl, rfl, _, rfl, lp, _, _, _, rfl, rfl, SqL.of ep, atI_nat (j := 0) rfl, ?_⟩
      exact ⟨rfl, _, rfl, iteC (ne_no (congrArg V.int (by omega))) ⟨rfl, rfl⟩⟩
    rintro σ' H2 ⟨rfl, rfl⟩
    clear et m1 m2
    -- not
    refine ⟨fun σ' H' => σ' = [some (.ref d), some u, some v, some (.int lo), some (.int hi), some (.ref lt), some (.ref lp), none, none, none, none, none, none, none] ∧ Nm K H H' d (n + 5) p u v A B ∧ H' lp = some (.lst [.int (Rn.cnt A lo hi : Int), .int (Rn.cnt B lo hi : Int)]), ?_, ?_⟩
    · refine ⟨_, rfl, lp, _, _, _, rfl, rfl, SqL.of ep, atI_nat (j := 0) rfl, _, rfl, hInv W.u (by omega) fun f H2 s2 hf => hMt "how_many" (fun _ _ => rfl) hf ⟨_, rfl, _, rfl, nil_ (hHow hf fun c H3 s3 e3 => ?_)⟩⟩
      have s23 := Same.trans s2 s3
      refine ⟨_, _, rfl, rfl, _, rfl, _, rfl, _, _, rfl, rfl, _, _, rfl, rfl, ?_⟩
      subst e3
      have q := Rn.cnt_not A (lo := lo) (hi := hi) (by omega)
      refine ⟨rfl, _, rfl, iteC (ne_no (congrArg V.int (by show _ = hi - lo + 1; omega))) ⟨rfl, W.same s23, s23 _ _ ep⟩⟩
    clear W ep
    rintro σ' H1 ⟨rfl, W, ep⟩
    -- middle
    refine ⟨fun σ' H' => ∃ m : Int, σ' = [some (.ref d), some u, some v, some (.int lo), some (.int hi), some (.ref lt), some (.ref lp), some (.int m), none, none, none, none, none, none] ∧ lo ≤ m ∧ m ≤ hi ∧ H' = H1, ?_, ?_⟩
    · refine ⟨_, rfl, _, rfl, _, _, rfl, rfl, ?_⟩
      refine ⟨_, _, rfl, rfl, ⟨by decide, by decide⟩, (lo + hi) / 2, rfl, by omega, by omega, rfl⟩
    rintro σ' H2 ⟨m, rfl, g0, g1, rfl⟩
    refine ⟨fun σ' H' => σ' = [some (.ref d), some u, some v, some (.int lo), some (.int hi), some (.ref lt), some (.ref lp), some (.int m), none, none, none, none, none, none] ∧ Nm K H H' d (n + 5) p u v A B ∧ H' lp = some (.lst [.int (Rn.cnt A lo hi : Int), .int (Rn.cnt B lo hi : Int)]), ?_, ?_⟩
    · refine ⟨_, rfl, hMt "how_many" (fun _ _ => rfl) W.u ⟨_, rfl, _, rfl, nil_ (hHow W.u fun c1 H2 s2 e1 => ?_)⟩⟩
      have W2 := W.same s2
      refine ⟨_, rfl, hMt "how_many" (fun _ _ => rfl) W2.u ⟨_, rfl, _, _, rfl, rfl, _, rfl, nil_ (hHow W2.u fun c2 H3 s3 e2 => ?_)⟩⟩
      have s23 := Same.trans s2 s3
      refine ⟨_, _, rfl, rfl, _, rfl, lp, _, _, _, rfl, rfl, SqL.of (s23 _ _ ep), atI_nat (j := 0) rfl, ?_⟩
      subst e1 e2
      have q := Rn.cnt_cut (A := A) (lo := lo) (hi := hi) (c := m) (by omega) g1
      exact ⟨rfl, _, rfl, iteC (ne_no (congrArg V.int (by omega))) ⟨rfl, W.same s23, s23 _ _ ep⟩⟩
    clear W ep
    rintro σ' H1 ⟨rfl, W, ep⟩
    -- walked
    refine ⟨fun σ' H' => ∃ (l1 : Addr) (ys : List Int), σ' = [some (.ref d), some u, some v, some (.int lo), some (.int hi), some (.ref lt), some (.ref lp), some (.int m), some (.ref l1), none, none, none, none, none] ∧ Nm K H H' d (n + 5) p u v A B ∧ H' lp = some (.lst [.int (Rn.cnt A lo hi : Int), .int (Rn.cnt B lo hi : Int)]) ∧ H' l1 = some (.lst (nums ys)) ∧ Rn.Walk A 6 lo ys, ?_, ?_⟩
    · refine ⟨6, rfl, by decide, by decide, _, rfl, hMt "onward" (fun _ _ => rfl) W.u ⟨_, rfl, nil_ (hOnZ W.u fun ys H2 s2 h2 l1 n2 => ?_)⟩⟩
      have s3 := Same.trans s2 (upd_new n2 (o := .lst (nums ys)))
      exact ⟨l1, ys, rfl, W.same s3, s3 _ _ ep, upd_same, h2⟩
    clear W ep
    rintro σ' H1 ⟨l1, ys, rfl, W, ep, ew, hw⟩
    have hlen := hw.len
    -- found
    refine ⟨fun σ' H' => ∃ (l2 : Addr), σ' = [some (.ref d), some u, some v, some (.int lo), some (.int hi), some (.ref lt), some (.ref lp), some (.int m), some (.ref l1), none, none, some (.ref l2), none, none] ∧ Nm K H H' d (n + 5) p u v A B ∧ H' lp = some (.lst [.int (Rn.cnt A lo hi : Int), .int (Rn.cnt B lo hi : Int)]) ∧ H' l1 = some (.lst (nums ys)) ∧ H' l2 = some (.lst (((List.range 6).map fun (i : Nat) => ys[i]?).map ob)), ?_, ?_⟩
    · refine ⟨6, rfl, by decide, by decide, fun L hL => ?_⟩
      refine loop_rg (lo := 0) (n := 6) (fun i H' => H' L = some (.lst (((List.range i).map fun (i : Nat) => ys[i]?).map ob)) ∧ Same H1 H') ⟨upd_same, upd_new hL⟩ ?_ ?_
      · rintro i H2 hi ⟨hLa, s2⟩
        have W2 := W.same s2
        rw [Int.zero_add]
        refine ⟨rfl, _, rfl, hMt "kth" (fun _ _ => rfl) W2.u ⟨_, rfl, _, rfl, rfl, rfl, ?_⟩⟩
        dsimp only [tNil]
        refine hKth W2.u (fit_of (by omega)) (by decide) fun o H3 s3 h3 => ?_
        obtain rfl := h3.uniq (hw.kth i hi)
        refine ⟨_, s3 _ _ hLa, ?_, ?_, same_upd (Same.trans s2 s3) hL⟩
        · rw [List.length_map, List.length_map, List.length_range]
          exact Nat.lt_of_lt_of_le (by omega : i < 6) (by decide)
        · rw [upd_same, List.range_succ, List.map_append, List.map_append]
          rfl
      · rintro H2 ⟨hLa, s2⟩
        exact ⟨L, rfl, W.same s2, s2 _ _ ep, s2 _ _ ew, hLa⟩
    clear W ep ew
    rintro σ' H1 ⟨l2, rfl, W, ep, ew, ef⟩
    -- alike
    refine ⟨fun σ' H' => σ' = [some (.ref d), some u, some v, some (.int lo), some (.int hi), some (.ref lt), some (.ref lp), some (.int m), some (.ref l1), none, none, some (.ref l2), none, none] ∧ Nm K H H' d (n + 5) p u v A B ∧ H' lp = some (.lst [.int (Rn.cnt A lo hi : Int), .int (Rn.cnt B lo hi : Int)]), ?_, ?_⟩
    · refine ⟨_, rfl, _, rfl, (by show 1 ≤ sizeLine; decide), fun q1 H2 n2 s2 e2 => ⟨_, rfl, _, _, rfl, Or.inl ⟨_, SqL.of (s2 _ _ ew), rfl⟩, _, _, rfl, rfl, ?_⟩⟩
      have hbig : (100 : Nat) < sizeLine := by decide
      have hnl := nums_len (l := ys)
      refine ⟨q1, _, [.non], rfl, rfl, e2, by omega, by omega, by show 1 * _ ≤ _; omega, fun q2 H3 n3 s3 e3 => ?_⟩
      have eN : (List.replicate (6 - ((nums ys).length : Int)).toNat [V.non]).flatten = (List.replicate (6 - ys.length) none).map ob := by
        rw [nums_len, show (6 - (ys.length : Int)).toNat = 6 - ys.length by omega, List.map_replicate, List.flatten_replicate_singleton]
        rfl
      rw [eN] at e3
      have s13 := Same.trans s2 s3
      refine ⟨l1, q2, _, _, rfl, rfl, s13 _ _ ew, e3, by rw [nums_len, List.length_map, List.length_replicate]; omega, fun q3 H4 n4 s4 e4 => ?_⟩
      have eC : nums ys ++ (List.replicate (6 - ys.length) none).map ob = (ys.map some ++ List.replicate (6 - ys.length) none).map ob := by
        rw [List.map_append, List.map_map]
        rfl
      rw [eC, ← firsts hlen] at e4
      have s14 := Same.trans s13 s4
      refine neD_self (.list (((List.range 6).map fun (i : Nat) => ys[i]?).map od)) (shaped_ods _) (.lst (SqL.of (s14 _ _ ef)) (ods_dp _)) (.lst (SqL.of e4) (ods_dp _)) ⟨_, rfl, iteF ?_⟩
      have ew4 := s14 _ _ ew
      refine ⟨_, rfl, _, rfl, l1, ys, rfl, SqL.of ew4, Nat.lt_of_le_of_lt (by omega : ys.length + 1 ≤ 7) (by decide), fun q5 c H5 n5 s5 e5 hc => ⟨q5, _, c, rfl, e5, by omega, fun zs z1 z2 z3 q6 H6 n6 s6 e6 => ?_⟩⟩
      obtain rfl : zs = ys := Rn.asc_uniq z1 hw.asc.2 fun t => by rw [z2, decide_eq_true_iff]
      have s16 := Same.trans s14 (Same.trans s5 s6)
      refine neD_self (.list (zs.map PyData.int)) (shaped_ints zs) (.lst (SqL.of (s16 _ _ ew)) (ints_dp zs)) (.lst (SqL.of e6) (ints_dp zs)) ⟨_, rfl, iteF ⟨rfl, W.same s16, s16 _ _ ep⟩⟩
    clear W ep ew ef
    rintro σ' H1 ⟨rfl, W, ep⟩
    refine ⟨_, rfl, lp, _, _, _, rfl, rfl, SqL.of ep, atI_nat (j := 0) rfl, _, _, rfl, rfl, _, rfl, ite2 (fun c => ?_) fun c => ?_⟩
    · have hc : 0 < Rn.cnt A lo hi := by
        have := of_decide_eq_true c
        omega
      have hle := Rn.cnt_le (A := A) (lo := lo) (hi := hi)
      have e1 : ((Rn.cnt A lo hi : Int)) - 1 = ((Rn.cnt A lo hi - 1 : Nat) : Int) := by omega
      refine ⟨_, rfl, hMt "kth" (fun _ _ => rfl) W.u ⟨_, rfl, lp, _, _, _, rfl, rfl, SqL.of ep, atI_nat (j := 0) rfl, _, _, rfl, rfl, nil_ ⟨_, rfl, rfl, rfl, ?_⟩⟩⟩
      dsimp only
      rw [e1]
      refine hKth W.u (fit_of (by omega)) (by decide) fun o H2 s2 h2 => ?_
      obtain ⟨t, rfl, t1, t2, t3, t4⟩ := Rn.kth_last rfl hc h2
      have W2 := W.same s2
      refine ⟨_, rfl, _, rfl, hMt "at_or_before" (fun _ _ => rfl) W2.u ⟨_, rfl, nil_ (hBefor W2.u fun o H3 s3 h3 => ?_)⟩⟩
      obtain rfl := h3.uniq t4
      have W3 := W2.same s3
      refine ⟨rfl, true, congrArg V.bl (decide_eq_true rfl), iteT ⟨_, rfl, _, rfl, hCon W3.u fun b H4 hb s4 => ?_⟩⟩
      obtain rfl : b = true := hb.mpr t1
      refine ⟨_, rfl, iteT ?_⟩
      refine ⟨_, rfl, _, rfl, _, _, rfl, rfl, true, congrArg V.bl (decide_eq_true t2), iteT ⟨_, rfl, _, _, rfl, rfl, ?_⟩⟩
      dsimp only
      rw [decide_eq_true t3]
      have W4 := W3.same s4
      exact k H4 W4.k (W4.D.mono (by omega))
    · have hc : Rn.cnt A lo hi = 0 := by
        have := of_decide_eq_false (Bool.eq_false_iff.mpr c)
        omega
      refine ⟨_, rfl, hMt "at_or_after" (fun _ _ => rfl) W.u ⟨_, rfl, nil_ (hAfter W.u fun o H2 s2 h2 => ?_)⟩⟩
      have W2 := W.same s2
      cases o with
      | none =>
        refine ⟨true, rfl, iteT ?_⟩
        exact k H2 W2.k (W2.D.mono (by omega))
      | some t =>
        refine ⟨false, rfl, iteF ?_⟩
        refine ⟨_, rfl, hMt "at_or_after" (fun _ _ => rfl) W2.u ⟨_, rfl, nil_ (hAfter W2.u fun o H3 s3 h3 => ?_)⟩⟩
        obtain rfl := h3.uniq h2
        have W3 := W2.same s3
        have q := Rn.next_beyond hc h2
        refine ⟨_, rfl, _, _, rfl, rfl, ?_⟩
        dsimp only
        rw [decide_eq_true q]
        exact k H3 W3.k (W3.D.mono (by omega))
end
end TM
end

section
set_option maxHeartbeats 4000000
namespace TM
open PySem PySem.Spec PyProof.Rows L2 EW
theorem atI_end {α : Type} {xs : List α} {k : Nat} {v : α} (hl : xs.length = k + 1) (h : xs[k]? = some v) : atI xs (-1) = some v := by
  have ne : xs ≠ [] := fun e => by
    rw [e] at hl
    cases hl
  obtain ⟨ys, y, rfl⟩ : ∃ ys y, xs = ys ++ [y] := ⟨xs.dropLast, xs.getLast ne, (List.dropLast_concat_getLast ne).symm⟩
  have e : ys.length = k := by
    rw [List.length_append] at hl
    exact Nat.succ.inj hl
  subst e
  rw [List.getElem?_append_right (Nat.le_refl _), Nat.sub_self] at h
  obtain rfl := Option.some.inj h
  exact atI_last ys y
theorem PlV.keptN {K : W.Frag} {N : List Addr} {H H' : Hp} {v : V} {m : Addr} {ys : List V} (hm : m ∈ N) (e : H m = some (.lst ys)) (k : EW.Kept m H H') : ∀ {pl : Pl}, PlV K N H v pl → PlV K N H' v pl
  | .spans ss, ⟨l, xs, h1, hn, h2, h3⟩ => ⟨l, xs, h1.kept e k, hn, k _ _ (fun z => hn (z ▸ hm)) h2, Sns.kept h3 e k⟩
  | .or _ _, h => Tp.kept h e k
  | .and _ _, h => Tp.kept h e k
  | .less _ _, h => Tp.kept h e k
  | .not _, h => Tp.kept h e k
  | .move _ _, h => Tp.kept h e k
/-- what stands while the row is made -/
structure Row (K : W.Frag) (H0 H : Hp) (d lk lm lq : Addr) (n p : Int) (pls : List Pl) (As Bs : List (Int → Prop)) (us : List V) (ns : List Int) : Prop where
  k : EW.Kept d H0 H
  D : Dc H d n
  kn : Kn K [lk, lm] H p lk pls As
  hm : H lm = some (.lst us)
  ul : us.length = Bs.length
  has : ∀ (j : Nat) A, Bs[j]? = some A → ∃ u, us[j]? = some u ∧ Has K H u p A 1200
  cut : ∀ A ∈ Bs, Rn.Cuts p A (3 * 2 ^ (Bs.length - 2))
  hq : H lq = some (.lst (ns.map V.int))
  far : ∀ n ∈ ns, Far n
  nl : ns.length ≤ 1 + 6 * As.length
  dk : lk ≠ d
  dm : lm ≠ d
  dq : lq ≠ d
  km : lk ≠ lm
  qk : lq ≠ lk
  qm : lq ≠ lm
  fk : H0 lk = none
  fm : H0 lm = none
section
variable {K : W.Frag} {H0 H H' : Hp} {d lk lm lq : Addr} {n n' p : Int} {pls : List Pl} {As Bs : List (Int → Prop)} {us : List V} {ns : List Int}
theorem Row.same (h : Row K H0 H d lk lm lq n p pls As Bs us ns) (s : Same H H') : Row K H0 H' d lk lm lq n p pls As Bs us ns :=
  ⟨h.k.trans (kept_of s), h.D.same s, h.kn.same s, s _ _ h.hm, h.ul, fun j A e => let ⟨u, e1, e2⟩ := h.has j A e; ⟨u, e1, e2.same s⟩, h.cut, s _ _ h.hq, h.far, h.nl, h.dk, h.dm, h.dq, h.km, h.qk, h.qm, h.fk, h.fm⟩
theorem Row.roll (h : Row K H0 H d lk lm lq n p pls As Bs us ns) (k : EW.Kept d H H') (D : Dc H' d n') : Row K H0 H' d lk lm lq n' p pls As Bs us ns :=
  ⟨h.k.trans k, D, ⟨let ⟨vs, e, r⟩ := h.kn.at_; ⟨vs, k _ _ h.dk e, Paired.mono (fun _ _ q => PlV.roll h.D k q) r⟩, h.kn.len, h.kn.few, h.kn.tell⟩, k _ _ h.dm h.hm, h.ul, fun j A e => let ⟨u, e1, e2⟩ := h.has j A e; ⟨u, e1, e2.roll h.D k⟩, h.cut, k _ _ h.dq h.hq, h.far, h.nl, h.dk, h.dm, h.dq, h.km, h.qk, h.qm, h.fk, h.fm⟩
theorem Row.mono (h : Row K H0 H d lk lm lq n p pls As Bs us ns) (l : n ≤ n') : Row K H0 H d lk lm lq n' p pls As Bs us ns :=
  ⟨h.k, h.D.mono l, h.kn, h.hm, h.ul, h.has, h.cut, h.hq, h.far, h.nl, h.dk, h.dm, h.dq, h.km, h.qk, h.qm, h.fk, h.fm⟩
theorem Row.made {u : V} {B : Int → Prop} (h : Row K H0 H d lk lm lq n p pls As As us ns) (hB : Has K H u p B 1200) (hc : Rn.Cuts p B (3 * 2 ^ (As.length - 1))) : Row K H0 (upd H lm (.lst (us ++ [u]))) d lk lm lq n p pls As (As ++ [B]) (us ++ [u]) ns := by
  have hin : lm ∈ [lk, lm] := by simp
  refine ⟨fun a o ne e => ?_, h.D.keep (upd_ne (Ne.symm h.dm)), ⟨?_, h.kn.len, h.kn.few, h.kn.tell⟩, upd_same, by rw [List.length_append, List.length_append, h.ul]; rfl, fun j A e => ?_, fun A hA => ?_, by rw [upd_ne h.qm]; exact h.hq, h.far, h.nl, h.dk, h.dm, h.dq, h.km, h.qk, h.qm, h.fk, h.fm⟩
  · rw [upd_ne (ne_of_none e h.fm)]
    exact h.k a o ne e
  · obtain ⟨vs, e, r⟩ := h.kn.at_
    exact ⟨vs, by rw [upd_ne h.km]; exact e, Paired.mono (fun _ _ q => PlV.keptN hin h.hm Kept.upd q) r⟩
  · by_cases c : j < As.length
    · rw [List.getElem?_append_left c] at e
      obtain ⟨u, e1, e2⟩ := h.has j A e
      exact ⟨u, by rw [List.getElem?_append_left (by rw [h.ul]; exact c)]; exact e1, e2.kept h.hm Kept.upd⟩
    · have hj := (List.getElem?_eq_some_iff.mp e).1
      rw [List.length_append] at hj
      obtain rfl : j = As.length := by
        have : [B].length = 1 := rfl
        omega
      rw [List.getElem?_append_right (Nat.le_refl _), Nat.sub_self] at e
      obtain rfl := Option.some.inj e
      exact ⟨u, by rw [List.getElem?_append_right (by rw [h.ul]; exact Nat.le_refl _), h.ul, Nat.sub_self]; rfl, hB.kept h.hm Kept.upd⟩
  · rw [List.length_append]
    rcases List.mem_append.mp hA with hA | hA
    · exact (h.cut A hA).le (Nat.mul_le_mul_left 3 (Nat.pow_le_pow_right (by decide) (by show _ ≤ As.length + 1 - 2; omega)))
    · rw [List.mem_singleton.mp hA]
      exact hc.le (Nat.mul_le_mul_left 3 (Nat.pow_le_pow_right (by decide) (by show _ ≤ As.length + 1 - 2; omega)))
theorem Row.known {v : V} {pl : Pl} {vs : List V} {B : Int → Prop} (h : Row K H0 H d lk lm lq n p pls As (As ++ [B]) us ns) (hv : PlV K [lk, lm] H v pl) (ht : Tell p As pl B) (ev : H lk = some (.lst vs)) (hf : As.length < 7) : Row K H0 (upd H lk (.lst (vs ++ [v]))) d lk lm lq n p (pls ++ [pl]) (As ++ [B]) (As ++ [B]) us ns := by
  have hin : lk ∈ [lk, lm] := by simp
  have hl := h.kn.len
  have h1 : [pl].length = 1 := rfl
  have h2 : [B].length = 1 := rfl
  refine ⟨fun a o ne e => ?_, h.D.keep (upd_ne (Ne.symm h.dk)), ⟨?_, by rw [List.length_append, List.length_append, hl]; rfl, by rw [List.length_append]; omega, fun i pl' A e1 e2 => ?_⟩, by rw [upd_ne (Ne.symm h.km)]; exact h.hm, h.ul, fun j A e => ?_, h.cut, by rw [upd_ne h.qk]; exact h.hq, h.far, Nat.le_trans h.nl (by rw [List.length_append]; omega), h.dk, h.dm, h.dq, h.km, h.qk, h.qm, h.fk, h.fm⟩
  · rw [upd_ne (ne_of_none e h.fk)]
    exact h.k a o ne e
  · obtain ⟨vs', e, r⟩ := h.kn.at_
    rw [ev] at e
    cases e
    exact ⟨vs ++ [v], upd_same, pr_append (Paired.mono (fun _ _ q => PlV.keptN hin ev Kept.upd q) r) (.cons (PlV.keptN hin ev Kept.upd hv) .nil)⟩
  · by_cases c : i < As.length
    · rw [List.getElem?_append_left (by omega)] at e1
      rw [List.getElem?_append_left c] at e2
      rw [List.take_append_of_le_length (Nat.le_of_lt c)]
      exact h.kn.tell i pl' A e1 e2
    · have hj := (List.getElem?_eq_some_iff.mp e2).1
      rw [List.length_append] at hj
      obtain rfl : i = As.length := by omega
      rw [List.getElem?_append_right (Nat.le_refl _), Nat.sub_self] at e2
      rw [← hl, List.getElem?_append_right (Nat.le_refl _), Nat.sub_self] at e1
      obtain rfl := Option.some.inj e1
      obtain rfl := Option.some.inj e2
      rw [List.take_append_of_le_length (Nat.le_refl _), List.take_length]
      exact ht
  · obtain ⟨u, e1, e2⟩ := h.has j A e
    exact ⟨u, e1, e2.kept ev Kept.upd⟩
end
end TM
end

section
set_option maxHeartbeats 4000000
namespace TM
open PySem PySem.Spec PyProof.Rows L2 EW
abbrev NRight : List Str := ["_law_dice_here", "_law_period_here", "_law_known", "_law_made_here", "_law_points", "_law_turn", "_law_plain_here", "_law_last", "_law_place", "_law_time", "_law_one", "_law_two"]
theorem Right : FnScope NRight ["_law_dice_here"] (defScope sRight) := ⟨rfl, rfl, rfl, by decide +kernel, rfl, by decide +kernel, by decide +kernel⟩
def spRightL (K : W.Frag) : Sp := fun vs H Q _ => ∃ (d : Addr) (n : Int), vs = [.ref d] ∧ Dc H d n ∧ n + 2000 ≤ 1000000 ∧ ∀ H', EW.Kept d H H' → Dc H' d (n + 2000) → Q (.bl true) H'
section
variable {P : Program} {w : World} {K : W.Frag} {mg : Str → Option Value} {base : Heap}
theorem ok_right {fd : FuncData} (F : FnP K "_law_right" sRight fd) (T : Fre mg) (KT : Kl K mg "Times") (Mcon : Mt P w K mg base 2 (CT K) "__contains__" ["self", "value"] (spCon K))
    (D_law_period : Df P w K mg base 3 "_law_period" ["_law_dice_here"] spPeriodL) (D_law_pick : Df P w K mg base 2 "_law_pick" ["_law_dice_here", "_law_items"] (spPick K)) (D_law_roll : Df P w K mg base 1 "_law_roll" ["_law_dice_here", "_law_many"] spRoll)
    (D_law_plain : Df P w K mg base 7 "_law_plain" ["_law_dice_here", "_law_period_here", "_law_known"] (spPlain K)) (D_law_made : Df P w K mg base 12 "_law_made" ["_law_period_here", "_law_made_here", "_law_plain_here"] (spMade K)) (D_law_edges : Df P w K mg base 2 "_law_edges" ["_law_plain_here"] (spEdges K))
    (D_law_has : Df P w K mg base 10 "_law_has" ["_law_period_here", "_law_known", "_law_plain_here", "_law_time"] (spHas K 7)) (D_law_ways_right : Df P w K mg base 12 "_law_ways_right" ["_law_dice_here", "_law_period_here", "_law_one", "_law_two"] (spWays K)) (D_law_numbers_right : Df P w K mg base 12 "_law_numbers_right" ["_law_dice_here", "_law_one", "_law_two"] (spNumb K)) :
    FnOk P w K mg base CX0 13 (He.ga K "_law_right") fd ["_law_dice_here"] (spRightL K) := by
  refine F.ok Right (fun vs H Q E h => ?_) (fun cdv A outer s H vs Q E hr h => ?_)
  · obtain ⟨d, n, rfl, _⟩ := h
    rfl
  · obtain ⟨d, n, rfl, D, hn, k⟩ := h
    refine ⟨_, PSs.nox (pss_cons (ps_cut (ps_set (i := 1) Right.nd rfl (Or.inl rfl) (pe_df D_law_period (hr.mono (by decide)) rfl (pa_cons (pv 0) pa_nil))))
      (pss_cons (ps_cut (ps_par3 (i := 2) (j := 3) (l := 4) (by rfl) Right.nd rfl rfl rfl (by decide) (by decide) (by decide) rfl rfl rfl (pa_cons (pe_lstS pa_nil) (pa_cons (pe_lstS pa_nil) (pa_cons (pe_lstS (pa_cons pe_int pa_nil)) pa_nil))) (by rfl)))
      (pss_cons (ps_cut (ps_for PassesOwn.never rfl (pi_range1 rfl T.range (pa_cons (pe_op op_add pe_int (pe_df D_law_roll (hr.mono (by decide)) rfl (pa_cons (pv 0) (pa_cons pe_int pa_nil)))) pa_nil)) (pg_name (i := 5) Right.nd rfl (Or.inl rfl)) (pss_cons (ps_cut (ps_set (i := 6) Right.nd rfl (Or.inl rfl) (pe_df D_law_plain (hr.mono (by decide)) rfl (pa_cons (pv 0) (pa_cons (pv 1) (pa_cons (pv 2) pa_nil))))))
      (pss_cons (ps_cut (ps_expr (pe_bm PySem.F.plainAttrs_list PySem.F.slot_list_append PySem.F.type_list_append mt_append (pv 3) (pa_cons (pe_df D_law_made (hr.mono (by decide)) rfl (pa_cons (pv 1) (pa_cons (pv 3) (pa_cons (pv 6) pa_nil)))) pa_nil))))
      (pss_cons (ps_cut (ps_expr (pe_bm PySem.F.plainAttrs_list PySem.F.slot_list_append PySem.F.type_list_append mt_append (pv 2) (pa_cons (pv 6) pa_nil))))
      (pss_one (ps_set (i := 4) Right.nd rfl (Or.inl rfl) (pe_op op_catS (pv 4) (pe_df D_law_edges (hr.mono (by decide)) rfl (pa_cons (pv 6) pa_nil))))))))))
      (pss_cons (ps_cut (ps_set (i := 7) Right.nd rfl (Or.inl rfl) (pe_ix (ix_listK K rfl) (pv 2) (pe_un un_neg pe_int) (fun _ _ => rfl))))
      (pss_cons (ps_cut (ps_for PassesOwn.never rfl (pi_listK (K := K) rfl (pe_op op_catS (pe_lstS (pa_cons pe_int (pa_cons (pe_op op_powW pe_int pe_int) (pa_cons (pe_op op_sub pe_int (pe_op op_powW pe_int pe_int)) pa_nil)))) (pe_slice (sl_listS K rfl) (pv 4) (po_some (pe_un un_neg pe_int)) po_none))) (pg_name (i := 8) Right.nd rfl (Or.inl rfl)) (pss_one (ps_for PassesOwn.never rfl (pi_range2 rfl T.range (pa_cons (pe_op op_sub (pe_op op_sub (pv 8) (pv 1)) pe_int) (pa_cons (pe_op op_add (pe_op op_add (pv 8) (pv 1)) pe_int) pa_nil))) (pg_name (i := 9) Right.nd rfl (Or.inl rfl)) (pss_one (ps_if (pt_cmpR op_ne (pe_cmpR (op_inO Mcon (hr.mono (by decide))) (pv 9) (pe_ix (ix_listK K rfl) (pv 3) (pe_un un_neg pe_int) (fun _ _ => rfl)) rfl) (pe_df D_law_has (hr.mono (by decide)) rfl (pa_cons (pv 1) (pa_cons (pv 2) (pa_cons (pv 7) (pa_cons (pv 9) pa_nil))))) (nomark _)) (pss_one (ps_ret pe_bl)) pss_nil))))))
      (pss_cons (ps_cut (ps_par (i := 10) (j := 11) (by rfl) Right.nd rfl rfl (by decide) rfl rfl (pa_cons (pe_ix (ix_listK K rfl) (pv 3) (pe_un un_neg pe_int) (fun _ _ => rfl)) (pa_cons (pe_df D_law_pick (hr.mono (by decide)) rfl (pa_cons (pv 0) (pa_cons (pv 3) pa_nil))) pa_nil)) (by rfl)))
      (pss_one (ps_ret (pe_and (pe_df D_law_ways_right (hr.mono (by decide)) rfl (pa_cons (pv 0) (pa_cons (pv 1) (pa_cons (pv 10) (pa_cons (pv 11) pa_nil))))) (pe_one (pe_df D_law_numbers_right (hr.mono (by decide)) rfl (pa_cons (pv 0) (pa_cons (pv 10) (pa_cons (pv 11) pa_nil)))))))))))))), ?_⟩
    refine ⟨fun σ' H' => ∃ p, σ' = [some (.ref d), some (.int p), none, none, none, none, none, none, none, none, none, none] ∧ 1 ≤ p ∧ p ≤ 12 ∧ EW.Kept d H H' ∧ Dc H' d (n + 1), ?_, ?_⟩
    · exact ⟨_, rfl, d, n, rfl, D, by omega, fun p H1 p1 p2 k1 D1 => ⟨p, rfl, p1, p2, k1, D1⟩⟩
    rintro σ' H1 ⟨p, rfl, p1, p2, k1, D1⟩
    -- known, made, points
    refine ⟨fun σ' H' => ∃ lk lm lq, σ' = [some (.ref d), some (.int p), some (.ref lk), some (.ref lm), some (.ref lq), none, none, none, none, none, none, none] ∧ Row K H H' d lk lm lq (n + 1) p [] [] [] [] [0], ?_, ?_⟩
    · refine ⟨(by show 0 ≤ sizeLine; decide), fun lk H2 n2 s2 e2 => ⟨(by show 0 ≤ sizeLine; decide), fun lm H3 n3 s3 e3 => ⟨(by show 1 ≤ sizeLine; decide), fun lq H4 n4 s4 e4 => ⟨_, _, _, rfl, lk, lm, lq, rfl, ?_⟩⟩⟩⟩
      have s14 := Same.trans s2 (Same.trans s3 s4)
      have s24 := Same.trans s3 s4
      have km : lk ≠ lm := ne_of_none e2 n3
      have k2 := k1.trans (kept_of s2)
      have d2 := D1.same s2
      have k3 := k2.trans (kept_of s3)
      have d3 := d2.same s3
      exact ⟨k1.trans (kept_of s14), D1.same s14, ⟨⟨[], s24 _ _ e2, .nil⟩, rfl, Nat.zero_le _, fun i pl A h _ => nomatch h⟩, s4 _ _ e3, rfl, (fun j A h => nomatch h), (fun A h => nomatch h), e4, (fun m hm => by rw [List.mem_singleton.mp hm]; unfold Far; omega), (by show 1 ≤ 1 + 6 * 0; omega), D1.nn n2, d2.nn n3, d3.nn n4, km, (ne_of_none (s3 _ _ e2) n4).symm, (ne_of_none e3 n4).symm, k1.free n2 (D1.nn n2), k2.free n3 (d2.nn n3)⟩
    clear k1 D1 D
    rintro σ' H1 ⟨lk, lm, lq, rfl, W⟩
    -- the row
    refine ⟨fun σ' H' => ∃ (lq : Addr) (u5 u6 : Option V) (m : Nat) (pls : List Pl) (As : List (Int → Prop)) (us : List V) (ns : List Int), σ' = [some (.ref d), some (.int p), some (.ref lk), some (.ref lm), some (.ref lq), u5, u6, none, none, none, none, none] ∧ As.length = m + 1 ∧ Row K H H' d lk lm lq (n + 1500) p pls As As us ns, ?_, ?_⟩
    · refine ⟨_, rfl, d, 6, _, rfl, W.D, by omega, by decide, by decide, fun r H2 r0 r1 k2 D2 => ⟨_, _, rfl, rfl, 2 + r, rfl, by omega, by omega, ?_⟩⟩
      have W2 : Row K H H2 d lk lm lq (n + 2) p [] [] [] [] [0] := W.roll k2 (D2.mono (by omega))
      refine for_range (lo := 0) (n := (2 + r).toNat) (fun i σ' H' => ∃ (lq : Addr) (u5 u6 : Option V) (pls : List Pl) (As : List (Int → Prop)) (us : List V) (ns : List Int), σ' = [some (.ref d), some (.int p), some (.ref lk), some (.ref lm), some (.ref lq), u5, u6, none, none, none, none, none] ∧ As.length = i ∧ Row K H H' d lk lm lq (n + 2 + 200 * (i : Int)) p pls As As us ns) ⟨lq, _, _, _, _, _, _, rfl, rfl, W2.mono (by omega)⟩ ?_ ?_
      · clear W W2 k2 D2 H2
        rintro i σ' H2 hi ⟨lq, u5, u6, pls, As, us, ns, rfl, ha, W⟩
        have hi7 : i < 7 := by omega
        have hlp := W.kn.len
        -- plain
        refine ⟨fun σ' H' => ∃ (v : V) (pl : Pl), σ' = [some (.ref d), some (.int p), some (.ref lk), some (.ref lm), some (.ref lq), some (.int (0 + (i : Int))), some v, none, none, none, none, none] ∧ Row K H H' d lk lm lq (n + 2 + 200 * ((i + 1 : Nat) : Int)) p pls As As us ns ∧ PlV K [lk, lm] H' v pl ∧ Fits p As.length pl, ?_, ?_⟩
        · obtain ⟨vs, ev, R⟩ := W.kn.at_
          have hvl := R.length
          refine ⟨_, rfl, _, rfl, _, rfl, [lk, lm], d, lk, p, _, vs, fun a ha => ?_, rfl, W.D, by omega, p1, p2, W.dk, ev, by omega, fun v pl H3 k3 D3 hv hf => ⟨v, pl, rfl, (W.roll k3 D3).mono (by omega), hv, by rw [show As.length = vs.length by omega]; exact hf⟩⟩
          simp only [List.mem_cons, List.not_mem_nil, or_false] at ha
          rcases ha with rfl | rfl
          · exact ⟨W.dk, _, ev⟩
          · exact ⟨W.dm, _, W.hm⟩
        clear W
        rintro σ' H3 ⟨v, pl, rfl, W, hv, hf⟩
        obtain ⟨B, ht, hc⟩ := hf.tell (by omega) W.cut
        -- made
        refine ⟨fun σ' H' => ∃ u : V, σ' = [some (.ref d), some (.int p), some (.ref lk), some (.ref lm), some (.ref lq), some (.int (0 + (i : Int))), some v, none, none, none, none, none] ∧ Row K H H' d lk lm lq (n + 2 + 200 * ((i + 1 : Nat) : Int)) p pls As (As ++ [B]) (us ++ [u]) ns ∧ PlV K [lk, lm] H' v pl, ?_, ?_⟩
        · refine ⟨_, rfl, Or.inl ⟨rfl, _, SqL.of W.hm⟩, _, rfl, _, rfl, _, rfl, [lk, lm], p, lm, v, pl, us, As, B, rfl, p1, p2, W.hm, W.has, hv, ht, fun u H4 s4 h4 => ?_⟩
          have W4 := W.same s4
          have hcl : 3 * 2 ^ (As.length - 1) ≤ 96 := Nat.mul_le_mul_left 3 (Nat.pow_le_pow_right (by decide) (by omega : As.length - 1 ≤ 5))
          have hb : p.toNat * (3 * 2 ^ (As.length - 1) + 1) ≤ 12 * 97 := Nat.mul_le_mul (by omega) (by omega)
          have hB : Has K H4 u p B 1200 := (h4.cut hc).le (by omega)
          have hul := W.ul
          refine ⟨lm, us, u, rfl, rfl, W4.hm, Nat.lt_of_le_of_lt (by omega : us.length ≤ 7) (by decide), u, rfl, W4.made hB hc, PlV.keptN (by simp) W4.hm Kept.upd (hv.same s4)⟩
        clear W hv
        rintro σ' H4 ⟨u, rfl, W, hv⟩
        -- known
        refine ⟨fun σ' H' => σ' = [some (.ref d), some (.int p), some (.ref lk), some (.ref lm), some (.ref lq), some (.int (0 + (i : Int))), some v, none, none, none, none, none] ∧ Row K H H' d lk lm lq (n + 2 + 200 * ((i + 1 : Nat) : Int)) p (pls ++ [pl]) (As ++ [B]) (As ++ [B]) (us ++ [u]) ns ∧ ns.length ≤ 1 + 6 * i ∧ PlV K [lk, lm] H' v pl, ?_, ?_⟩
        · obtain ⟨vs, ev, R⟩ := W.kn.at_
          have hvl := R.length
          refine ⟨_, rfl, Or.inl ⟨rfl, _, SqL.of ev⟩, _, rfl, lk, vs, v, rfl, rfl, ev, Nat.lt_of_le_of_lt (by omega : vs.length ≤ 7) (by decide), rfl, W.known hv ht ev (by omega), by have := W.nl; omega, PlV.keptN (by simp) ev Kept.upd hv⟩
        clear W hv
        rintro σ' H5 ⟨rfl, W, hnl, hv⟩
        -- points
        refine ⟨_, rfl, _, rfl, [lk, lm], p, v, pl, As, B, rfl, hv, ht, fun q ms H6 n6 s6 e6 hf hl => ?_⟩
        have W6 := W.same s6
        refine ⟨lq, q, _, _, rfl, rfl, W6.hq, e6, ?_, fun q2 H7 n7 s7 e7 => ?_⟩
        · rw [List.length_map, List.length_map]
          exact Nat.le_trans (by omega : ns.length + ms.length ≤ 100) (by decide)
        have W7 := W6.same s7
        obtain ⟨vs, ev, _⟩ := W6.kn.at_
        refine ⟨q2, _, _, _, _, _, ns ++ ms, rfl, by rw [List.length_append, ha]; rfl, W7.k, W7.D, W7.kn, W7.hm, W7.ul, W7.has, W7.cut, by rw [List.map_append]; exact e7, fun m hm => (List.mem_append.mp hm).elim (W7.far m) (hf m), ?_, W7.dk, W7.dm, W6.D.nn n7, W7.km, (ne_of_none ev n7).symm, (ne_of_none W6.hm n7).symm, W7.fk, W7.fm⟩
        rw [List.length_append, List.length_append]
        show _ ≤ 1 + 6 * (As.length + 1)
        omega
      · rintro σ' H3 ⟨lq, u5, u6, pls, As, us, ns, rfl, ha, W⟩
        exact ⟨lq, u5, u6, (2 + r).toNat - 1, pls, As, us, ns, rfl, by omega, W.mono (by omega)⟩
    clear W
    rintro σ' H1 ⟨lq, u5, u6, m, pls, As, us, ns, rfl, ha, W⟩
    have hlp := W.kn.len
    have hul := W.ul
    have hfw := W.kn.few
    have hnl := W.nl
    -- last
    refine ⟨fun σ' H' => ∃ (v : V) (pl : Pl), σ' = [some (.ref d), some (.int p), some (.ref lk), some (.ref lm), some (.ref lq), u5, u6, some v, none, none, none, none] ∧ H' = H1 ∧ PlV K [lk, lm] H1 v pl ∧ pls[m]? = some pl, ?_, ?_⟩
    · obtain ⟨vs, ev, R⟩ := W.kn.at_
      have hvl := R.length
      have hm : m < vs.length := by omega
      obtain ⟨pl, hpl, hv⟩ := pr_get R (List.getElem?_eq_getElem hm)
      exact ⟨_, rfl, _, rfl, lk, _, _, _, rfl, rfl, SqL.of ev, atI_end (by omega) (List.getElem?_eq_getElem hm), _, pl, rfl, rfl, hv, hpl⟩
    rintro σ' H2 ⟨v, pl, rfl, rfl, hv, hpl⟩
    obtain ⟨A, hA⟩ : ∃ A, As[m]? = some A := ⟨_, List.getElem?_eq_getElem (by omega)⟩
    have ht := W.kn.tell m pl A hpl hA
    obtain ⟨u, hu, hus⟩ := W.has m A hA
    -- members
    refine ⟨fun σ' H' => ∃ u8 u9 : Option V, σ' = [some (.ref d), some (.int p), some (.ref lk), some (.ref lm), some (.ref lq), u5, u6, some v, u8, u9, none, none] ∧ Same H2 H', ?_, ?_⟩
    · have e13 : (10 : Int) ^ (13 : Int).toNat = 10000000000000 := by decide +kernel
      refine ⟨_, _, rfl, rfl, ⟨by decide, by decide⟩, _, _, rfl, rfl, ⟨by decide, by decide⟩, _, _, rfl, rfl, (by show 3 ≤ sizeLine; decide), fun q1 H3 n3 s3 e3 => ?_⟩
      rw [e13] at e3
      refine ⟨_, rfl, _, rfl, _, rfl, lq, _, rfl, SqL.of (s3 _ _ W.hq), fun q2 H4 n4 s4 e4 => ?_⟩
      have hcv := cutV_length (ns.map V.int) (some (-6)) none
      obtain ⟨ms, hms, hsub⟩ : ∃ ms : List Int, cutV (ns.map V.int) (some (-6)) none = ms.map V.int ∧ ∀ m ∈ ms, m ∈ ns := by
        unfold cutV
        rw [← List.map_drop, ← List.map_take]
        exact ⟨_, rfl, fun m hm => List.mem_of_mem_drop (List.mem_of_mem_take hm)⟩
      rw [hms, List.length_map, List.length_map] at hcv
      have e4' : H4 q2 = some (.lst (ms.map V.int)) := by rw [← hms]; exact e4
      refine ⟨q1, q2, _, _, rfl, rfl, s4 _ _ e3, e4', ?_, fun q3 H5 n5 s5 e5 => ?_⟩
      · rw [List.length_map]
        exact Nat.le_trans (by show 3 + ms.length ≤ 100; omega) (by decide)
      have s25 := Same.trans s3 (Same.trans s4 s5)
      have e5' : H5 q3 = some (.lst (([0, 10000000000000, 0 - 10000000000000] ++ ms : List Int).map V.int)) := by
        rw [List.map_append]
        exact e5
      have hnear : ∀ t ∈ ([0, 10000000000000, 0 - 10000000000000] ++ ms : List Int), -10000000000000 ≤ t ∧ t ≤ 10000000000000 := fun t ht => by
        rcases List.mem_append.mp ht with ht | ht
        · simp only [List.mem_cons, List.not_mem_nil, or_false] at ht
          omega
        · have := W.far t (hsub t ht)
          unfold Far at this
          omega
      refine ⟨q3, rfl, ⟨_, SqL.of e5'⟩, ?_⟩
      refine for_list (K := K) (a := q3) (xs := ([0, 10000000000000, 0 - 10000000000000] ++ ms : List Int).map V.int) (fun j σ' H' => ∃ u8 u9 : Option V, σ' = [some (.ref d), some (.int p), some (.ref lk), some (.ref lm), some (.ref lq), u5, u6, some v, u8, u9, none, none] ∧ Same H5 H') ⟨_, _, rfl, Same.refl _⟩ ?_ ?_ ?_
      · rintro j σ' H' _ ⟨u8, u9, _, s6⟩
        exact SqL.of (s6 _ _ e5')
      · rintro j x σ' H6 hx ⟨u8, u9, rfl, s6⟩
        rw [List.getElem?_map] at hx
        obtain ⟨t, hjt, rfl⟩ := Option.map_eq_some_iff.mp hx
        obtain ⟨t0, t1⟩ := hnear t (List.mem_of_getElem? hjt)
        refine ⟨_, rfl, _, rfl, _, _, rfl, rfl, _, _, rfl, rfl, _, rfl, _, rfl, _, _, rfl, rfl, _, _, rfl, rfl, ?_⟩
        refine nil_ ⟨t - p - 12, t + p + 13, rfl, ⟨by omega, by omega, by omega, by omega⟩, ?_⟩
        refine for_range (lo := t - p - 12) (n := (t + p + 13 - (t - p - 12)).toNat) (fun i σ' H' => ∃ u9 : Option V, σ' = [some (.ref d), some (.int p), some (.ref lk), some (.ref lm), some (.ref lq), u5, u6, some v, some (.int t), u9, none, none] ∧ Same H5 H') ⟨_, rfl, s6⟩ ?_ ?_
        · rintro i σ' H7 hi ⟨u9, rfl, s7⟩
          have s27 := Same.trans s25 s7
          have W7 := W.same s27
          refine ⟨_, rfl, _, rfl, _, rfl, lm, _, _, _, rfl, rfl, SqL.of W7.hm, atI_end (by omega) hu, hCon (hus.same s27) fun b H8 hb s8 => ?_⟩
          have s28 := Same.trans s27 s8
          refine ⟨_, rfl, _, rfl, _, rfl, _, rfl, [lk, lm], p, _, lk, v, pl, pls, As, A, m, rfl, by omega, by omega, W.kn.same s28, hv.same s28, ht, fun c H9 hc s9 => ⟨rfl, _, rfl, iteC (ne_no (congrArg V.bl (Bool.eq_iff_iff.mpr (hb.trans hc.symm)))) ?_⟩⟩
          exact ⟨_, rfl, Same.trans s7 (Same.trans s8 s9)⟩
        · rintro σ' H7 ⟨u9, rfl, s7⟩
          exact ⟨_, _, rfl, s7⟩
      · rintro σ' H6 ⟨u8, u9, rfl, s6⟩
        exact ⟨u8, u9, rfl, Same.trans s25 s6⟩
    rintro σ' H3 ⟨u8, u9, rfl, s3⟩
    have W3 := W.same s3
    refine ⟨fun σ' H' => ∃ (u v2 : V) (A B : Int → Prop), σ' = [some (.ref d), some (.int p), some (.ref lk), some (.ref lm), some (.ref lq), u5, u6, some v, u8, u9, some u, some v2] ∧ Row K H H' d lk lm lq (n + 1501) p pls As As us ns ∧ Has K H' u p A 1200 ∧ Has K H' v2 p B 1200, ?_, ?_⟩
    · refine ⟨_, rfl, _, rfl, lm, _, _, _, rfl, rfl, SqL.of W3.hm, atI_end (by omega) hu, _, rfl, _, rfl, d, lm, us, _, rfl, W3.D, by omega, SqL.of W3.hm, W3.dm, by omega, by omega, fun x H4 hx k4 D4 => ?_⟩
      obtain ⟨j, hj⟩ := List.getElem?_of_mem hx
      obtain ⟨B, hB⟩ : ∃ B, As[j]? = some B := ⟨_, List.getElem?_eq_getElem (by have := (List.getElem?_eq_some_iff.mp hj).1; omega)⟩
      obtain ⟨x', e1, e2⟩ := W3.has j B hB
      obtain rfl : x = x' := Option.some.inj (hj.symm.trans e1)
      have W4 : Row K H H4 d lk lm lq (n + 1501) p pls As As us ns := (W3.roll k4 D4).mono (by omega)
      exact ⟨_, _, rfl, u, x, A, B, rfl, W4, (hus.same s3).roll W3.D k4, e2.roll W3.D k4⟩
    clear W W3 hus
    rintro σ' H4 ⟨u, v2, A, B, rfl, W, hA, hB⟩
    refine ⟨_, rfl, _, rfl, _, rfl, _, rfl, d, p, _, u, v2, A, B, rfl, W.D, by omega, p1, p2, hA, hB, fun H5 k5 D5 => ⟨true, rfl, iteT ?_⟩⟩
    refine ⟨_, rfl, _, rfl, _, rfl, d, p, _, u, v2, A, B, rfl, D5, by omega, p1, p2, hA.roll W.D k5, hB.roll W.D k5, fun H6 k6 D6 => ?_⟩
    exact k H6 (W.k.trans (k5.trans k6)) (D6.mono (by omega))
end
end TM
end

section
set_option maxHeartbeats 4000000
namespace TM
open PySem PySem.Spec PyProof.Rows L2 EW
abbrev NLaw : List Str := ["_law_script", "_law_spot", "_law_week", "_law_singles", "_law_time"]
theorem Law : FnScope NLaw ["_law_script"] (defScope sLaw) := ⟨rfl, rfl, rfl, by decide +kernel, rfl, by decide +kernel, by decide +kernel⟩
def spLaw (K : W.Frag) : Sp := fun vs H Q _ => ∃ (a : Addr) (ns : List Int), vs = [.ref a] ∧ SqL K H a (ns.map V.int) ∧ ns.length ≤ 63 ∧ ∀ H', Q (.bl true) H'
abbrev lWk : List Rn.Sp3 := [⟨some 1, some 0, none⟩, ⟨some 3, none, some 40⟩]
abbrev lWi : List Rn.Sp3 := [⟨none, some (-50), some 59⟩]
theorem win_iff (t : Int) : Rn.inSpans 7 lWi t ↔ -50 ≤ t ∧ t ≤ 59 := by
  simp only [Rn.spans_cons, Rn.spans_nil, Rn.span_N, Rn.span_S, Rn.geN, Rn.geS, Rn.leN, Rn.leS, true_and, and_true, or_false]
/-- single times -/
def Sing (A : Int → Prop) (i : Nat) (ss : List Rn.Sp3) : Prop := (∀ s ∈ ss, ∃ t, s = ⟨none, some t, some t⟩ ∧ -50 ≤ t ∧ t < -50 + (i : Int) ∧ A t) ∧ (∀ t, -50 ≤ t → t < -50 + (i : Int) → A t → ⟨none, some t, some t⟩ ∈ ss) ∧ ss.length ≤ i
theorem Sing.yes {A : Int → Prop} {i : Nat} {ss : List Rn.Sp3} (h : Sing A i ss) (ha : A (-50 + (i : Int))) : Sing A (i + 1) (ss ++ [⟨none, some (-50 + (i : Int)), some (-50 + (i : Int))⟩]) := by
  obtain ⟨h1, h2, h3⟩ := h
  refine ⟨fun s hs => ?_, fun t t0 t1 ht => ?_, by rw [List.length_append]; exact Nat.succ_le_succ h3⟩
  · rcases List.mem_append.mp hs with hs | hs
    · obtain ⟨t, e, a, b, c⟩ := h1 s hs
      exact ⟨t, e, a, by omega, c⟩
    · exact ⟨_, List.mem_singleton.mp hs, by omega, by omega, ha⟩
  · by_cases c : t < -50 + (i : Int)
    · exact List.mem_append_left _ (h2 t t0 c ht)
    · obtain rfl : t = -50 + (i : Int) := by omega
      exact List.mem_append_right _ List.mem_cons_self
theorem Sing.no {A : Int → Prop} {i : Nat} {ss : List Rn.Sp3} (h : Sing A i ss) (ha : ¬ A (-50 + (i : Int))) : Sing A (i + 1) ss := by
  obtain ⟨h1, h2, h3⟩ := h
  refine ⟨fun s hs => ?_, fun t t0 t1 ht => ?_, Nat.le_succ_of_le h3⟩
  · obtain ⟨t, e, a, b, c⟩ := h1 s hs
    exact ⟨t, e, a, by omega, c⟩
  · by_cases c : t < -50 + (i : Int)
    · exact h2 t t0 c ht
    · obtain rfl : t = -50 + (i : Int) := by omega
      exact absurd ht ha
theorem Sing.iff {A : Int → Prop} {ss : List Rn.Sp3} (h : Sing A 110 ss) (t : Int) : Rn.inSpans 7 ss t ↔ A t ∧ -50 ≤ t ∧ t ≤ 59 := by
  obtain ⟨h1, h2, h3⟩ := h
  constructor
  · rintro ⟨s, hs, m1, m2, m3⟩
    obtain ⟨x, rfl, a, b, c⟩ := h1 s hs
    have e1 := m2 x rfl
    have e2 := m3 x rfl
    obtain rfl : t = x := by omega
    exact ⟨c, a, by omega⟩
  · rintro ⟨a, b, c⟩
    exact ⟨_, h2 t b (by omega) a, (fun r e => nomatch e), (fun l e => by cases e; exact Int.le_refl _), fun l e => by cases e; exact Int.le_refl _⟩
section
variable {P : Program} {w : World} {K : W.Frag} {mg : Str → Option Value} {base : Heap}
theorem has_all {fd : FuncData} (F : FnP K "_law_has" sHasL fd) (b_has : L2.Binds K fd ["_law_period_here", "_law_known", "_law_plain_here", "_law_time"] []) (g_has : mg "_law_has" = some (.ref (He.ga K "_law_has"))) (D_law_is_in : Df P w K mg base 2 "_law_is_in" ["_law_period_here", "_law_spans_here", "_law_time"] (spIsIn K)) :
    ∀ j, Df P w K mg base (j + 3) "_law_has" ["_law_period_here", "_law_known", "_law_plain_here", "_law_time"] (spHas K j)
  | 0 => ⟨⟨_, has_no F, b_has⟩, F.kp, g_has⟩
  | j + 1 => ⟨⟨_, has_step F j D_law_is_in (has_all F b_has g_has D_law_is_in j), b_has⟩, F.kp, g_has⟩
theorem ok_has {fd : FuncData} (F : FnP K "_law_has" sHasL fd) (b_has : L2.Binds K fd ["_law_period_here", "_law_known", "_law_plain_here", "_law_time"] []) (g_has : mg "_law_has" = some (.ref (He.ga K "_law_has"))) (D_law_is_in : Df P w K mg base 2 "_law_is_in" ["_law_period_here", "_law_spans_here", "_law_time"] (spIsIn K)) :
    FnOk P w K mg base CX0 10 (He.ga K "_law_has") fd ["_law_period_here", "_law_known", "_law_plain_here", "_law_time"] (spHas K 7) := has_step F 6 D_law_is_in (has_all F b_has g_has D_law_is_in 6)
theorem ok_law {fd : FuncData} (F : FnP K "law" sLaw fd) (T : Fre mg) (KT : Kl K mg "Times") (FT : FnR P w K mg base CX0 7 (He.ma K (CT K) "__init__") (spTInit K)) (Cof : CMt P w K mg base 9 (CT K) "of" (spOf K)) (Meq : Mt P w K mg base 1 (CT K) "__eq__" ["self", "other"] (spEq K)) (Mcon : Mt P w K mg base 2 (CT K) "__contains__" ["self", "value"] (spCon K))
    (Mand : Mt P w K mg base 10 (CT K) "__and__" ["self", "other"] (spAnd K)) (Minv : Mt P w K mg base 10 (CT K) "__invert__" ["self"] (spInv K)) (Msub : Mt P w K mg base 11 (CT K) "__sub__" ["self", "other"] (spSub K))
    (D_law_dice : Df P w K mg base 1 "_law_dice" ["_law_script", "_law_spot"] (spDice K)) (D_law_right : Df P w K mg base 13 "_law_right" ["_law_dice_here"] (spRightL K)) :
    FnOk P w K mg base CX0 14 (He.ga K "law") fd ["_law_script"] (spLaw K) := by
  refine F.ok Law (fun vs H Q E h => ?_) (fun cdv A outer s H vs Q E hr h => ?_)
  · obtain ⟨a, ns, rfl, _⟩ := h
    rfl
  · obtain ⟨a, ns, rfl, hS, hlen, k⟩ := h
    refine ⟨_, PSs.nox (pss_cons (ps_cut (ps_for PassesOwn.never rfl (pi_range1 rfl T.range (pa_cons (pe_callB (call_max2 rfl) (by rfl) T.max EW.boot_max (pa_cons pe_int (pa_cons (pe_callB (call_min2 rfl) (by rfl) T.min EW.boot_min (pa_cons pe_int (pa_cons (pe_callB (call_lenK K rfl) (by rfl) T.len PySem.boot_len (pa_cons (pv 0) pa_nil)) pa_nil))) pa_nil))) pa_nil)) (pg_name (i := 1) Law.nd rfl (Or.inl rfl)) (pss_one (ps_if (pt_not (pt_val (pe_df D_law_right (hr.mono (by decide)) rfl (pa_cons (pe_df D_law_dice (hr.mono (by decide)) rfl (pa_cons (pv 0) (pa_cons (pv 1) pa_nil))) pa_nil)))) (pss_one (ps_ret pe_bl)) pss_nil))))
      (pss_cons (ps_cut (ps_set (i := 2) Law.nd rfl (Or.inr rfl) (StX.pe_makeR KT.mkr FT (hr.mono (by decide)) rfl KT.g pass0 (pa_cons pe_int (pa_cons (pl_tup (K := K) (by show 3 ≤ sizeLine; decide) (pls_cons pl_int (pls_cons pl_int (pls_cons pl_non pls_nil)))) (pa_cons (pl_tup (K := K) (by show 3 ≤ sizeLine; decide) (pls_cons pl_int (pls_cons pl_non (pls_cons pl_int pls_nil)))) pa_nil))))))
      (pss_cons (ps_cut (ps_set (i := 3) Law.nd rfl (Or.inl rfl) (pe_cmt (pe_glob (v := .ref (He.ga K "Times")) rfl KT.g rfl) Cof (hr.mono (by decide)) (pa_cons pe_int (pa_cons (pe_callTy (call_tupS K rfl) (by rfl) T.tuple EW.boot_tuple (pa_cons (pe_lc (own := [("_law_time", 4)]) (g := gName 4) (tt := _) (by rfl) Law.nd (pi_range2 rfl T.range (pa_cons (pe_un un_neg pe_int) (pa_cons pe_int pa_nil))) (blkOk_by (own := [("_law_time", 4)]) (N := NLaw) (sc := defScope sLaw) (by decide +kernel)) (fun _ _ _ _ _ => (pg_name (i := 4) Law.nd rfl (Or.inl rfl))) (fun _ _ _ _ _ => (pts_one (pt_cmpR (op_inO Mcon (hr.mono (by decide))) (pv 4) (pv 2) rfl))) (fun _ _ _ _ _ => (pe_tupS (pa_cons pe_non (pa_cons (pv 4) (pa_cons (pv 4) pa_nil)))))) pa_nil)) pa_nil)))))
      (pss_one (ps_ret (pe_and (pe_cmpR (op_eqO Meq (hr.mono (by decide))) (pv 3) (pe_op (op_own Mand KT.sf (hr.mono (by decide))) (pv 2) (StX.pe_makeR KT.mkr FT (hr.mono (by decide)) rfl KT.g pass0 (pa_cons pe_int (pa_cons (pl_tup (K := K) (by show 3 ≤ sizeLine; decide) (pls_cons pl_non (pls_cons (pl_neg pl_int) (pls_cons pl_int pls_nil)))) pa_nil)))) (nomark _)) (pe_one (pe_cmpR (op_eqO Meq (hr.mono (by decide))) (pe_op (op_own Msub KT.sf (hr.mono (by decide))) (pv 2) (pv 3)) (pe_op (op_own Mand KT.sf (hr.mono (by decide))) (pv 2) (pe_un (un_own Minv (hr.mono (by decide))) (StX.pe_makeR KT.mkr FT (hr.mono (by decide)) rfl KT.g pass0 (pa_cons pe_int (pa_cons (pl_tup (K := K) (by show 3 ≤ sizeLine; decide) (pls_cons pl_non (pls_cons (pl_neg pl_int) (pls_cons pl_int pls_nil)))) pa_nil))))) (nomark _))))))))), ?_⟩
    refine ⟨fun σ' H' => ∃ u : Option V, σ' = [some (.ref a), u, none, none, none], ?_, ?_⟩
    · refine ⟨_, rfl, _, (ns.map V.int).length, rfl, Or.inl ⟨_, hS, rfl⟩, _, _, rfl, _, _, rfl, _, rfl, ?_, ?_, ?_⟩
      · split <;> split <;> omega
      · rw [List.length_map]
        split <;> split <;> omega
      refine for_range (lo := 0) (fun i σ' H' => ∃ u : Option V, σ' = [some (.ref a), u, none, none, none] ∧ Same H H') ⟨_, rfl, Same.refl H⟩ ?_ ?_
      · rintro i σ' H1 hi ⟨u, rfl, s1⟩
        refine ⟨_, rfl, _, rfl, a, ns, _, rfl, s1.seq hS, by omega, fun d H2 nd s2 D2 => ?_⟩
        refine ⟨d, 0, rfl, D2, by omega, fun H4 k4 D4 => ?_⟩
        refine ⟨_, rfl, iteF ?_⟩
        exact ⟨_, rfl, Same.trans s1 (k4.same s2 nd)⟩
      · rintro σ' H1 ⟨u, rfl, s1⟩
        exact ⟨_, rfl⟩
    rintro σ' H1 ⟨u, rfl⟩
    have spok : ∀ {p : Int} {ss : List Rn.Sp3}, ss.all (fun s => match s.res with | none => true | some r => decide (0 ≤ r ∧ r < p)) = true → ∀ s ∈ ss, Rn.SpOk p s := fun {p ss} h s hs r e => by
      have q := List.all_eq_true.mp h s hs
      rw [e] at q
      exact of_decide_eq_true q
    -- week
    refine ⟨fun σ' H' => ∃ we : V, σ' = [some (.ref a), u, some we, none, none] ∧ Has K H' we 7 (Rn.inSpans 7 lWk) 14, ?_, ?_⟩
    · refine fun q1 H2 s2 d1 q2 H3 s3 d2 => (fun xx dx nx ndx ne => hMake xx dx nx ndx ne (p := 7) (ss := lWk) (by decide) (by decide) (.cons (sn_of_dp ⟨some 1, some 0, none⟩ (dp_same s3 _ _ d1)) (.cons (sn_of_dp ⟨some 3, none, some 40⟩ d2) .nil)) (spok (by decide)) (by decide) fun H5 s5 h5 => ⟨rfl, _, rfl, h5⟩)
    rintro σ' H2 ⟨we, rfl, hw⟩
    -- singles
    refine ⟨fun σ' H' => ∃ si : V, σ' = [some (.ref a), u, some we, some si, none] ∧ Has K H' we 7 (Rn.inSpans 7 lWk) 14 ∧ Has K H' si 7 (fun t => Rn.inSpans 7 lWk t ∧ -50 ≤ t ∧ t ≤ 59) 770, ?_, ?_⟩
    · refine ⟨rfl, _, rfl, -50, 60, rfl, ⟨by decide, by decide, by decide, by decide⟩, fun L hL => ?_⟩
      refine loop_rg (lo := -50) (n := 110) (fun i H' => ∃ (acc : List V) (ss : List Rn.Sp3), H' L = some (.lst acc) ∧ Same H2 H' ∧ Sns K H' acc ss ∧ Sing (Rn.inSpans 7 lWk) i ss) ⟨[], [], upd_same, upd_new hL, .nil, (fun s hs => nomatch hs), (fun t t0 t1 => by omega), Nat.le_refl _⟩ ?_ ?_
      · rintro i H3 hi ⟨acc, ss, hLa, s3, R, hg⟩
        have hlen := R.length
        have hsl := hg.2.2
        refine ⟨rfl, _, rfl, _, rfl, hCon (hw.same s3) fun b H4 hb s4 => ⟨_, rfl, ?_⟩⟩
        have s34 := Same.trans s3 s4
        cases b with
        | false => exact iteF ⟨acc, ss, s4 _ _ hLa, s34, Sns.same R s4, hg.no fun z => by cases hb.mpr z⟩
        | true =>
          refine iteT ⟨_, rfl, _, rfl, (by show 3 ≤ sizeLine; decide), fun q H5 n5 s5 e5 => ?_⟩
          have hLa5 := s5 _ _ (s4 _ _ hLa)
          refine ⟨acc, hLa5, Nat.lt_of_le_of_lt (by omega : acc.length ≤ 110) (by decide), acc ++ [.ref q], _, upd_same, same_upd (Same.trans s34 s5) hL, ?_, hg.yes (hb.mp rfl)⟩
          exact Sns.kept (pr_append (Sns.same R (Same.trans s4 s5)) (.cons (Tp.of e5) .nil)) hLa5 Kept.upd
      · rintro H3 ⟨acc, ss, hLa, s3, R, hg⟩
        have hsl := hg.2.2
        refine ⟨L, acc, rfl, SqL.of hLa, fun q H4 n4 s4 e4 => hOf (p := 7) (by decide) (by decide) (SqT.of e4) (Sns.same R s4) (fun s hs r e => by
          obtain ⟨t, rfl, _⟩ := hg.1 s hs
          cases e) (by omega) fun x H5 s5 h5 => ?_⟩
        exact ⟨x, rfl, hw.same (Same.trans s3 (Same.trans s4 s5)), (h5.mem hg.iff).le (Nat.mul_le_mul_left 7 hsl)⟩
    rintro σ' H3 ⟨si, rfl, hw, hs⟩
    refine ⟨_, rfl, _, rfl, fun q1 H4 s4 d1 => (fun xx dx nx ndx ne => hMake xx dx nx ndx ne (p := 7) (ss := lWi) (by decide) (by decide) (.cons (sn_of_dp ⟨none, some (-50), some 59⟩ d1) .nil) (spok (by decide)) (by decide) fun H5 s5 h5 => ⟨rfl, ?_⟩)⟩
    have s45 := Same.trans s4 s5
    refine hAnd (hw.same s45) h5 (by decide) fun x H6 s6 h6 => hEq (hs.same (Same.trans s45 s6)) h6 fun b hb => ?_
    obtain rfl : b = true := hb.mpr fun t => by rw [win_iff]
    refine ⟨true, rfl, iteT ?_⟩
    have s36 := Same.trans s45 s6
    refine ⟨_, rfl, _, rfl, hSub (hw.same s36) (hs.same s36) (by decide) (by decide) fun y H7 s7 h7 => ?_⟩
    refine ⟨_, rfl, fun q1 H8 s8 d8 => (fun xx dx nx ndx ne => hMake xx dx nx ndx ne (p := 7) (ss := lWi) (by decide) (by decide) (.cons (sn_of_dp ⟨none, some (-50), some 59⟩ d8) .nil) (spok (by decide)) (by decide) fun H9 s9 h9 => ⟨rfl, hInv h9 (by decide) fun z H10 s10 h10 => ?_⟩)⟩
    have s710 := Same.trans s8 (Same.trans s9 s10)
    refine hAnd (hw.same (Same.trans s36 (Same.trans s7 s710))) h10 (by decide) fun z2 H11 s11 h11 => hEq (h7.same (Same.trans s710 s11)) h11 fun b hb => ?_
    obtain rfl : b = true := hb.mpr fun t => by
      rw [win_iff]
      exact ⟨fun h => ⟨h.1, fun z => h.2 ⟨h.1, z⟩⟩, fun h => ⟨h.1, fun z => h.2 z.2⟩⟩
    exact k H11
end
end TM
end

section
set_option maxHeartbeats 0
namespace TM
open PySem PySem.Spec PyProof.Rows L2 EW
theorem facts {P : Program} {w : World} {K : W.Frag} {h : Heap} {mg : Str → Option Value} {f : Addr} (X : K.In h) (G : h.Ns mainGlobals mg) (hfa : mg ("law" : Str) = some (.ref f)) (c : He5.SaysA fa fn K) (cx : exB K = true) :
    ∃ fd : FuncData, (∀ (s : Shared) (v : Value), BindsTo s fd ⟨[v], []⟩ [("_law_script", v)]) ∧ ∀ base : Heap, K.In base → base.Ns mainGlobals mg → FnG P w K mg base CX0 14 f fd ["_law_script"] (spLaw K) := by
  obtain ⟨x0, cx'⟩ := He.ba cx
  have KR := klB_ok X G x0
  obtain ⟨x1, cx''⟩ := He.ba cx'
  have KT := klB_ok X G x1
  obtain ⟨x2, cx'''⟩ := He.ba cx''
  obtain ⟨x3, cx''''⟩ := He.ba cx'''
  obtain ⟨x4, cx'''''⟩ := He.ba cx''''
  obtain ⟨x5, cx''''''⟩ := He.ba cx'''''
  have I : Isi K := ⟨kitB1_ok x2, kitB1_ok x3, kitB1_ok x4, kitB1_ok x5⟩
  obtain ⟨x6, cx'''''''⟩ := He.ba cx''''''
  have hNe := findB_ok x6
  obtain ⟨x7, cx''''''''⟩ := He.ba cx'''''''
  have prTimes_runs := propB_ok x7
  obtain ⟨x8, cx'''''''''⟩ := He.ba cx''''''''
  have crTimes := creadB_ok x8
  have x9 := cx'''''''''
  have cmTimes_of := cmetB_ok x9
  obtain ⟨fd0, F0⟩ : ∃ fd, FunD K "is_integer" "is_integer" (defArgs sIsInt) (defBody sIsInt) (defScope sIsInt) [] [] (He.ga K "is_integer") fd := c.def_ 0
  have b0 := FunD.bindsN (ps := ["value"]) F0 fun _ _ _ _ _ _ us hl => match us, hl with | [_], _ => rfl
  have g0 : mg "is_integer" = some (.ref (He.ga K "is_integer")) := He.glo_ok X G (c.fact 0 (f := .glo "is_integer") rfl)
  obtain ⟨fd1, F1⟩ : ∃ fd, FunD K "is_between" "is_between" (defArgs sBetween) (defBody sBetween) (defScope sBetween) [] [] (He.ga K "is_between") fd := c.def_ 1
  have b1 := FunD.bindsN (ps := ["value", "least", "most"]) F1 fun _ _ _ _ _ _ us hl => match us, hl with | [_, _, _], _ => rfl
  have g1 : mg "is_between" = some (.ref (He.ga K "is_between")) := He.glo_ok X G (c.fact 1 (f := .glo "is_between") rfl)
  obtain ⟨fd2, F2⟩ : ∃ fd, FunD K "is_bound" "is_bound" (defArgs sIsBound) (defBody sIsBound) (defScope sIsBound) [] [] (He.ga K "is_bound") fd := c.def_ 2
  have b2 := FunD.bindsN (ps := ["value"]) F2 fun _ _ _ _ _ _ us hl => match us, hl with | [_], _ => rfl
  have g2 : mg "is_bound" = some (.ref (He.ga K "is_bound")) := He.glo_ok X G (c.fact 2 (f := .glo "is_bound") rfl)
  obtain ⟨fd3, F3⟩ : ∃ fd, FunD K "require_period" "require_period" (defArgs sReqP) (defBody sReqP) (defScope sReqP) [] [] (He.ga K "require_period") fd := c.def_ 3
  have b3 := FunD.bindsN (ps := ["period"]) F3 fun _ _ _ _ _ _ us hl => match us, hl with | [_], _ => rfl
  have g3 : mg "require_period" = some (.ref (He.ga K "require_period")) := He.glo_ok X G (c.fact 3 (f := .glo "require_period") rfl)
  obtain ⟨fd4, F4⟩ : ∃ fd, FunD K "require_integer" "require_integer" (defArgs sReqI) (defBody sReqI) (defScope sReqI) [] [] (He.ga K "require_integer") fd := c.def_ 4
  have b4 := FunD.bindsN (ps := ["value"]) F4 fun _ _ _ _ _ _ us hl => match us, hl with | [_], _ => rfl
  have g4 : mg "require_integer" = some (.ref (He.ga K "require_integer")) := He.glo_ok X G (c.fact 4 (f := .glo "require_integer") rfl)
  obtain ⟨fd5, F5⟩ : ∃ fd, FunD K "is_span" "is_span" (defArgs sIsSpan) (defBody sIsSpan) (defScope sIsSpan) [] [] (He.ga K "is_span") fd := c.def_ 5
  have b5 := FunD.bindsN (ps := ["period", "value"]) F5 fun _ _ _ _ _ _ us hl => match us, hl with | [_, _], _ => rfl
  have g5 : mg "is_span" = some (.ref (He.ga K "is_span")) := He.glo_ok X G (c.fact 5 (f := .glo "is_span") rfl)
  obtain ⟨fd6, F6⟩ : ∃ fd, FunD K "greater_of" "greater_of" (defArgs sGreater) (defBody sGreater) (defScope sGreater) [] [] (He.ga K "greater_of") fd := c.def_ 6
  have b6 := FunD.bindsN (ps := ["one", "other"]) F6 fun _ _ _ _ _ _ us hl => match us, hl with | [_, _], _ => rfl
  have g6 : mg "greater_of" = some (.ref (He.ga K "greater_of")) := He.glo_ok X G (c.fact 6 (f := .glo "greater_of") rfl)
  obtain ⟨fd7, F7⟩ : ∃ fd, FunD K "lesser_of" "lesser_of" (defArgs sLesser) (defBody sLesser) (defScope sLesser) [] [] (He.ga K "lesser_of") fd := c.def_ 7
  have b7 := FunD.bindsN (ps := ["one", "other"]) F7 fun _ _ _ _ _ _ us hl => match us, hl with | [_, _], _ => rfl
  have g7 : mg "lesser_of" = some (.ref (He.ga K "lesser_of")) := He.glo_ok X G (c.fact 7 (f := .glo "lesser_of") rfl)
  obtain ⟨fd8, F8⟩ : ∃ fd, FunD K "rounded" "rounded" (defArgs sRounded) (defBody sRounded) (defScope sRounded) [] [] (He.ga K "rounded") fd := c.def_ 8
  have b8 := FunD.bindsN (ps := ["period", "residue", "pair"]) F8 fun _ _ _ _ _ _ us hl => match us, hl with | [_, _, _], _ => rfl
  have g8 : mg "rounded" = some (.ref (He.ga K "rounded")) := He.glo_ok X G (c.fact 8 (f := .glo "rounded") rfl)
  obtain ⟨fd9, F9⟩ : ∃ fd, FunD K "is_empty_pair" "is_empty_pair" (defArgs sEmptyP) (defBody sEmptyP) (defScope sEmptyP) [] [] (He.ga K "is_empty_pair") fd := c.def_ 9
  have b9 := FunD.bindsN (ps := ["pair"]) F9 fun _ _ _ _ _ _ us hl => match us, hl with | [_], _ => rfl
  have g9 : mg "is_empty_pair" = some (.ref (He.ga K "is_empty_pair")) := He.glo_ok X G (c.fact 9 (f := .glo "is_empty_pair") rfl)
  obtain ⟨fd10, F10⟩ : ∃ fd, FunD K "run_of" "run_of" (defArgs sRunOf) (defBody sRunOf) (defScope sRunOf) [] [] (He.ga K "run_of") fd := c.def_ 10
  have b10 := FunD.bindsN (ps := ["period", "residue", "least", "most"]) F10 fun _ _ _ _ _ _ us hl => match us, hl with | [_, _, _, _], _ => rfl
  have g10 : mg "run_of" = some (.ref (He.ga K "run_of")) := He.glo_ok X G (c.fact 10 (f := .glo "run_of") rfl)
  obtain ⟨fd11, F11⟩ : ∃ fd, FunD K "run_key" "run_key" (defArgs sRunKey) (defBody sRunKey) (defScope sRunKey) [] [] (He.ga K "run_key") fd := c.def_ 11
  have b11 := FunD.bindsN (ps := ["run"]) F11 fun _ _ _ _ _ _ us hl => match us, hl with | [_], _ => rfl
  have g11 : mg "run_key" = some (.ref (He.ga K "run_key")) := He.glo_ok X G (c.fact 11 (f := .glo "run_key") rfl)
  obtain ⟨fd12, F12⟩ : ∃ fd, FunD K "goes_on" "goes_on" (defArgs sGoesOn) (defBody sGoesOn) (defScope sGoesOn) [] [] (He.ga K "goes_on") fd := c.def_ 12
  have b12 := FunD.bindsN (ps := ["period", "run", "other"]) F12 fun _ _ _ _ _ _ us hl => match us, hl with | [_, _, _], _ => rfl
  have g12 : mg "goes_on" = some (.ref (He.ga K "goes_on")) := He.glo_ok X G (c.fact 12 (f := .glo "goes_on") rfl)
  obtain ⟨fd13, F13⟩ : ∃ fd, FunD K "united" "united" (defArgs sUnited) (defBody sUnited) (defScope sUnited) [] [] (He.ga K "united") fd := c.def_ 13
  have b13 := FunD.bindsN (ps := ["period", "runs"]) F13 fun _ _ _ _ _ _ us hl => match us, hl with | [_, _], _ => rfl
  have g13 : mg "united" = some (.ref (He.ga K "united")) := He.glo_ok X G (c.fact 13 (f := .glo "united") rfl)
  obtain ⟨fd14, F14⟩ : ∃ fd, FunD K "grouped" "grouped" (defArgs sGrouped) (defBody sGrouped) (defScope sGrouped) [] [] (He.ga K "grouped") fd := c.def_ 14
  have b14 := FunD.bindsN (ps := ["runs"]) F14 fun _ _ _ _ _ _ us hl => match us, hl with | [_], _ => rfl
  have g14 : mg "grouped" = some (.ref (He.ga K "grouped")) := He.glo_ok X G (c.fact 14 (f := .glo "grouped") rfl)
  obtain ⟨fd15, F15⟩ : ∃ fd, FunD K "runs_in" "runs_in" (defArgs sRunsIn) (defBody sRunsIn) (defScope sRunsIn) [] [] (He.ga K "runs_in") fd := c.def_ 15
  have b15 := FunD.bindsN (ps := ["period", "spans"]) F15 fun _ _ _ _ _ _ us hl => match us, hl with | [_, _], _ => rfl
  have g15 : mg "runs_in" = some (.ref (He.ga K "runs_in")) := He.glo_ok X G (c.fact 15 (f := .glo "runs_in") rfl)
  obtain ⟨fd16, F16⟩ : ∃ fd, FunD K "outside_runs" "outside_runs" (defArgs sOutside) (defBody sOutside) (defScope sOutside) [] [] (He.ga K "outside_runs") fd := c.def_ 16
  have b16 := FunD.bindsN (ps := ["period", "residue", "runs"]) F16 fun _ _ _ _ _ _ us hl => match us, hl with | [_, _, _], _ => rfl
  have g16 : mg "outside_runs" = some (.ref (He.ga K "outside_runs")) := He.glo_ok X G (c.fact 16 (f := .glo "outside_runs") rfl)
  obtain ⟨fd17, F17⟩ : ∃ fd, FunD K "is_member" "is_member" (defArgs sMember) (defBody sMember) (defScope sMember) [] [] (He.ga K "is_member") fd := c.def_ 17
  have b17 := FunD.bindsN (ps := ["period", "runs", "time"]) F17 fun _ _ _ _ _ _ us hl => match us, hl with | [_, _, _], _ => rfl
  have g17 : mg "is_member" = some (.ref (He.ga K "is_member")) := He.glo_ok X G (c.fact 17 (f := .glo "is_member") rfl)
  obtain ⟨fd18, F18⟩ : ∃ fd, FunD K "common_runs" "common_runs" (defArgs sCommon) (defBody sCommon) (defScope sCommon) [] [] (He.ga K "common_runs") fd := c.def_ 18
  have b18 := FunD.bindsN (ps := ["period", "one", "other"]) F18 fun _ _ _ _ _ _ us hl => match us, hl with | [_, _, _], _ => rfl
  have g18 : mg "common_runs" = some (.ref (He.ga K "common_runs")) := He.glo_ok X G (c.fact 18 (f := .glo "common_runs") rfl)
  obtain ⟨fd19, F19⟩ : ∃ fd, FunD K "next_in" "next_in" (defArgs sNextIn) (defBody sNextIn) (defScope sNextIn) [] [] (He.ga K "next_in") fd := c.def_ 19
  have b19 := FunD.bindsN (ps := ["period", "runs", "time"]) F19 fun _ _ _ _ _ _ us hl => match us, hl with | [_, _, _], _ => rfl
  have g19 : mg "next_in" = some (.ref (He.ga K "next_in")) := He.glo_ok X G (c.fact 19 (f := .glo "next_in") rfl)
  obtain ⟨fd20, F20⟩ : ∃ fd, FunD K "last_in" "last_in" (defArgs sLastIn) (defBody sLastIn) (defScope sLastIn) [] [] (He.ga K "last_in") fd := c.def_ 20
  have b20 := FunD.bindsN (ps := ["period", "runs", "time"]) F20 fun _ _ _ _ _ _ us hl => match us, hl with | [_, _, _], _ => rfl
  have g20 : mg "last_in" = some (.ref (He.ga K "last_in")) := He.glo_ok X G (c.fact 20 (f := .glo "last_in") rfl)
  obtain ⟨fd21, F21⟩ : ∃ fd, FunD K "many_in" "many_in" (defArgs sManyIn) (defBody sManyIn) (defScope sManyIn) [] [] (He.ga K "many_in") fd := c.def_ 21
  have b21 := FunD.bindsN (ps := ["period", "runs", "low", "high"]) F21 fun _ _ _ _ _ _ us hl => match us, hl with | [_, _, _, _], _ => rfl
  have g21 : mg "many_in" = some (.ref (He.ga K "many_in")) := He.glo_ok X G (c.fact 21 (f := .glo "many_in") rfl)
  obtain ⟨fd22, F22⟩ : ∃ fd, FunD K "far_end" "far_end" (defArgs sFarEnd) (defBody sFarEnd) (defScope sFarEnd) [] [] (He.ga K "far_end") fd := c.def_ 22
  have b22 := FunD.bindsN (ps := ["period", "runs", "start", "many"]) F22 fun _ _ _ _ _ _ us hl => match us, hl with | [_, _, _, _], _ => rfl
  have g22 : mg "far_end" = some (.ref (He.ga K "far_end")) := He.glo_ok X G (c.fact 22 (f := .glo "far_end") rfl)
  obtain ⟨fd23, F23⟩ : ∃ fd, FunD K "kth_in" "kth_in" (defArgs sKthIn) (defBody sKthIn) (defScope sKthIn) [] [] (He.ga K "kth_in") fd := c.def_ 23
  have b23 := FunD.bindsN (ps := ["period", "runs", "index", "start"]) F23 fun _ _ _ _ _ _ us hl => match us, hl with | [_, _, _, _], _ => rfl
  have g23 : mg "kth_in" = some (.ref (He.ga K "kth_in")) := He.glo_ok X G (c.fact 23 (f := .glo "kth_in") rfl)
  obtain ⟨fd24, F24⟩ : ∃ fd, FunD K "__init__" "Runs.__init__" (defArgs sRInit) (defBody sRInit) (defScope sRInit) [] [] (He.ma K (He.ga K "Runs") "__init__") fd := c.def_ 24
  have b24 := FunD.bindsN (ps := ["self", "period", "runs"]) F24 fun _ _ _ _ _ _ us hl => match us, hl with | [_, _, _], _ => rfl
  obtain ⟨fd25, F25⟩ : ∃ fd, FunD K "checked" "checked" (defArgs sChecked) (defBody sChecked) (defScope sChecked) [] [] (He.ga K "checked") fd := c.def_ 25
  have b25 := FunD.bindsN (ps := ["period", "spans"]) F25 fun _ _ _ _ _ _ us hl => match us, hl with | [_, _], _ => rfl
  have g25 : mg "checked" = some (.ref (He.ga K "checked")) := He.glo_ok X G (c.fact 24 (f := .glo "checked") rfl)
  obtain ⟨fd26, F26⟩ : ∃ fd, FunD K "__init__" "Times.__init__" (defArgs sTInit) (defBody sTInit) (defScope sTInit) [] [] (He.ma K (He.ga K "Times") "__init__") fd := c.def_ 26
  obtain ⟨fd27, F27⟩ : ∃ fd, FunD K "times_in_spans" "times_in_spans" (defArgs sTimesIn) (defBody sTimesIn) (defScope sTimesIn) [] [] (He.ga K "times_in_spans") fd := c.def_ 27
  have b27 := FunD.bindsN (ps := ["period", "spans"]) F27 fun _ _ _ _ _ _ us hl => match us, hl with | [_, _], _ => rfl
  have g27 : mg "times_in_spans" = some (.ref (He.ga K "times_in_spans")) := He.glo_ok X G (c.fact 25 (f := .glo "times_in_spans") rfl)
  obtain ⟨fd28, F28⟩ : ∃ fd, FunD K "require_alike" "require_alike" (defArgs sAlike) (defBody sAlike) (defScope sAlike) [] [] (He.ga K "require_alike") fd := c.def_ 28
  have b28 := FunD.bindsN (ps := ["one", "other"]) F28 fun _ _ _ _ _ _ us hl => match us, hl with | [_, _], _ => rfl
  have g28 : mg "require_alike" = some (.ref (He.ga K "require_alike")) := He.glo_ok X G (c.fact 26 (f := .glo "require_alike") rfl)
  obtain ⟨fd29, F29⟩ : ∃ fd, FunD K "of" "Times.of" (defArgs sOf) (defBody sOf) (defScope sOf) [] [] (He5.wf K (He.ga K "Times") "classmethod" "of") fd := c.def_ 29
  have b29 := FunD.bindsN (ps := ["cls", "period", "spans"]) F29 fun _ _ _ _ _ _ us hl => match us, hl with | [_, _, _], _ => rfl
  obtain ⟨fd30, F30⟩ : ∃ fd, FunD K "runs" "Times.runs" (defArgs sRunsP) (defBody sRunsP) (defScope sRunsP) [] [] (He5.wf K (He.ga K "Times") "property" "runs") fd := c.def_ 30
  have b30 := FunD.bindsN (ps := ["self"]) F30 fun _ _ _ _ _ _ us hl => match us, hl with | [_], _ => rfl
  obtain ⟨fd31, F31⟩ : ∃ fd, FunD K "__contains__" "Times.__contains__" (defArgs sCon) (defBody sCon) (defScope sCon) [] [] (He.ma K (He.ga K "Times") "__contains__") fd := c.def_ 31
  have b31 := FunD.bindsN (ps := ["self", "value"]) F31 fun _ _ _ _ _ _ us hl => match us, hl with | [_, _], _ => rfl
  have m31 : Meth K (He.ga K "Times") "__contains__" (He.ma K (He.ga K "Times") "__contains__") := He.meth_ok (c.fact 27 (f := .meth "Times" "__contains__") rfl)
  obtain ⟨fd32, F32⟩ : ∃ fd, FunD K "__eq__" "Times.__eq__" (defArgs sEqM) (defBody sEqM) (defScope sEqM) [] [] (He.ma K (He.ga K "Times") "__eq__") fd := c.def_ 32
  have b32 := FunD.bindsN (ps := ["self", "other"]) F32 fun _ _ _ _ _ _ us hl => match us, hl with | [_, _], _ => rfl
  have m32 : Meth K (He.ga K "Times") "__eq__" (He.ma K (He.ga K "Times") "__eq__") := He.meth_ok (c.fact 28 (f := .meth "Times" "__eq__") rfl)
  obtain ⟨fd33, F33⟩ : ∃ fd, FunD K "__or__" "Times.__or__" (defArgs sOrM) (defBody sOrM) (defScope sOrM) [] [] (He.ma K (He.ga K "Times") "__or__") fd := c.def_ 33
  have b33 := FunD.bindsN (ps := ["self", "other"]) F33 fun _ _ _ _ _ _ us hl => match us, hl with | [_, _], _ => rfl
  have m33 : Meth K (He.ga K "Times") "__or__" (He.ma K (He.ga K "Times") "__or__") := He.meth_ok (c.fact 29 (f := .meth "Times" "__or__") rfl)
  obtain ⟨fd34, F34⟩ : ∃ fd, FunD K "__and__" "Times.__and__" (defArgs sAndM) (defBody sAndM) (defScope sAndM) [] [] (He.ma K (He.ga K "Times") "__and__") fd := c.def_ 34
  have b34 := FunD.bindsN (ps := ["self", "other"]) F34 fun _ _ _ _ _ _ us hl => match us, hl with | [_, _], _ => rfl
  have m34 : Meth K (He.ga K "Times") "__and__" (He.ma K (He.ga K "Times") "__and__") := He.meth_ok (c.fact 30 (f := .meth "Times" "__and__") rfl)
  obtain ⟨fd35, F35⟩ : ∃ fd, FunD K "__invert__" "Times.__invert__" (defArgs sInvM) (defBody sInvM) (defScope sInvM) [] [] (He.ma K (He.ga K "Times") "__invert__") fd := c.def_ 35
  have b35 := FunD.bindsN (ps := ["self"]) F35 fun _ _ _ _ _ _ us hl => match us, hl with | [_], _ => rfl
  have m35 : Meth K (He.ga K "Times") "__invert__" (He.ma K (He.ga K "Times") "__invert__") := He.meth_ok (c.fact 31 (f := .meth "Times" "__invert__") rfl)
  obtain ⟨fd36, F36⟩ : ∃ fd, FunD K "__sub__" "Times.__sub__" (defArgs sSubM) (defBody sSubM) (defScope sSubM) [] [] (He.ma K (He.ga K "Times") "__sub__") fd := c.def_ 36
  have b36 := FunD.bindsN (ps := ["self", "other"]) F36 fun _ _ _ _ _ _ us hl => match us, hl with | [_, _], _ => rfl
  have m36 : Meth K (He.ga K "Times") "__sub__" (He.ma K (He.ga K "Times") "__sub__") := He.meth_ok (c.fact 32 (f := .meth "Times" "__sub__") rfl)
  obtain ⟨fd37, F37⟩ : ∃ fd, FunD K "shifted" "Times.shifted" (defArgs sShift) (defBody sShift) (defScope sShift) [] [] (He.ma K (He.ga K "Times") "shifted") fd := c.def_ 37
  have b37 := FunD.bindsN (ps := ["self", "many"]) F37 fun _ _ _ _ _ _ us hl => match us, hl with | [_, _], _ => rfl
  have m37 : Meth K (He.ga K "Times") "shifted" (He.ma K (He.ga K "Times") "shifted") := He.meth_ok (c.fact 33 (f := .meth "Times" "shifted") rfl)
  obtain ⟨fd38, F38⟩ : ∃ fd, FunD K "turned" "Times.turned" (defArgs sTurn) (defBody sTurn) (defScope sTurn) [] [] (He.ma K (He.ga K "Times") "turned") fd := c.def_ 38
  have b38 := FunD.bindsN (ps := ["self"]) F38 fun _ _ _ _ _ _ us hl => match us, hl with | [_], _ => rfl
  have m38 : Meth K (He.ga K "Times") "turned" (He.ma K (He.ga K "Times") "turned") := He.meth_ok (c.fact 34 (f := .meth "Times" "turned") rfl)
  obtain ⟨fd39, F39⟩ : ∃ fd, FunD K "by" "Times.by" (defArgs sBy) (defBody sBy) (defScope sBy) [] [] (He.ma K (He.ga K "Times") "by") fd := c.def_ 39
  have b39 := FunD.bindsN (ps := ["self", "period"]) F39 fun _ _ _ _ _ _ us hl => match us, hl with | [_, _], _ => rfl
  have m39 : Meth K (He.ga K "Times") "by" (He.ma K (He.ga K "Times") "by") := He.meth_ok (c.fact 35 (f := .meth "Times" "by") rfl)
  obtain ⟨fd40, F40⟩ : ∃ fd, FunD K "at_or_after" "Times.at_or_after" (defArgs sAfter) (defBody sAfter) (defScope sAfter) [] [] (He.ma K (He.ga K "Times") "at_or_after") fd := c.def_ 40
  have b40 := FunD.bindsN (ps := ["self", "time"]) F40 fun _ _ _ _ _ _ us hl => match us, hl with | [_, _], _ => rfl
  have m40 : Meth K (He.ga K "Times") "at_or_after" (He.ma K (He.ga K "Times") "at_or_after") := He.meth_ok (c.fact 36 (f := .meth "Times" "at_or_after") rfl)
  obtain ⟨fd41, F41⟩ : ∃ fd, FunD K "at_or_before" "Times.at_or_before" (defArgs sBefor) (defBody sBefor) (defScope sBefor) [] [] (He.ma K (He.ga K "Times") "at_or_before") fd := c.def_ 41
  have b41 := FunD.bindsN (ps := ["self", "time"]) F41 fun _ _ _ _ _ _ us hl => match us, hl with | [_, _], _ => rfl
  have m41 : Meth K (He.ga K "Times") "at_or_before" (He.ma K (He.ga K "Times") "at_or_before") := He.meth_ok (c.fact 37 (f := .meth "Times" "at_or_before") rfl)
  obtain ⟨fd42, F42⟩ : ∃ fd, FunD K "how_many" "Times.how_many" (defArgs sHowM) (defBody sHowM) (defScope sHowM) [] [] (He.ma K (He.ga K "Times") "how_many") fd := c.def_ 42
  have b42 := FunD.bindsN (ps := ["self", "low", "high"]) F42 fun _ _ _ _ _ _ us hl => match us, hl with | [_, _, _], _ => rfl
  have m42 : Meth K (He.ga K "Times") "how_many" (He.ma K (He.ga K "Times") "how_many") := He.meth_ok (c.fact 38 (f := .meth "Times" "how_many") rfl)
  obtain ⟨fd43, F43⟩ : ∃ fd, FunD K "kth" "Times.kth" (defArgs sKth) (defBody sKth) (defScope sKth) [] [("start", .int 0)] (He.ma K (He.ga K "Times") "kth") fd := c.def_ 43
  have m43 : Meth K (He.ga K "Times") "kth" (He.ma K (He.ga K "Times") "kth") := He.meth_ok (c.fact 39 (f := .meth "Times" "kth") rfl)
  obtain ⟨ds43, v43, b43⟩ := FunD.binds0 (ps := ["self", "index", "start"]) F43 2 (by decide) rfl (fun _ _ _ _ _ _ us ks h1 h2 => match us, h1, ks, h2 with | [_, _], _, [_], _ => ⟨_, _, _, _, _, _, rfl, rfl, rfl⟩)
  obtain ⟨fd44, F44⟩ : ∃ fd, FunD K "onward" "Times.onward" (defArgs sOnw) (defBody sOnw) (defScope sOnw) [.int 0] [] (He.ma K (He.ga K "Times") "onward") fd := c.def_ 44
  have m44 : Meth K (He.ga K "Times") "onward" (He.ma K (He.ga K "Times") "onward") := He.meth_ok (c.fact 40 (f := .meth "Times" "onward") rfl)
  obtain ⟨fd45, F45⟩ : ∃ fd, FunD K "_law_dice" "_law_dice" (defArgs sDice) (defBody sDice) (defScope sDice) [] [] (He.ga K "_law_dice") fd := c.def_ 45
  have b45 := FunD.bindsN (ps := ["_law_script", "_law_spot"]) F45 fun _ _ _ _ _ _ us hl => match us, hl with | [_, _], _ => rfl
  have g45 : mg "_law_dice" = some (.ref (He.ga K "_law_dice")) := He.glo_ok X G (c.fact 41 (f := .glo "_law_dice") rfl)
  obtain ⟨fd46, F46⟩ : ∃ fd, FunD K "_law_roll" "_law_roll" (defArgs sRoll) (defBody sRoll) (defScope sRoll) [] [] (He.ga K "_law_roll") fd := c.def_ 46
  have b46 := FunD.bindsN (ps := ["_law_dice_here", "_law_many"]) F46 fun _ _ _ _ _ _ us hl => match us, hl with | [_, _], _ => rfl
  have g46 : mg "_law_roll" = some (.ref (He.ga K "_law_roll")) := He.glo_ok X G (c.fact 42 (f := .glo "_law_roll") rfl)
  obtain ⟨fd47, F47⟩ : ∃ fd, FunD K "_law_pick" "_law_pick" (defArgs sPick) (defBody sPick) (defScope sPick) [] [] (He.ga K "_law_pick") fd := c.def_ 47
  have b47 := FunD.bindsN (ps := ["_law_dice_here", "_law_items"]) F47 fun _ _ _ _ _ _ us hl => match us, hl with | [_, _], _ => rfl
  have g47 : mg "_law_pick" = some (.ref (He.ga K "_law_pick")) := He.glo_ok X G (c.fact 43 (f := .glo "_law_pick") rfl)
  obtain ⟨fd48, F48⟩ : ∃ fd, FunD K "_law_near" "_law_near" (defArgs sNear) (defBody sNear) (defScope sNear) [] [] (He.ga K "_law_near") fd := c.def_ 48
  have b48 := FunD.bindsN (ps := ["_law_dice_here", "_law_far"]) F48 fun _ _ _ _ _ _ us hl => match us, hl with | [_, _], _ => rfl
  have g48 : mg "_law_near" = some (.ref (He.ga K "_law_near")) := He.glo_ok X G (c.fact 44 (f := .glo "_law_near") rfl)
  obtain ⟨fd49, F49⟩ : ∃ fd, FunD K "_law_bound" "_law_bound" (defArgs sBound) (defBody sBound) (defScope sBound) [] [] (He.ga K "_law_bound") fd := c.def_ 49
  have b49 := FunD.bindsN (ps := ["_law_dice_here", "_law_far"]) F49 fun _ _ _ _ _ _ us hl => match us, hl with | [_, _], _ => rfl
  have g49 : mg "_law_bound" = some (.ref (He.ga K "_law_bound")) := He.glo_ok X G (c.fact 45 (f := .glo "_law_bound") rfl)
  obtain ⟨fd50, F50⟩ : ∃ fd, FunD K "_law_pair" "_law_pair" (defArgs sPair) (defBody sPair) (defScope sPair) [] [] (He.ga K "_law_pair") fd := c.def_ 50
  have b50 := FunD.bindsN (ps := ["_law_dice_here", "_law_far"]) F50 fun _ _ _ _ _ _ us hl => match us, hl with | [_, _], _ => rfl
  have g50 : mg "_law_pair" = some (.ref (He.ga K "_law_pair")) := He.glo_ok X G (c.fact 46 (f := .glo "_law_pair") rfl)
  obtain ⟨fd51, F51⟩ : ∃ fd, FunD K "_law_residue" "_law_residue" (defArgs sResidue) (defBody sResidue) (defScope sResidue) [] [] (He.ga K "_law_residue") fd := c.def_ 51
  have b51 := FunD.bindsN (ps := ["_law_dice_here", "_law_period_here"]) F51 fun _ _ _ _ _ _ us hl => match us, hl with | [_, _], _ => rfl
  have g51 : mg "_law_residue" = some (.ref (He.ga K "_law_residue")) := He.glo_ok X G (c.fact 47 (f := .glo "_law_residue") rfl)
  obtain ⟨fd52, F52⟩ : ∃ fd, FunD K "_law_span" "_law_span" (defArgs sSpan) (defBody sSpan) (defScope sSpan) [] [] (He.ga K "_law_span") fd := c.def_ 52
  have b52 := FunD.bindsN (ps := ["_law_dice_here", "_law_period_here", "_law_far"]) F52 fun _ _ _ _ _ _ us hl => match us, hl with | [_, _, _], _ => rfl
  have g52 : mg "_law_span" = some (.ref (He.ga K "_law_span")) := He.glo_ok X G (c.fact 48 (f := .glo "_law_span") rfl)
  obtain ⟨fd53, F53⟩ : ∃ fd, FunD K "_law_period" "_law_period" (defArgs sPeriodL) (defBody sPeriodL) (defScope sPeriodL) [] [] (He.ga K "_law_period") fd := c.def_ 53
  have b53 := FunD.bindsN (ps := ["_law_dice_here"]) F53 fun _ _ _ _ _ _ us hl => match us, hl with | [_], _ => rfl
  have g53 : mg "_law_period" = some (.ref (He.ga K "_law_period")) := He.glo_ok X G (c.fact 49 (f := .glo "_law_period") rfl)
  obtain ⟨fd54, F54⟩ : ∃ fd, FunD K "_law_spans" "_law_spans" (defArgs sSpansL) (defBody sSpansL) (defScope sSpansL) [] [] (He.ga K "_law_spans") fd := c.def_ 54
  have b54 := FunD.bindsN (ps := ["_law_dice_here", "_law_period_here", "_law_most"]) F54 fun _ _ _ _ _ _ us hl => match us, hl with | [_, _, _], _ => rfl
  have g54 : mg "_law_spans" = some (.ref (He.ga K "_law_spans")) := He.glo_ok X G (c.fact 50 (f := .glo "_law_spans") rfl)
  obtain ⟨fd55, F55⟩ : ∃ fd, FunD K "_law_between" "_law_between" (defArgs sBetw) (defBody sBetw) (defScope sBetw) [] [] (He.ga K "_law_between") fd := c.def_ 55
  have b55 := FunD.bindsN (ps := ["_law_one", "_law_pair_here"]) F55 fun _ _ _ _ _ _ us hl => match us, hl with | [_, _], _ => rfl
  have g55 : mg "_law_between" = some (.ref (He.ga K "_law_between")) := He.glo_ok X G (c.fact 51 (f := .glo "_law_between") rfl)
  obtain ⟨fd56, F56⟩ : ∃ fd, FunD K "_law_is_in" "_law_is_in" (defArgs sIsIn) (defBody sIsIn) (defScope sIsIn) [] [] (He.ga K "_law_is_in") fd := c.def_ 56
  have b56 := FunD.bindsN (ps := ["_law_period_here", "_law_spans_here", "_law_time"]) F56 fun _ _ _ _ _ _ us hl => match us, hl with | [_, _, _], _ => rfl
  have g56 : mg "_law_is_in" = some (.ref (He.ga K "_law_is_in")) := He.glo_ok X G (c.fact 52 (f := .glo "_law_is_in") rfl)
  obtain ⟨fd57, F57⟩ : ∃ fd, FunD K "_law_bounds" "_law_bounds" (defArgs sBounds) (defBody sBounds) (defScope sBounds) [] [] (He.ga K "_law_bounds") fd := c.def_ 57
  have b57 := FunD.bindsN (ps := ["_law_spans_here"]) F57 fun _ _ _ _ _ _ us hl => match us, hl with | [_], _ => rfl
  have g57 : mg "_law_bounds" = some (.ref (He.ga K "_law_bounds")) := He.glo_ok X G (c.fact 53 (f := .glo "_law_bounds") rfl)
  obtain ⟨fd58, F58⟩ : ∃ fd, FunD K "_law_plain" "_law_plain" (defArgs sPlainL) (defBody sPlainL) (defScope sPlainL) [] [] (He.ga K "_law_plain") fd := c.def_ 58
  have b58 := FunD.bindsN (ps := ["_law_dice_here", "_law_period_here", "_law_known"]) F58 fun _ _ _ _ _ _ us hl => match us, hl with | [_, _, _], _ => rfl
  have g58 : mg "_law_plain" = some (.ref (He.ga K "_law_plain")) := He.glo_ok X G (c.fact 54 (f := .glo "_law_plain") rfl)
  obtain ⟨fd59, F59⟩ : ∃ fd, FunD K "_law_has" "_law_has" (defArgs sHasL) (defBody sHasL) (defScope sHasL) [] [] (He.ga K "_law_has") fd := c.def_ 59
  have b59 := FunD.bindsN (ps := ["_law_period_here", "_law_known", "_law_plain_here", "_law_time"]) F59 fun _ _ _ _ _ _ us hl => match us, hl with | [_, _, _, _], _ => rfl
  have g59 : mg "_law_has" = some (.ref (He.ga K "_law_has")) := He.glo_ok X G (c.fact 55 (f := .glo "_law_has") rfl)
  obtain ⟨fd60, F60⟩ : ∃ fd, FunD K "_law_made" "_law_made" (defArgs sMadeL) (defBody sMadeL) (defScope sMadeL) [] [] (He.ga K "_law_made") fd := c.def_ 60
  have b60 := FunD.bindsN (ps := ["_law_period_here", "_law_made_here", "_law_plain_here"]) F60 fun _ _ _ _ _ _ us hl => match us, hl with | [_, _, _], _ => rfl
  have g60 : mg "_law_made" = some (.ref (He.ga K "_law_made")) := He.glo_ok X G (c.fact 56 (f := .glo "_law_made") rfl)
  obtain ⟨fd61, F61⟩ : ∃ fd, FunD K "_law_edges" "_law_edges" (defArgs sEdges) (defBody sEdges) (defScope sEdges) [] [] (He.ga K "_law_edges") fd := c.def_ 61
  have b61 := FunD.bindsN (ps := ["_law_plain_here"]) F61 fun _ _ _ _ _ _ us hl => match us, hl with | [_], _ => rfl
  have g61 : mg "_law_edges" = some (.ref (He.ga K "_law_edges")) := He.glo_ok X G (c.fact 57 (f := .glo "_law_edges") rfl)
  obtain ⟨fd62, F62⟩ : ∃ fd, FunD K "_law_ways_right" "_law_ways_right" (defArgs sWays) (defBody sWays) (defScope sWays) [] [] (He.ga K "_law_ways_right") fd := c.def_ 62
  have b62 := FunD.bindsN (ps := ["_law_dice_here", "_law_period_here", "_law_one", "_law_two"]) F62 fun _ _ _ _ _ _ us hl => match us, hl with | [_, _, _, _], _ => rfl
  have g62 : mg "_law_ways_right" = some (.ref (He.ga K "_law_ways_right")) := He.glo_ok X G (c.fact 58 (f := .glo "_law_ways_right") rfl)
  obtain ⟨fd63, F63⟩ : ∃ fd, FunD K "_law_numbers_right" "_law_numbers_right" (defArgs sNumb) (defBody sNumb) (defScope sNumb) [] [] (He.ga K "_law_numbers_right") fd := c.def_ 63
  have b63 := FunD.bindsN (ps := ["_law_dice_here", "_law_one", "_law_two"]) F63 fun _ _ _ _ _ _ us hl => match us, hl with | [_, _, _], _ => rfl
  have g63 : mg "_law_numbers_right" = some (.ref (He.ga K "_law_numbers_right")) := He.glo_ok X G (c.fact 59 (f := .glo "_law_numbers_right") rfl)
  obtain ⟨fd64, F64⟩ : ∃ fd, FunD K "_law_right" "_law_right" (defArgs sRight) (defBody sRight) (defScope sRight) [] [] (He.ga K "_law_right") fd := c.def_ 64
  have b64 := FunD.bindsN (ps := ["_law_dice_here"]) F64 fun _ _ _ _ _ _ us hl => match us, hl with | [_], _ => rfl
  have g64 : mg "_law_right" = some (.ref (He.ga K "_law_right")) := He.glo_ok X G (c.fact 60 (f := .glo "_law_right") rfl)
  obtain ⟨fd65, F65⟩ : ∃ fd, FunD K "law" "law" (defArgs sLaw) (defBody sLaw) (defScope sLaw) [] [] (He.ga K "law") fd := c.def_ 65
  have g65 : mg "law" = some (.ref (He.ga K "law")) := He.glo_ok X G (c.fact 61 (f := .glo "law") rfl)
  have f_len : mg "len" = none := He.free_ok X G (c.fact 62 (f := .free "len") rfl)
  have f_int : mg "int" = none := He.free_ok X G (c.fact 63 (f := .free "int") rfl)
  have f_bool : mg "bool" = none := He.free_ok X G (c.fact 64 (f := .free "bool") rfl)
  have f_tuple : mg "tuple" = none := He.free_ok X G (c.fact 65 (f := .free "tuple") rfl)
  have f_list : mg "list" = none := He.free_ok X G (c.fact 66 (f := .free "list") rfl)
  have f_set : mg "set" = none := He.free_ok X G (c.fact 67 (f := .free "set") rfl)
  have f_abs : mg "abs" = none := He.free_ok X G (c.fact 68 (f := .free "abs") rfl)
  have f_max : mg "max" = none := He.free_ok X G (c.fact 69 (f := .free "max") rfl)
  have f_min : mg "min" = none := He.free_ok X G (c.fact 70 (f := .free "min") rfl)
  have f_range : mg "range" = none := He.free_ok X G (c.fact 71 (f := .free "range") rfl)
  have f_any : mg "any" = none := He.free_ok X G (c.fact 72 (f := .free "any") rfl)
  have f_all : mg "all" = none := He.free_ok X G (c.fact 73 (f := .free "all") rfl)
  have f_sorted : mg "sorted" = none := He.free_ok X G (c.fact 74 (f := .free "sorted") rfl)
  have f_isinstance : mg "isinstance" = none := He.free_ok X G (c.fact 75 (f := .free "isinstance") rfl)
  have f_sum : mg "sum" = none := He.free_ok X G (c.fact 76 (f := .free "sum") rfl)
  have f_zip : mg "zip" = none := He.free_ok X G (c.fact 77 (f := .free "zip") rfl)
  have i_MAX_PERIOD_shapes := He.int_ok X G (c.fact 78 (f := .int "MAX_PERIOD_shapes" 400) rfl)
  have i_MAX_PERIOD_times := He.int_ok X G (c.fact 79 (f := .int "MAX_PERIOD_times" 400) rfl)
  have T : Fre mg := ⟨f_len, f_int, f_bool, f_tuple, f_list, f_set, f_abs, f_max, f_min, f_range, f_any, f_all, f_sorted, f_isinstance⟩
  have GP : Per mg := ⟨i_MAX_PERIOD_shapes⟩
  have gM := i_MAX_PERIOD_times
  have fSum := f_sum
  have fZip := f_zip
  have eL := hfa.symm.trans g65
  cases eL
  have bl := FunD.bindsA (ps := ["_law_script"]) F65 fun _ _ _ _ _ _ us hl => match us, hl with | [_], _ => rfl
  refine ⟨fd65, fun s v => bl s [v] rfl, fun base _ _ => ?_⟩
  have Dis_integer : Df P w K mg base 1 "is_integer" ["value"] (spIsInt K) := ⟨⟨_, ok_isInt F0 T, b0⟩, F0.kp, g0⟩
  have Dis_between : Df P w K mg base 2 "is_between" ["value", "least", "most"] spBetween := ⟨⟨_, ok_between F1 Dis_integer, b1⟩, F1.kp, g1⟩
  have Dis_bound : Df P w K mg base 2 "is_bound" ["value"] spBound := ⟨⟨_, ok_bound F2 Dis_integer, b2⟩, F2.kp, g2⟩
  have Drequire_period : Df P w K mg base 3 "require_period" ["period"] spReqP := ⟨⟨_, ok_reqP F3 GP Dis_between, b3⟩, F3.kp, g3⟩
  have Drequire_integer : Df P w K mg base 2 "require_integer" ["value"] spReqI := ⟨⟨_, ok_reqI F4 Dis_integer, b4⟩, F4.kp, g4⟩
  have Dis_span : Df P w K mg base 3 "is_span" ["period", "value"] (spSpan K) := ⟨⟨_, ok_span F5 T Dis_bound Dis_between, b5⟩, F5.kp, g5⟩
  have Dgreater_of : Df P w K mg base 1 "greater_of" ["one", "other"] (spTwo grt) := ⟨⟨_, ok_greater F6 T, b6⟩, F6.kp, g6⟩
  have Dlesser_of : Df P w K mg base 1 "lesser_of" ["one", "other"] (spTwo lst) := ⟨⟨_, ok_lesser F7 T, b7⟩, F7.kp, g7⟩
  have Drounded : Df P w K mg base 1 "rounded" ["period", "residue", "pair"] (spRounded K) := ⟨⟨_, ok_rounded F8 T, b8⟩, F8.kp, g8⟩
  have Dis_empty_pair : Df P w K mg base 1 "is_empty_pair" ["pair"] (spEmptyP K) := ⟨⟨_, ok_emptyP F9, b9⟩, F9.kp, g9⟩
  have Drun_of : Df P w K mg base 2 "run_of" ["period", "residue", "least", "most"] spRunOf := ⟨⟨_, ok_runOf F10 Drounded Dis_empty_pair, b10⟩, F10.kp, g10⟩
  have Drun_key : Df P w K mg base 1 "run_key" ["run"] (spKey K) := ⟨⟨_, ok_key F11, b11⟩, F11.kp, g11⟩
  have Dgoes_on : Df P w K mg base 1 "goes_on" ["period", "run", "other"] (spGoesOn K) := ⟨⟨_, ok_goesOn F12, b12⟩, F12.kp, g12⟩
  have Dunited : Df P w K mg base 4 "united" ["period", "runs"] (spUnited K) := ⟨⟨_, ok_united F13 T Drun_key Dgoes_on, b13⟩, F13.kp, g13⟩
  have Dgrouped : Df P w K mg base 1 "grouped" ["runs"] (spGrouped K) := ⟨⟨_, ok_grouped F14, b14⟩, F14.kp, g14⟩
  have Druns_in : Df P w K mg base 5 "runs_in" ["period", "spans"] (spRunsIn K) := ⟨⟨_, ok_runsIn F15 T Drun_of Dgrouped Dunited, b15⟩, F15.kp, g15⟩
  have Doutside_runs : Df P w K mg base 1 "outside_runs" ["period", "residue", "runs"] (spOutside K) := ⟨⟨_, ok_outside F16, b16⟩, F16.kp, g16⟩
  have Dis_member : Df P w K mg base 1 "is_member" ["period", "runs", "time"] (spMember K) := ⟨⟨_, ok_member F17 T, b17⟩, F17.kp, g17⟩
  have Dcommon_runs : Df P w K mg base 3 "common_runs" ["period", "one", "other"] (spCommon K) := ⟨⟨_, ok_common F18 Dgrouped Drun_of Dgreater_of Dlesser_of, b18⟩, F18.kp, g18⟩
  have Dnext_in : Df P w K mg base 3 "next_in" ["period", "runs", "time"] (spNext K) := ⟨⟨_, ok_nextIn F19 T Drun_of Dgreater_of, b19⟩, F19.kp, g19⟩
  have Dlast_in : Df P w K mg base 3 "last_in" ["period", "runs", "time"] (spLast K) := ⟨⟨_, ok_lastIn F20 T Drun_of Dlesser_of, b20⟩, F20.kp, g20⟩
  have Dmany_in : Df P w K mg base 3 "many_in" ["period", "runs", "low", "high"] (spMany K) := ⟨⟨_, ok_manyIn F21 T Drun_of Dgreater_of Dlesser_of, b21⟩, F21.kp, g21⟩
  have Dfar_end : Df P w K mg base 1 "far_end" ["period", "runs", "start", "many"] (spFar K) := ⟨⟨_, ok_farEnd F22 T, b22⟩, F22.kp, g22⟩
  have Dkth_in : Df P w K mg base 4 "kth_in" ["period", "runs", "index", "start"] (spKthIn K) := ⟨⟨_, ok_kthIn F23 Dfar_end Dmany_in, b23⟩, F23.kp, g23⟩
  have FR := ok_rInit (P := P) (w := w) (mg := mg) (base := base) F24 KR
  have bR := b24
  have Dchecked : Df P w K mg base 6 "checked" ["period", "spans"] (spChecked K) := ⟨⟨_, ok_checked F25 T KR FR bR Drequire_period Dis_span Druns_in, b25⟩, F25.kp, g25⟩
  have FT : FnR P w K mg base CX0 7 (He.ma K (CT K) "__init__") (spTInit K) := ok_tBody F26 T KR KT I Dchecked
  have Dtimes_in_spans : Df P w K mg base 9 "times_in_spans" ["period", "spans"] (spTimesIn K) := ⟨⟨_, ok_timesIn F27 KR KT FR bR FT Druns_in, b27⟩, F27.kp, g27⟩
  have Drequire_alike : Df P w K mg base 1 "require_alike" ["one", "other"] (spAlike K) := ⟨⟨_, ok_alike F28 T KT I, b28⟩, F28.kp, g28⟩
  have Cof : CMt P w K mg base 9 (He.ga K "Times") "of" (spOf K) := ⟨_, _, _, crTimes, cmTimes_of, fun A outer s H us vs Q E hr e0 r h => fnR_of (ok_of F29 KT FT Dchecked) b29 .nil A outer s H us vs Q E hr e0 r (by show (spOf K) (vs ++ []) H Q E; rw [List.append_nil]; exact h)⟩
  have Prun : Prp P w K mg base 1 (He.ga K "Times") "runs" (spRunsP K) := ⟨_, _, _, prTimes_runs, ok_runsP F30 KT, b30⟩
  have Mcon : Mt P w K mg base 2 (He.ga K "Times") "__contains__" ["self", "value"] (spCon K) := ⟨_, _, ok_con F31 KT Dis_integer Dis_member, b31, m31.at_, m31.fn⟩
  have Meq : Mt P w K mg base 1 (He.ga K "Times") "__eq__" ["self", "other"] (spEq K) := ⟨_, _, ok_eq F32 T KT I, b32, m32.at_, m32.fn⟩
  have Mor : Mt P w K mg base 10 (He.ga K "Times") "__or__" ["self", "other"] (spOr K) := ⟨_, _, ok_or F33 KT Drequire_alike Dtimes_in_spans, b33, m33.at_, m33.fn⟩
  have Mand : Mt P w K mg base 10 (He.ga K "Times") "__and__" ["self", "other"] (spAnd K) := ⟨_, _, ok_and F34 KT Drequire_alike Dtimes_in_spans Dcommon_runs, b34, m34.at_, m34.fn⟩
  have Minv : Mt P w K mg base 10 (He.ga K "Times") "__invert__" ["self"] (spInv K) := ⟨_, _, ok_inv F35 T KT Dgrouped Dtimes_in_spans Doutside_runs, b35, m35.at_, m35.fn⟩
  have Msub : Mt P w K mg base 11 (He.ga K "Times") "__sub__" ["self", "other"] (spSub K) := ⟨_, _, ok_sub F36 KT Drequire_alike Mand Minv, b36, m36.at_, m36.fn⟩
  have Mshi : Mtk P w K mg base 10 (He.ga K "Times") "shifted" ["self", "many"] [] [] (spShift K) := ⟨_, _, ok_shift F37 T KT Drequire_integer Dtimes_in_spans, b37, .nil, m37⟩
  have Mtur : Mtk P w K mg base 10 (He.ga K "Times") "turned" ["self"] [] [] (spTurn K) := ⟨_, _, ok_turn F38 T KT Dtimes_in_spans, b38, .nil, m38⟩
  have Mby : Mtk P w K mg base 10 (He.ga K "Times") "by" ["self", "period"] [] [] (spBy K) := ⟨_, _, ok_by F39 T gM KT Dis_between Dtimes_in_spans, b39, .nil, m39⟩
  have Maft : Mtk P w K mg base 4 (He.ga K "Times") "at_or_after" ["self", "time"] [] [] (spAfter K) := ⟨_, _, ok_after F40 KT Drequire_integer Dnext_in, b40, .nil, m40⟩
  have Mbef : Mtk P w K mg base 4 (He.ga K "Times") "at_or_before" ["self", "time"] [] [] (spBefor K) := ⟨_, _, ok_befor F41 KT Drequire_integer Dlast_in, b41, .nil, m41⟩
  have Mhow : Mtk P w K mg base 4 (He.ga K "Times") "how_many" ["self", "low", "high"] [] [] (spHowM K) := ⟨_, _, ok_howm F42 KT Drequire_integer Dmany_in, b42, .nil, m42⟩
  have Mkth : Mtk P w K mg base 5 (He.ga K "Times") "kth" ["self", "index", "start"] ds43 [.int 0] (spKth K) := ⟨_, _, ok_kth F43 KT Dis_integer Drequire_integer Dkth_in, b43, v43, m43⟩
  have MkthN : MtN P w K mg base 5 (CT K) "kth" 1 ["start"] (fun vs zs => vs ++ zs) (spKth K) := ⟨_, _, _, _, ok_kth F43 KT Dis_integer Drequire_integer Dkth_in, kbindsA F43 2 ["start"] (fun vs zs => vs ++ zs) (fun r1 r2 => r1.append r2) fun _ _ _ _ _ _ us ws l1 l2 => match us, l1, ws, l2 with | [_, _], _, [_], _ => rfl, m43⟩
  obtain ⟨dmOn, vmOn, bmOn⟩ := FunD.binds1 (ps := ["self", "start"]) F44 2 1 (by decide) rfl (fun _ _ _ _ _ _ _ us its h1 h2 => match us, h1, its, h2 with | [_, _], _, [_], _ => ⟨_, rfl, rfl⟩)
  obtain rfl : dmOn = [] := (Vals.nil_iff vmOn).mpr rfl
  have ZOn : GMtZ P w K mg base 4 (CT K) "onward" ["self", "start"] [] [] (spOnZ K) := ⟨_, _, gz_onward F44 KT Drequire_integer Dnext_in, bmOn, .nil, m44⟩
  have D_law_dice : Df P w K mg base 1 "_law_dice" ["_law_script", "_law_spot"] (spDice K) := ⟨⟨_, ok_dice F45 T, b45⟩, F45.kp, g45⟩
  have D_law_roll : Df P w K mg base 1 "_law_roll" ["_law_dice_here", "_law_many"] spRoll := ⟨⟨_, ok_roll F46 T, b46⟩, F46.kp, g46⟩
  have D_law_pick : Df P w K mg base 2 "_law_pick" ["_law_dice_here", "_law_items"] (spPick K) := ⟨⟨_, ok_pick F47 T D_law_roll, b47⟩, F47.kp, g47⟩
  have D_law_near : Df P w K mg base 2 "_law_near" ["_law_dice_here", "_law_far"] spNear := ⟨⟨_, ok_near F48 D_law_roll, b48⟩, F48.kp, g48⟩
  have D_law_bound : Df P w K mg base 3 "_law_bound" ["_law_dice_here", "_law_far"] spBoundL := ⟨⟨_, ok_boundL F49 D_law_roll D_law_near D_law_pick, b49⟩, F49.kp, g49⟩
  have D_law_pair : Df P w K mg base 4 "_law_pair" ["_law_dice_here", "_law_far"] spPair := ⟨⟨_, ok_pair F50 D_law_roll D_law_bound, b50⟩, F50.kp, g50⟩
  have D_law_residue : Df P w K mg base 2 "_law_residue" ["_law_dice_here", "_law_period_here"] spResidue := ⟨⟨_, ok_residue F51 D_law_roll, b51⟩, F51.kp, g51⟩
  have D_law_span : Df P w K mg base 5 "_law_span" ["_law_dice_here", "_law_period_here", "_law_far"] spSpanL := ⟨⟨_, ok_spanL F52 D_law_residue D_law_pair, b52⟩, F52.kp, g52⟩
  have D_law_period : Df P w K mg base 3 "_law_period" ["_law_dice_here"] spPeriodL := ⟨⟨_, ok_periodL F53 D_law_pick, b53⟩, F53.kp, g53⟩
  have D_law_spans : Df P w K mg base 6 "_law_spans" ["_law_dice_here", "_law_period_here", "_law_most"] (spSpansL K) := ⟨⟨_, ok_spansL F54 T D_law_roll D_law_span, b54⟩, F54.kp, g54⟩
  have D_law_between : Df P w K mg base 1 "_law_between" ["_law_one", "_law_pair_here"] (spBetw K) := ⟨⟨_, ok_betw F55, b55⟩, F55.kp, g55⟩
  have D_law_is_in : Df P w K mg base 2 "_law_is_in" ["_law_period_here", "_law_spans_here", "_law_time"] (spIsIn K) := ⟨⟨_, ok_isIn F56 T D_law_between, b56⟩, F56.kp, g56⟩
  have D_law_bounds : Df P w K mg base 1 "_law_bounds" ["_law_spans_here"] (spBounds K) := ⟨⟨_, ok_bounds F57, b57⟩, F57.kp, g57⟩
  have D_law_plain : Df P w K mg base 7 "_law_plain" ["_law_dice_here", "_law_period_here", "_law_known"] (spPlain K) := ⟨⟨_, ok_plain F58 T D_law_roll D_law_near D_law_spans, b58⟩, F58.kp, g58⟩
  have b_has := b59
  have g_has := g59
  have D_law_has : Df P w K mg base 10 "_law_has" ["_law_period_here", "_law_known", "_law_plain_here", "_law_time"] (spHas K 7) := ⟨⟨_, ok_has F59 b_has g_has D_law_is_in, b59⟩, F59.kp, g59⟩
  have D_law_made : Df P w K mg base 12 "_law_made" ["_law_period_here", "_law_made_here", "_law_plain_here"] (spMade K) := ⟨⟨_, ok_made F60 T KT Cof Mor Mand Minv Msub Mshi, b60⟩, F60.kp, g60⟩
  have D_law_edges : Df P w K mg base 2 "_law_edges" ["_law_plain_here"] (spEdges K) := ⟨⟨_, ok_edges F61 D_law_bounds, b61⟩, F61.kp, g61⟩
  have D_law_ways_right : Df P w K mg base 12 "_law_ways_right" ["_law_dice_here", "_law_period_here", "_law_one", "_law_two"] (spWays K) := ⟨⟨_, ok_ways F62 T KT hNe FT Mor Mand Minv Msub Meq Mshi Mtur Mby Prun D_law_near, b62⟩, F62.kp, g62⟩
  have D_law_numbers_right : Df P w K mg base 12 "_law_numbers_right" ["_law_dice_here", "_law_one", "_law_two"] (spNumb K) := ⟨⟨_, ok_numb F63 T fZip fSum KT Mor Mand Minv Msub Mcon Mhow MkthN ZOn Maft Mbef D_law_pick D_law_roll D_law_near, b63⟩, F63.kp, g63⟩
  have D_law_right : Df P w K mg base 13 "_law_right" ["_law_dice_here"] (spRightL K) := ⟨⟨_, ok_right F64 T KT Mcon D_law_period D_law_pick D_law_roll D_law_plain D_law_made D_law_edges D_law_has D_law_ways_right D_law_numbers_right, b64⟩, F64.kp, g64⟩
  exact FnG.of (ok_law F65 T KT FT Cof Meq Mcon Mand Minv Msub D_law_dice D_law_right)
end TM
open PySem PySem.W PySem.Calls PyProof.Rows
theorem PySem.Challenge.cw_everwhen_k06_whole_rows_of_operations_holds : PySem.Challenge.rw_everwhen_k06_whole_rows_of_operations.Holds := by
  w_on; o_law
  refine HandSHeadRun.head_any (r := OpenLaw.row PySem.Challenge.rw_everwhen_k06_whole_rows_of_operations) (q := view (OpenLaw.row PySem.Challenge.rw_everwhen_k06_whole_rows_of_operations).prog [61]) (H := TM.hk) (ob := TM.obz) (M := 20000) (loose := TM.loose) (d := HandSHeadRun.topDef (OpenLaw.row PySem.Challenge.rw_everwhen_k06_whole_rows_of_operations).prog 61) (kwd := []) TM.ob_eq
    (by kernel_rfl) (fun s => by kernel_rfl) TM.run (by kernel_rfl) (by kernel_rfl) (by kernel_rfl) (by rfl) (by first | assumption | decide +kernel) (by decide +kernel) ⟨rfl, rfl, rfl, rfl, rfl, by decide +kernel⟩ ?hw ?hc
  case hw => w_witness2
  case hc =>
    refine EW.walkG (l := PySem.Challenge.rw_everwhen_k06_whole_rows_of_operations) (n := 63) (k := 14) (x := "_law_script") (CX := L2.CX0) rfl (by decide) (by kernel_rfl) ⟨rfl, by decide, by decide⟩ ?F (fun _ _ _ _ z => z)
    intro w mg fa h Y G hmg0
    obtain ⟨K, KX, c, cx⟩ := Y
    have hmg : mg ("law" : PySem.Str) = some (.ref fa) := by
      have e : (HandSHeadRun.topDef (OpenLaw.row PySem.Challenge.rw_everwhen_k06_whole_rows_of_operations).prog 61).name = ("law" : PySem.Str) := by kernel_rfl
      rw [← e]
      exact hmg0
    obtain ⟨fd, hb, hF⟩ := TM.facts (P := (PySem.Challenge.rw_everwhen_k06_whole_rows_of_operations).prog) (w := w) KX G hmg c cx
    exact ⟨K, fd, TM.spLaw K, KX, hb, fun H a ns hl _ hS => ⟨a, ns, rfl, hS, hl, fun _ => rfl⟩, hF⟩
end
