import PyProof.Rows.All
import Wide.All
import OpenK.AllK
import Wide.FinOn
import PyProof.ReprReads
import KE.KExcInit
import KE.KExcIs
import HandS.ForMost
import HandS.Exc
import HandS.ExcOwn
import HandS.ExcValue
import HandS.ExcInit
import HandS.IsInst
import HandS.Wide
import HandS.Flow
import HandS.Defaults
import PyProof.ReprRoads
import HandS.EndBits
import HandS.HeadHook1
import HandS.HeadHook2
import HandS.HeadHook3
import HandS.HeadHook4
import HandS.Walk
import HandS.OwnEq
import HandS.Small
import OpenK.KMeth
import OpenK.KOps
import HandS.More
import PyProof.Rows.Range3
import HandS.SortKw
import HandS.Star
import HandS.Conv
import HandS.SortInts
import HandS.SetFor
import HandS.Strs
import HandS.ClsMeth
import HandS.Property
import HandS.CallLocal
import HandS.TryOnly
import HandS.HeadNt
import HandS.Head2
import HandS.HeadWalk
import HandS.List
import HandS.DictComp
import HandS.Iter
import PyProof.Rows.StrMeet
import HandS.TupAny
import HandS.Zip
import KE.GoesZip
import KE.GoesMore
import HandS.WordsDict
import HandS.RaiseMore
import KE.KFmtOwn
import HandS.FStr
import HandS.TupMul
import KE.SortKeyHeap
import KE.DataMinMax
import KE.SortData
import KE.DatumOrd
import HandS.Style
import PyProof.LongRange
import HandS.Lambda
import HandS.Nested
import KE.DataMinKey
import PyProof.CallFns
import HandS.TupLe
import KE.KStateDown
import Lean
import HandS.Head0
import HandS.Head1
import HandS.HeadEnd
import PySem.Challenge.RW_everwhen_k10_normal_zones
set_option Elab.async false
set_option linter.all false
set_option maxRecDepth 100000
section
set_option maxHeartbeats 4000000
namespace EW
open PySem PySem.Spec PyProof.Rows L2
/-! ### the head's facts, with one more Bool: what the kernel's run looks at -/
def obsB (n : Nat) (fa : List He.Fa) (fn : List He5.DefA) (ex : W.Frag → Bool) (g : Addr → Option Obj) : He.AlD × Bool := (He5.obsA fa fn (He.frG g (He5.asA g n)), ex (He.frG g (He5.asA g n)))
def hookB (n : Nat) (fa : List He.Fa) (fn : List He5.DefA) (ex : W.Frag → Bool) : W.Hook where
  α := He.AlD × Bool
  obs := fun s => obsB n fa fn ex s.heap.get?
  val := fun _ => (He5.valA fn, true)
  says := fun _ h => ∃ K : W.Frag, K.In h ∧ He5.SaysA fa fn K ∧ ex K = true
  of := fun _ _ e => ⟨_, He.frG_in, congrArg (fun z : He.AlD × Bool => z.1) e, congrArg (fun z : He.AlD × Bool => z.2) e⟩
  keeps := fun _ _ _ ⟨K, hK, c⟩ k => ⟨K, W.Frag.In.keeps hK k, c⟩
theorem obsB_eq {n : Nat} {fa : List He.Fa} {fn : List He5.DefA} {ex : W.Frag → Bool} {g : Addr → Option Obj} {s : Shared} (h : ∀ a, g a = s.heap.get? a) : obsB n fa fn ex g = (hookB n fa fn ex).obs s := by
  have e : g = s.heap.get? := funext h
  rw [e] <;> rfl
def klB (K : W.Frag) (x : Str) : Bool := (He.Fa.glo x).ok K && ((He.Fa.mkr x).ok K && ((He.Fa.cls x).ok K && ((He.Fa.noat x "own_period").ok K && ((He.Fa.noat x "own_runs").ok K &&
  (He.eqO (W.findIn K (.ref (He.ga K x)) "__class__") (some (some (.builtin "object.__class__"))) && (He.eqO (W.specialIn K (.builtin "object.__class__") "__get__") (some (some (.builtin "getset_descriptor.__get__"))) &&
  (decide (W.takesIn K (.builtin "object.__class__") = some true) && (decide (W.mroIn K (He.ga K x) (.type "object") = some true) && W.selfFirst K (He.ga K x)))))))))
def propB (K : W.Frag) (C : Addr) (f : Str) : Bool := He.eqO (W.findIn K (.ref C) f) (some (some (.ref (He.ma K C f)))) && (He.eqO (W.specialIn K (.ref (He.ma K C f)) "__get__") (some (some (.builtin "property.__get__"))) &&
  (decide (W.takesIn K (.ref (He.ma K C f)) = some true) && (match W.recIn K (He.ma K C f) "property" with
    | some (.ref _ :: _) => true
    | _ => false)))
def creadB (K : W.Frag) (C : Addr) : Bool := W.readsIn K C (.type "type") && He.eqO (W.specialIn K (.ref C) "__getattribute__") (some (some (.builtin "type.__getattribute__")))
def cmetB (K : W.Frag) (C : Addr) (m : Str) : Bool := He5.wrapB K C "classmethod" "classmethod.__get__" m && W.fnIn K (He5.wf K C "classmethod" m)
def kitB1 (K : W.Frag) (t u : Value) (b : Bool) : Bool := decide (W.kitOne K t u = some b)
def findB (K : W.Frag) (C : Addr) (m : Str) (id : String) : Bool := He.eqO (W.findIn K (.ref C) m) (some (some (.builtin id)))
def twoNonB (K : W.Frag) (x : Str) : Bool := match K.lookup (He.ga K x) with
  | some o => decide (o.cls = .type "tuple") && (match o.data with
    | .seq its _ => decide (its.toList = [.none, .none])
    | _ => false)
  | none => false
def threeNonB (K : W.Frag) (x : Str) : Bool := match K.lookup (He.ga K x) with
  | some o => decide (o.cls = .type "tuple") && (match o.data with
    | .seq its _ => decide (its.toList = [.none, .none, .none])
    | _ => false)
  | none => false
end EW
end

section
set_option maxHeartbeats 4000000
/-! EwHeadT: the head's run where defs make lambdas: tables of code objects are left out of what is known. -/
namespace EW
open PySem PySem.Spec PyProof.Rows L2 HandSHeadRun
def isTab (o : Obj) : Bool := match o.data with
  | .fields vs => vs.isEmpty
  | _ => false
def asT (g : Addr → Option Obj) (n : Nat) : List Addr := (He5.asA g n).filter fun a => match g a with
  | some o => !isTab o
  | none => true
def obsT (n : Nat) (fa : List He.Fa) (fn : List He5.DefA) (ex : W.Frag → Bool) (g : Addr → Option Obj) : He.AlD × Bool := (He5.obsA fa fn (He.frG g (asT g n)), ex (He.frG g (asT g n)))
def hookT (n : Nat) (fa : List He.Fa) (fn : List He5.DefA) (ex : W.Frag → Bool) : W.Hook where
  α := He.AlD × Bool
  obs := fun s => obsT n fa fn ex s.heap.get?
  val := fun _ => (He5.valA fn, true)
  says := fun _ h => ∃ K : W.Frag, K.In h ∧ He5.SaysA fa fn K ∧ ex K = true
  of := fun _ _ e => ⟨_, He.frG_in, congrArg (fun z : He.AlD × Bool => z.1) e, congrArg (fun z : He.AlD × Bool => z.2) e⟩
  keeps := fun _ _ _ ⟨K, hK, c⟩ k => ⟨K, W.Frag.In.keeps hK k, c⟩
theorem obsT_eq {n : Nat} {fa : List He.Fa} {fn : List He5.DefA} {ex : W.Frag → Bool} {g : Addr → Option Obj} {s : Shared} (h : ∀ a, g a = s.heap.get? a) : obsT n fa fn ex g = (hookT n fa fn ex).obs s := by
  have e : g = s.heap.get? := funext h
  rw [e] <;> rfl
/-- what the looks are taken at -/
def KK (n : Nat) (s : W.SharedT) : W.Frag := He.frG (getT s) (asT (getT s) n)
def exAll (ex : List (W.Frag → Bool)) (K : W.Frag) : Bool := ex.all fun e => e K
theorem exAll_at {ex : List (W.Frag → Bool)} {K : W.Frag} (c : exAll ex K = true) (i : Nat) {e : W.Frag → Bool} (h : ex[i]? = some e) : e K = true := List.all_eq_true.mp c e (List.mem_of_getElem? h)
theorem all_flat {α : Type} {p : α → Bool} {ls : List (List α)} (h : ∀ l ∈ ls, l.all p = true) : ls.flatten.all p = true := by
  rw [List.all_eq_true]
  intro x hx
  obtain ⟨l, hl, hx⟩ := List.mem_flatten.mp hx
  exact List.all_eq_true.mp (h l hl) x hx
theorem map_flat {α β : Type} {f g : α → β} {ls : List (List α)} (h : ∀ l ∈ ls, l.map f = l.map g) : ls.flatten.map f = ls.flatten.map g := by
  induction ls with
  | nil => rfl
  | cons l ls ih =>
    rw [List.flatten_cons, List.map_append, List.map_append, h l List.mem_cons_self, ih fun l hl => h l (List.mem_cons_of_mem _ hl)]
theorem run_parts {β : Type} {o : Option W.SharedT} {A : W.SharedT → Bool} {B : W.SharedT → β} {b : β} {n : Nat} {fa : List He.Fa} {fn : List He5.DefA} {ex : List (W.Frag → Bool)} {fas : List (List He.Fa)} {fns : List (List He5.DefA)} {exs : List (List (W.Frag → Bool))}
    (hAB : o.map (fun s => (A s, B s)) = some (true, b)) (efa : fa = fas.flatten) (efn : fn = fns.flatten) (eex : ex = exs.flatten)
    (hfa : ∀ l ∈ fas, o.map (fun s => l.all fun f => f.ok (KK n s)) = some true) (hex : ∀ l ∈ exs, o.map (fun s => l.all fun e => e (KK n s)) = some true)
    (hfn : ∀ l ∈ fns, o.map (fun s => (l.all fun d => d.ok (KK n s), l.map fun d => He5.fnA (KK n s) (d.at_ (KK n s)))) = some (true, l.map He5.DefA.val)) :
    o.map (fun s => (A s, B s, obsT n fa fn (exAll ex) (getT s))) = some (true, b, (He5.valA fn, true)) := by
  cases o with
  | none => cases hAB
  | some s =>
    have hAB : (A s, B s) = (true, b) := Option.some.inj hAB
    obtain ⟨h1, h2⟩ := Prod.mk.inj hAB
    have q1 : (fa.all fun f => f.ok (KK n s)) = true := by
      rw [efa]
      exact all_flat fun l hl => Option.some.inj (hfa l hl)
    have q2 : (ex.all fun e => e (KK n s)) = true := by
      rw [eex]
      exact all_flat fun l hl => Option.some.inj (hex l hl)
    have q3 : (fn.all fun d => d.ok (KK n s)) = true := by
      rw [efn]
      exact all_flat fun l hl => (Prod.mk.inj (Option.some.inj (hfn l hl))).1
    have q4 : fn.map (fun d => He5.fnA (KK n s) (d.at_ (KK n s))) = fn.map He5.DefA.val := by
      rw [efn]
      exact map_flat fun l hl => (Prod.mk.inj (Option.some.inj (hfn l hl))).2
    show some (A s, B s, (((fa.all fun f => f.ok (KK n s)) && fn.all fun d => d.ok (KK n s), fn.map fun d => He5.fnA (KK n s) (d.at_ (KK n s))), ex.all fun e => e (KK n s))) = _
    rw [h1, h2, q1, q2, q3, q4]
    rfl
/-- no table is known of -/
def noTabB (K : W.Frag) : Bool := K.all fun p => !isTab p.2
theorem lookup_mem {α β : Type} [BEq α] [LawfulBEq α] : ∀ {l : List (α × β)} {a : α} {b : β}, l.lookup a = some b → (a, b) ∈ l
  | (x, y) :: l, a, b, h => by
    rw [List.lookup_cons] at h
    split at h
    · rename_i e
      have e := eq_of_beq e
      cases h
      rw [e]
      exact List.mem_cons_self
    · exact List.mem_cons_of_mem _ (lookup_mem h)
theorem noTab_ok {K : W.Frag} (c : noTabB K = true) {P : Addr} {h : Heap} (X : K.In h) (e : h.get? P = some { cls := .none, data := .fields #[] }) : K.lookup P = none := by
  cases q : K.lookup P with
  | none => rfl
  | some o =>
    have e1 := X P o q
    rw [e] at e1
    cases e1
    have := List.all_eq_true.mp c _ (lookup_mem q)
    cases this
/-- a def's own code -/
theorem code_of {K : W.Frag} {x qual : Str} {params : Arguments} {body : List Stmt} {scope : Scope} {dvs : List V} {kws : List (Str × V)} {f c : Addr} {fd : FuncData} (h : ∀ (o : Obj) (fd : FuncData), K.lookup f = some o → o.data = .func fd → fd.code = .ref c) (F : FunD K x qual params body scope dvs kws f fd) : fd.code = .ref c := by
  obtain ⟨oc, od, dV, kV, doc, pm, an, cdv, ct, osl, e, lk, _⟩ := F.ex
  exact h _ fd lk rfl
/-- the end of a law row: one def makes lambdas, and its table is empty when the law is called -/
theorem walkT {l : W.OpenLaw} {n k : Nat} {q : Program} {loose : List Str} {XP : (Str → Option Value) → Heap → Prop} {YP : World → Heap → Prop} {d : DefRec} {CX : CXT} {x y : Str}
    (hn : l.most = some n) (hn2 : n ≤ sizeLine) (hdf : d.params.defaults = []) (hr : Room k callerA) (hrec : ((recsOf q).any fun e => e.name == y) = true)
    (F : ∀ (w : World) (mg : Str → Option Value) (fa : Addr) (h : Heap), YP w h → h.Ns mainGlobals mg → mg d.name = some (.ref fa) →
      ∃ K : W.Frag, K.In h ∧ noTabB K = true ∧ mg y = some (.ref (He.ga K y)) ∧ (∃ (o : Obj) (fd : FuncData), K.lookup (He.ga K y) = some o ∧ o.data = .func fd) ∧
        ∀ c P : Addr, (∀ (o : Obj) (fd : FuncData), K.lookup (He.ga K y) = some o → o.data = .func fd → fd.code = .ref c) → ∃ (fd : FuncData) (sp : Sp), (∀ (s : Shared) (u : Value), BindsTo s fd ⟨[u], []⟩ [(x, u)]) ∧
          (∀ (H : Hp) (a : Addr) (ns : List Int), ns.length ≤ n → (∀ z ∈ ns, Builtin.Int.intBits z ≤ 1048576) → H P = some (.tbl #[]) → SqL K H a (ns.map V.int) → sp [.ref a] H (fun v _ => v = .bl true) fun _ _ _ => False) ∧
          ∀ base : Heap, K.In base → base.Ns mainGlobals mg → LamX.TabB base mg c P → FnOk l.prog w K mg base CX k fa fd [x] sp)
    (hCX : ∀ (H : Hp) (s : Shared) (e : Value) (s' : Shared), CX [] H s (fun _ _ _ => False) e s' → False) :
    W.WalkO q loose XP YP l.row.toRowW d [] (fun f vs => PySem.call f vs) := by
  refine Att.attach_callB hn hdf fun w s₀ s₁ mg mb fa o pm cd doc a vs ns G Y ho hd hcd hmg hobj hints hlen hbits hg => ?_
  obtain ⟨K, KX, nt, hy, ⟨o1, fd1, k1, k2⟩, F⟩ := F w mg fa _ Y G.T.g hmg
  obtain ⟨dL, hm, hn1⟩ := List.any_eq_true.mp hrec
  have hn2' : dL.name = y := beq_iff_eq.mp hn1
  obtain ⟨a', o', fd', c, P, h1, h2, h3, h4, h5, h6⟩ := G.T.tab dL hm
  rw [hn2', hy] at h1
  cases h1
  have g1 := KX _ _ k1
  rw [g1] at h2
  cases h2
  rw [k2] at h3
  cases h3
  obtain ⟨fd, sp, hb, hsp, hF⟩ := F c P fun o2 fd2 l1 l2 => by
    rw [k1] at l1
    cases l1
    rw [k2] at l2
    cases l2
    exact h4
  have hP := h6.2
  refine LamX.law_callTs (cs := [(c, P)]) KX G.T.g G.T.b G.T.builtins G.T.nolimit hg (fun p hp => ?_) (fun p hp => ?_) (fun p hp => ?_) G.T.bmain hobj hints (Nat.le_trans hlen hn2) hr (fun base kb nb tb => hF base kb nb (tb (c, P) (List.mem_singleton.mpr rfl))) hb (fun H hH hS => hsp H a ns hlen hbits (hH (c, P) (List.mem_singleton.mpr rfl)) hS) fun H e s' => hCX H s₁ e s'
  · rw [List.mem_singleton.mp hp]
    exact hP
  · rw [List.mem_singleton.mp hp]
    exact noTab_ok nt KX hP
  · rw [List.mem_singleton.mp hp]
    exact W.CodeHd.of h5 h6
end EW
end

section
set_option maxHeartbeats 4000000
/-! EwHeadT2: the head's run where two defs make lambdas. -/
namespace EW
open PySem PySem.Spec PyProof.Rows L2 HandSHeadRun
/-- where a def's table of code objects stands -/
def tabAt (K : W.Frag) (x : Str) : Option Addr := match K.lookup (He.ga K x) with
  | some ⟨_, _, .func fd, _⟩ => (match fd.code with
    | .ref c => (match K.lookup c with
      | some ⟨_, _, .fields vs, _⟩ => (match (vs[11]? : Option Value) with
        | some (.ref P) => some P
        | _ => none)
      | _ => none)
    | _ => none)
  | _ => none
def tabsNeB (K : W.Frag) (x y : Str) : Bool := match tabAt K x, tabAt K y with
  | some a, some b => a != b
  | _, _ => false
theorem tabAt_is {K : W.Frag} {x : Str} {P' c P : Addr} {base : Heap} (h : tabAt K x = some P') (hc : ∀ (o : Obj) (fd : FuncData), K.lookup (He.ga K x) = some o → o.data = .func fd → fd.code = .ref c) (X : K.In base) (cd : W.CodeHd base c P) : P = P' := by
  unfold tabAt at h
  split at h
  · rename_i e
    have e1 := hc _ _ e rfl
    rw [e1] at h
    dsimp only at h
    split at h
    · rename_i e2
      have e3 := X _ _ e2
      obtain ⟨o, vs, _, _, _, _, _, _, _, q1, _, q3, q4, _⟩ := cd
      rw [e3] at q1
      cases q1
      cases q3
      rw [q4] at h
      exact Option.some.inj h
    · cases h
  · cases h
theorem tabs_ne {K : W.Frag} {x y : Str} {c1 P1 c2 P2 : Addr} {base : Heap} (h : tabsNeB K x y = true) (h1 : ∀ (o : Obj) (fd : FuncData), K.lookup (He.ga K x) = some o → o.data = .func fd → fd.code = .ref c1) (h2 : ∀ (o : Obj) (fd : FuncData), K.lookup (He.ga K y) = some o → o.data = .func fd → fd.code = .ref c2)
    (X : K.In base) (d1 : W.CodeHd base c1 P1) (d2 : W.CodeHd base c2 P2) : P1 ≠ P2 := by
  unfold tabsNeB at h
  split at h
  · rename_i a b ea eb
    rw [tabAt_is ea h1 X d1, tabAt_is eb h2 X d2]
    intro z
    rw [z] at h
    simp at h
  · cases h
/-- the end of a law row: two defs make lambdas -/
theorem walkT2 {l : W.OpenLaw} {n k : Nat} {q : Program} {loose : List Str} {XP : (Str → Option Value) → Heap → Prop} {YP : World → Heap → Prop} {d : DefRec} {CX : CXT} {x y1 y2 : Str}
    (hn : l.most = some n) (hn2 : n ≤ sizeLine) (hdf : d.params.defaults = []) (hr : Room k callerA) (hrec1 : ((recsOf q).any fun e => e.name == y1) = true) (hrec2 : ((recsOf q).any fun e => e.name == y2) = true)
    (F : ∀ (w : World) (mg : Str → Option Value) (fa : Addr) (h : Heap), YP w h → h.Ns mainGlobals mg → mg d.name = some (.ref fa) →
      ∃ K : W.Frag, K.In h ∧ noTabB K = true ∧ tabsNeB K y1 y2 = true ∧ (mg y1 = some (.ref (He.ga K y1)) ∧ ∃ (o : Obj) (fd : FuncData), K.lookup (He.ga K y1) = some o ∧ o.data = .func fd) ∧ (mg y2 = some (.ref (He.ga K y2)) ∧ ∃ (o : Obj) (fd : FuncData), K.lookup (He.ga K y2) = some o ∧ o.data = .func fd) ∧
        ∀ c1 P1 c2 P2 : Addr, (∀ (o : Obj) (fd : FuncData), K.lookup (He.ga K y1) = some o → o.data = .func fd → fd.code = .ref c1) → (∀ (o : Obj) (fd : FuncData), K.lookup (He.ga K y2) = some o → o.data = .func fd → fd.code = .ref c2) → P1 ≠ P2 → ∃ (fd : FuncData) (sp : Sp), (∀ (s : Shared) (u : Value), BindsTo s fd ⟨[u], []⟩ [(x, u)]) ∧
          (∀ (H : Hp) (a : Addr) (ns : List Int), ns.length ≤ n → (∀ z ∈ ns, Builtin.Int.intBits z ≤ 1048576) → H P1 = some (.tbl #[]) → H P2 = some (.tbl #[]) → SqL K H a (ns.map V.int) → sp [.ref a] H (fun v _ => v = .bl true) fun _ _ _ => False) ∧
          ∀ base : Heap, K.In base → base.Ns mainGlobals mg → LamX.TabB base mg c1 P1 → LamX.TabB base mg c2 P2 → FnOk l.prog w K mg base CX k fa fd [x] sp)
    (hCX : ∀ (H : Hp) (s : Shared) (e : Value) (s' : Shared), CX [] H s (fun _ _ _ => False) e s' → False) :
    W.WalkO q loose XP YP l.row.toRowW d [] (fun f vs => PySem.call f vs) := by
  refine Att.attach_callB hn hdf fun w s₀ s₁ mg mb fa o pm cd doc a vs ns G Y ho hd hcd hmg hobj hints hlen hbits hg => ?_
  obtain ⟨K, KX, nt, tn, ⟨hy1, o1, fd1, k1, k2⟩, ⟨hy2, o2, fd2, k3, k4⟩, F⟩ := F w mg fa _ Y G.T.g hmg
  have tab : ∀ (y : Str) (o0 : Obj) (fd0 : FuncData), ((recsOf q).any fun e => e.name == y) = true → mg y = some (.ref (He.ga K y)) → K.lookup (He.ga K y) = some o0 → o0.data = .func fd0 → ∃ c P : Addr, fd0.code = .ref c ∧ s₁.heap.get? P = some { cls := .none, data := .fields #[] } ∧ W.CodeHd s₁.heap c P := fun y o0 fd0 hrec hy l1 l2 => by
    obtain ⟨dL, hm, hn1⟩ := List.any_eq_true.mp hrec
    have hn2' : dL.name = y := beq_iff_eq.mp hn1
    obtain ⟨a', o', fd', c, P, h1, h2, h3, h4, h5, h6⟩ := G.T.tab dL hm
    rw [hn2', hy] at h1
    cases h1
    have g1 := KX _ _ l1
    rw [g1] at h2
    cases h2
    rw [l2] at h3
    cases h3
    exact ⟨c, P, h4, h6.2, W.CodeHd.of h5 h6⟩
  obtain ⟨c1, P1, e1, p1, d1⟩ := tab y1 o1 fd1 hrec1 hy1 k1 k2
  obtain ⟨c2, P2, e2, p2, d2⟩ := tab y2 o2 fd2 hrec2 hy2 k3 k4
  have q1 : ∀ (o : Obj) (fd : FuncData), K.lookup (He.ga K y1) = some o → o.data = .func fd → fd.code = .ref c1 := fun o fd l1 l2 => by
    rw [k1] at l1
    cases l1
    rw [k2] at l2
    cases l2
    exact e1
  have q2 : ∀ (o : Obj) (fd : FuncData), K.lookup (He.ga K y2) = some o → o.data = .func fd → fd.code = .ref c2 := fun o fd l1 l2 => by
    rw [k3] at l1
    cases l1
    rw [k4] at l2
    cases l2
    exact e2
  obtain ⟨fd, sp, hb, hsp, hF⟩ := F c1 P1 c2 P2 q1 q2 (tabs_ne tn q1 q2 KX d1 d2)
  have m1 : (c1, P1) ∈ [(c1, P1), (c2, P2)] := List.mem_cons_self
  have m2 : (c2, P2) ∈ [(c1, P1), (c2, P2)] := List.mem_cons_of_mem _ List.mem_cons_self
  refine LamX.law_callTs (cs := [(c1, P1), (c2, P2)]) KX G.T.g G.T.b G.T.builtins G.T.nolimit hg (fun p hp => ?_) (fun p hp => ?_) (fun p hp => ?_) G.T.bmain hobj hints (Nat.le_trans hlen hn2) hr (fun base kb nb tb => hF base kb nb (tb _ m1) (tb _ m2)) hb (fun H hH hS => hsp H a ns hlen hbits (hH _ m1) (hH _ m2) hS) fun H e s' => hCX H s₁ e s'
  · rcases List.mem_cons.mp hp with e | e
    · rw [e]; exact p1
    · rw [List.mem_singleton.mp e]; exact p2
  · rcases List.mem_cons.mp hp with e | e
    · rw [e]; exact noTab_ok nt KX p1
    · rw [List.mem_singleton.mp e]; exact noTab_ok nt KX p2
  · rcases List.mem_cons.mp hp with e | e
    · rw [e]; exact d1
    · rw [List.mem_singleton.mp e]; exact d2
end EW
end

namespace TM
open PySem PySem.Spec PyProof.Rows L2 EW
def top (i : Nat) : Stmt := PySem.Challenge.pw_everwhen_k10_normal_zones.main.body.getD i (.Pass ⟨0, 0, 0, 0⟩)
def meth (s : Stmt) (j : Nat) : Stmt := match s with
  | .ClassDef (body := b) .. => b.getD j (.Pass ⟨0, 0, 0, 0⟩)
  | _ => .Pass ⟨0, 0, 0, 0⟩
abbrev sIsInt : Stmt := top 14
abbrev sBetween : Stmt := top 15
abbrev sIsBound : Stmt := top 16
abbrev sReqP : Stmt := top 25
abbrev sGreater : Stmt := top 35
abbrev sLesser : Stmt := top 36
abbrev sPlus : Stmt := top 37
abbrev sMinus : Stmt := top 38
abbrev sRounded : Stmt := top 39
abbrev sEmptyP : Stmt := top 40
abbrev sGapRes : Stmt := top 41
abbrev sIsName : Stmt := top 17
abbrev sIsDomain : Stmt := top 18
abbrev sIsKind : Stmt := top 19
abbrev sIsCol : Stmt := top 20
abbrev sTimesIn : Stmt := top 22
abbrev sDomsIn : Stmt := top 23
abbrev sIsShape : Stmt := top 21
abbrev sReqShape : Stmt := top 24
abbrev sIsValue : Stmt := top 26
abbrev sIsSpan : Stmt := top 29
abbrev sIsGap : Stmt := top 30
abbrev sIsZone : Stmt := top 31
abbrev sReqZone : Stmt := top 33
abbrev sReqAll : Stmt := top 34
abbrev sClosed : Stmt := top 42
abbrev sTight : Stmt := top 43
abbrev sNormIn : Stmt := top 44
abbrev sNormal : Stmt := top 45
abbrev sDice : Stmt := top 48
abbrev sRoll : Stmt := top 49
abbrev sPick : Stmt := top 50
abbrev sNear : Stmt := top 52
abbrev sBound : Stmt := top 53
abbrev sPair : Stmt := top 54
abbrev sResidue : Stmt := top 55
abbrev sSpan : Stmt := top 56
abbrev sMixed : Stmt := top 51
abbrev sTimesOf : Stmt := top 57
abbrev sDomsOf : Stmt := top 58
abbrev sShape : Stmt := top 59
abbrev sZone : Stmt := top 60
abbrev sBetw : Stmt := top 62
abbrev sParts : Stmt := top 61
abbrev sInZone : Stmt := top 63
abbrev sIsZoneF : Stmt := top 32
abbrev sIsNorm : Stmt := top 46
abbrev sRndL : Stmt := top 64
abbrev sMeetL : Stmt := top 65
abbrev sPlusL : Stmt := top 66
abbrev sTurned : Stmt := top 67
abbrev sHasT : Stmt := top 68
abbrev sHasG : Stmt := top 69
abbrev sKnown : Stmt := top 70
abbrev sIsEmp : Stmt := top 71
abbrev sBoundR : Stmt := top 72
abbrev sPairR : Stmt := top 73
abbrev sToldR : Stmt := top 74
abbrev sBent : Stmt := top 75
abbrev sRowsR : Stmt := top 76
abbrev sRight : Stmt := top 77
abbrev sLaw : Stmt := top 78
end TM

section
set_option maxHeartbeats 0
namespace TM
open PySem PySem.Spec PyProof.Rows L2 EW
abbrev Rw : W.OpenRow := W.OpenLaw.row PySem.Challenge.rw_everwhen_k10_normal_zones
def loose : List Str := [("__name__" : Str), ("EverError" : Str), ("InvalidShape" : Str), ("InvalidZone" : Str), ("InvalidNumber" : Str), ("TIME" : Str), ("NOW" : Str), ("LETTERS" : Str), ("MAX_LETTERS" : Str), ("MAX_PERIOD" : Str), ("MAX_TIMES" : Str), ("MAX_DOMAINS" : Str), ("MAX_VALUES" : Str), ("is_integer" : Str), ("is_between" : Str), ("is_bound" : Str), ("is_name" : Str), ("is_domain" : Str), ("is_kind" : Str), ("is_column_name" : Str), ("is_shape" : Str), ("times_in" : Str), ("domains_in" : Str), ("require_shape" : Str), ("require_period" : Str), ("is_value_of" : Str), ("ANY" : Str), ("is_span" : Str), ("is_gap" : Str), ("is_zone_in" : Str), ("is_zone" : Str), ("require_zone" : Str), ("require_all" : Str), ("greater_of" : Str), ("lesser_of" : Str), ("plus" : Str), ("minus" : Str), ("rounded" : Str), ("is_empty_pair" : Str), ("gap_residue" : Str), ("closed" : Str), ("tight_two" : Str), ("normal_in" : Str), ("normal" : Str), ("is_normal" : Str), ("_law_dice" : Str), ("_law_roll" : Str), ("_law_pick" : Str), ("_law_mixed" : Str), ("_law_near" : Str), ("_law_bound" : Str), ("_law_pair" : Str), ("_law_residue" : Str), ("_law_span" : Str), ("_law_times_of" : Str), ("_law_domains_of" : Str), ("_law_shape" : Str), ("_law_zone" : Str), ("_law_parts_of" : Str), ("_law_between" : Str), ("_law_in_zone" : Str), ("_law_rounded" : Str), ("_law_meet" : Str), ("_law_plus" : Str), ("_law_turned" : Str), ("_law_has_time" : Str), ("_law_has_gap" : Str), ("_law_known" : Str), ("_law_is_empty" : Str), ("_law_bound_right" : Str), ("_law_bent" : Str), ("_law_rows_right" : Str), ("_law_right" : Str)]
theorem runAB (w : World) (os : OsState) : (HandSHeadRun.endF (HandSHeadRun.stepQ (HandSHeadRun.denQ HandSHeadRun.tabQ) Rw.prog w) 20000 Rw.prog w os).map (fun s => (HandSHeadRun.looksF Rw.prog (W.boot_heap w.params) s.abs, HandSHeadRun.seenQ (W.view Rw.prog [78, 73, 74]) loose (importedModules Rw.prog.main.body) (fun s => W.xlAt (W.view Rw.prog [78, 73, 74]) [] s && W.recOk Rw.toRowW.records s) s.abs)) = some (true, W.openGood (W.view Rw.prog [78, 73, 74]) loose) := by kernel_rfl
def fa0 : List He.Fa := [.glo "is_integer", .glo "is_between", .glo "is_bound", .glo "require_period", .glo "greater_of", .glo "lesser_of", .glo "plus", .glo "minus", .glo "is_empty_pair", .glo "rounded", .glo "gap_residue", .glo "is_name", .glo "is_column_name", .glo "is_domain", .glo "times_in", .glo "domains_in", .glo "is_kind", .glo "is_shape", .glo "require_shape", .glo "is_value_of", .glo "is_span", .glo "is_gap", .glo "is_zone_in", .glo "require_zone", .glo "require_all", .glo "closed", .glo "tight_two", .glo "normal_in", .glo "normal", .glo "_law_dice", .glo "_law_roll", .glo "_law_pick", .glo "_law_near", .glo "_law_bound", .glo "_law_pair", .glo "_law_residue", .glo "_law_span", .glo "_law_mixed", .glo "_law_times_of", .glo "_law_domains_of", .glo "_law_shape", .glo "_law_zone", .glo "_law_between", .glo "_law_parts_of", .glo "_law_in_zone"]
theorem runFa0 (w : World) (os : OsState) : (HandSHeadRun.endF (HandSHeadRun.stepQ (HandSHeadRun.denQ HandSHeadRun.tabQ) Rw.prog w) 20000 Rw.prog w os).map (fun s => fa0.all fun f => f.ok (KK 5 s)) = some true := by kernel_rfl
def fa1 : List He.Fa := [.glo "is_zone", .glo "is_normal", .glo "_law_rounded", .glo "_law_meet", .glo "_law_plus", .glo "_law_turned", .glo "_law_has_time", .glo "_law_has_gap", .glo "_law_known", .glo "_law_is_empty", .glo "_law_bound_right", .glo "_law_pair_right", .glo "_law_told_right", .glo "_law_bent", .glo "_law_rows_right", .glo "_law_right", .glo "law", .free "len", .free "int", .free "bool", .free "tuple", .free "list", .free "set", .free "abs", .free "max", .free "min", .free "range", .free "any", .free "all", .free "sorted", .free "isinstance", .free "str", .free "dict", .free "zip", .free "enumerate", .free "repr", .int "MAX_LETTERS" 8, .int "MAX_PERIOD" 400, .int "MAX_TIMES" 2, .int "MAX_DOMAINS" 3, .int "MAX_VALUES" 8, .str "TIME" "time", .str "NOW" "now", .str "LETTERS" "abcdefghijklmnopqrstuvwxyz", .glo "ANY"]
theorem runFa1 (w : World) (os : OsState) : (HandSHeadRun.endF (HandSHeadRun.stepQ (HandSHeadRun.denQ HandSHeadRun.tabQ) Rw.prog w) 20000 Rw.prog w os).map (fun s => fa1.all fun f => f.ok (KK 5 s)) = some true := by kernel_rfl
def ex0 : List (W.Frag → Bool) := [fun K => noTabB K, fun K => tabsNeB K "_law_pair_right" "_law_told_right", fun K => twoNonB K "ANY"]
theorem runEx0 (w : World) (os : OsState) : (HandSHeadRun.endF (HandSHeadRun.stepQ (HandSHeadRun.denQ HandSHeadRun.tabQ) Rw.prog w) 20000 Rw.prog w os).map (fun s => ex0.all fun e => e (KK 5 s)) = some true := by kernel_rfl
def fn0 : List He5.DefA := [
  ⟨fun K => He.ga K "is_integer", "is_integer", "is_integer", defArgs sIsInt, defBody sIsInt, defScope sIsInt, [], []⟩,
  ⟨fun K => He.ga K "is_between", "is_between", "is_between", defArgs sBetween, defBody sBetween, defScope sBetween, [], []⟩,
  ⟨fun K => He.ga K "is_bound", "is_bound", "is_bound", defArgs sIsBound, defBody sIsBound, defScope sIsBound, [], []⟩,
  ⟨fun K => He.ga K "require_period", "require_period", "require_period", defArgs sReqP, defBody sReqP, defScope sReqP, [], []⟩,
  ⟨fun K => He.ga K "greater_of", "greater_of", "greater_of", defArgs sGreater, defBody sGreater, defScope sGreater, [], []⟩,
  ⟨fun K => He.ga K "lesser_of", "lesser_of", "lesser_of", defArgs sLesser, defBody sLesser, defScope sLesser, [], []⟩,
  ⟨fun K => He.ga K "plus", "plus", "plus", defArgs sPlus, defBody sPlus, defScope sPlus, [], []⟩,
  ⟨fun K => He.ga K "minus", "minus", "minus", defArgs sMinus, defBody sMinus, defScope sMinus, [], []⟩,
  ⟨fun K => He.ga K "is_empty_pair", "is_empty_pair", "is_empty_pair", defArgs sEmptyP, defBody sEmptyP, defScope sEmptyP, [], []⟩,
  ⟨fun K => He.ga K "rounded", "rounded", "rounded", defArgs sRounded, defBody sRounded, defScope sRounded, [], []⟩,
  ⟨fun K => He.ga K "gap_residue", "gap_residue", "gap_residue", defArgs sGapRes, defBody sGapRes, defScope sGapRes, [], []⟩,
  ⟨fun K => He.ga K "is_name", "is_name", "is_name", defArgs sIsName, defBody sIsName, defScope sIsName, [], []⟩,
  ⟨fun K => He.ga K "is_column_name", "is_column_name", "is_column_name", defArgs sIsCol, defBody sIsCol, defScope sIsCol, [], []⟩,
  ⟨fun K => He.ga K "is_domain", "is_domain", "is_domain", defArgs sIsDomain, defBody sIsDomain, defScope sIsDomain, [], []⟩,
  ⟨fun K => He.ga K "times_in", "times_in", "times_in", defArgs sTimesIn, defBody sTimesIn, defScope sTimesIn, [], []⟩,
  ⟨fun K => He.ga K "domains_in", "domains_in", "domains_in", defArgs sDomsIn, defBody sDomsIn, defScope sDomsIn, [], []⟩,
  ⟨fun K => He.ga K "is_kind", "is_kind", "is_kind", defArgs sIsKind, defBody sIsKind, defScope sIsKind, [], []⟩,
  ⟨fun K => He.ga K "is_shape", "is_shape", "is_shape", defArgs sIsShape, defBody sIsShape, defScope sIsShape, [], []⟩,
  ⟨fun K => He.ga K "require_shape", "require_shape", "require_shape", defArgs sReqShape, defBody sReqShape, defScope sReqShape, [], []⟩,
  ⟨fun K => He.ga K "is_value_of", "is_value_of", "is_value_of", defArgs sIsValue, defBody sIsValue, defScope sIsValue, [], []⟩,
  ⟨fun K => He.ga K "is_span", "is_span", "is_span", defArgs sIsSpan, defBody sIsSpan, defScope sIsSpan, [], []⟩]
theorem runFn0 (w : World) (os : OsState) : (HandSHeadRun.endF (HandSHeadRun.stepQ (HandSHeadRun.denQ HandSHeadRun.tabQ) Rw.prog w) 20000 Rw.prog w os).map (fun s => (fn0.all fun d => d.ok (KK 5 s), fn0.map fun d => He5.fnA (KK 5 s) (d.at_ (KK 5 s)))) = some (true, fn0.map He5.DefA.val) := by kernel_rfl
def fn1 : List He5.DefA := [
  ⟨fun K => He.ga K "is_gap", "is_gap", "is_gap", defArgs sIsGap, defBody sIsGap, defScope sIsGap, [], []⟩,
  ⟨fun K => He.ga K "is_zone_in", "is_zone_in", "is_zone_in", defArgs sIsZone, defBody sIsZone, defScope sIsZone, [], []⟩,
  ⟨fun K => He.ga K "require_zone", "require_zone", "require_zone", defArgs sReqZone, defBody sReqZone, defScope sReqZone, [], []⟩,
  ⟨fun K => He.ga K "require_all", "require_all", "require_all", defArgs sReqAll, defBody sReqAll, defScope sReqAll, [], []⟩,
  ⟨fun K => He.ga K "closed", "closed", "closed", defArgs sClosed, defBody sClosed, defScope sClosed, [], []⟩,
  ⟨fun K => He.ga K "tight_two", "tight_two", "tight_two", defArgs sTight, defBody sTight, defScope sTight, [], []⟩,
  ⟨fun K => He.ga K "normal_in", "normal_in", "normal_in", defArgs sNormIn, defBody sNormIn, defScope sNormIn, [], []⟩,
  ⟨fun K => He.ga K "normal", "normal", "normal", defArgs sNormal, defBody sNormal, defScope sNormal, [], []⟩,
  ⟨fun K => He.ga K "_law_dice", "_law_dice", "_law_dice", defArgs sDice, defBody sDice, defScope sDice, [], []⟩,
  ⟨fun K => He.ga K "_law_roll", "_law_roll", "_law_roll", defArgs sRoll, defBody sRoll, defScope sRoll, [], []⟩,
  ⟨fun K => He.ga K "_law_pick", "_law_pick", "_law_pick", defArgs sPick, defBody sPick, defScope sPick, [], []⟩,
  ⟨fun K => He.ga K "_law_near", "_law_near", "_law_near", defArgs sNear, defBody sNear, defScope sNear, [], []⟩,
  ⟨fun K => He.ga K "_law_bound", "_law_bound", "_law_bound", defArgs sBound, defBody sBound, defScope sBound, [], []⟩,
  ⟨fun K => He.ga K "_law_pair", "_law_pair", "_law_pair", defArgs sPair, defBody sPair, defScope sPair, [], []⟩,
  ⟨fun K => He.ga K "_law_residue", "_law_residue", "_law_residue", defArgs sResidue, defBody sResidue, defScope sResidue, [], []⟩,
  ⟨fun K => He.ga K "_law_span", "_law_span", "_law_span", defArgs sSpan, defBody sSpan, defScope sSpan, [], []⟩,
  ⟨fun K => He.ga K "_law_mixed", "_law_mixed", "_law_mixed", defArgs sMixed, defBody sMixed, defScope sMixed, [], []⟩,
  ⟨fun K => He.ga K "_law_times_of", "_law_times_of", "_law_times_of", defArgs sTimesOf, defBody sTimesOf, defScope sTimesOf, [], []⟩,
  ⟨fun K => He.ga K "_law_domains_of", "_law_domains_of", "_law_domains_of", defArgs sDomsOf, defBody sDomsOf, defScope sDomsOf, [], []⟩,
  ⟨fun K => He.ga K "_law_shape", "_law_shape", "_law_shape", defArgs sShape, defBody sShape, defScope sShape, [], []⟩,
  ⟨fun K => He.ga K "_law_zone", "_law_zone", "_law_zone", defArgs sZone, defBody sZone, defScope sZone, [], []⟩]
theorem runFn1 (w : World) (os : OsState) : (HandSHeadRun.endF (HandSHeadRun.stepQ (HandSHeadRun.denQ HandSHeadRun.tabQ) Rw.prog w) 20000 Rw.prog w os).map (fun s => (fn1.all fun d => d.ok (KK 5 s), fn1.map fun d => He5.fnA (KK 5 s) (d.at_ (KK 5 s)))) = some (true, fn1.map He5.DefA.val) := by kernel_rfl
def fn2 : List He5.DefA := [
  ⟨fun K => He.ga K "_law_between", "_law_between", "_law_between", defArgs sBetw, defBody sBetw, defScope sBetw, [], []⟩,
  ⟨fun K => He.ga K "_law_parts_of", "_law_parts_of", "_law_parts_of", defArgs sParts, defBody sParts, defScope sParts, [], []⟩,
  ⟨fun K => He.ga K "_law_in_zone", "_law_in_zone", "_law_in_zone", defArgs sInZone, defBody sInZone, defScope sInZone, [], []⟩,
  ⟨fun K => He.ga K "is_zone", "is_zone", "is_zone", defArgs sIsZoneF, defBody sIsZoneF, defScope sIsZoneF, [], []⟩,
  ⟨fun K => He.ga K "is_normal", "is_normal", "is_normal", defArgs sIsNorm, defBody sIsNorm, defScope sIsNorm, [], []⟩,
  ⟨fun K => He.ga K "_law_rounded", "_law_rounded", "_law_rounded", defArgs sRndL, defBody sRndL, defScope sRndL, [], []⟩,
  ⟨fun K => He.ga K "_law_meet", "_law_meet", "_law_meet", defArgs sMeetL, defBody sMeetL, defScope sMeetL, [], []⟩,
  ⟨fun K => He.ga K "_law_plus", "_law_plus", "_law_plus", defArgs sPlusL, defBody sPlusL, defScope sPlusL, [], []⟩,
  ⟨fun K => He.ga K "_law_turned", "_law_turned", "_law_turned", defArgs sTurned, defBody sTurned, defScope sTurned, [], []⟩,
  ⟨fun K => He.ga K "_law_has_time", "_law_has_time", "_law_has_time", defArgs sHasT, defBody sHasT, defScope sHasT, [], []⟩,
  ⟨fun K => He.ga K "_law_has_gap", "_law_has_gap", "_law_has_gap", defArgs sHasG, defBody sHasG, defScope sHasG, [], []⟩,
  ⟨fun K => He.ga K "_law_known", "_law_known", "_law_known", defArgs sKnown, defBody sKnown, defScope sKnown, [], []⟩,
  ⟨fun K => He.ga K "_law_is_empty", "_law_is_empty", "_law_is_empty", defArgs sIsEmp, defBody sIsEmp, defScope sIsEmp, [], []⟩,
  ⟨fun K => He.ga K "_law_bound_right", "_law_bound_right", "_law_bound_right", defArgs sBoundR, defBody sBoundR, defScope sBoundR, [], []⟩,
  ⟨fun K => He.ga K "_law_pair_right", "_law_pair_right", "_law_pair_right", defArgs sPairR, defBody sPairR, defScope sPairR, [], []⟩,
  ⟨fun K => He.ga K "_law_told_right", "_law_told_right", "_law_told_right", defArgs sToldR, defBody sToldR, defScope sToldR, [], []⟩,
  ⟨fun K => He.ga K "_law_bent", "_law_bent", "_law_bent", defArgs sBent, defBody sBent, defScope sBent, [], []⟩,
  ⟨fun K => He.ga K "_law_rows_right", "_law_rows_right", "_law_rows_right", defArgs sRowsR, defBody sRowsR, defScope sRowsR, [], []⟩,
  ⟨fun K => He.ga K "_law_right", "_law_right", "_law_right", defArgs sRight, defBody sRight, defScope sRight, [], []⟩,
  ⟨fun K => He.ga K "law", "law", "law", defArgs sLaw, defBody sLaw, defScope sLaw, [], []⟩]
theorem runFn2 (w : World) (os : OsState) : (HandSHeadRun.endF (HandSHeadRun.stepQ (HandSHeadRun.denQ HandSHeadRun.tabQ) Rw.prog w) 20000 Rw.prog w os).map (fun s => (fn2.all fun d => d.ok (KK 5 s), fn2.map fun d => He5.fnA (KK 5 s) (d.at_ (KK 5 s)))) = some (true, fn2.map He5.DefA.val) := by kernel_rfl
def fn : List He5.DefA := [
  ⟨fun K => He.ga K "is_integer", "is_integer", "is_integer", defArgs sIsInt, defBody sIsInt, defScope sIsInt, [], []⟩,
  ⟨fun K => He.ga K "is_between", "is_between", "is_between", defArgs sBetween, defBody sBetween, defScope sBetween, [], []⟩,
  ⟨fun K => He.ga K "is_bound", "is_bound", "is_bound", defArgs sIsBound, defBody sIsBound, defScope sIsBound, [], []⟩,
  ⟨fun K => He.ga K "require_period", "require_period", "require_period", defArgs sReqP, defBody sReqP, defScope sReqP, [], []⟩,
  ⟨fun K => He.ga K "greater_of", "greater_of", "greater_of", defArgs sGreater, defBody sGreater, defScope sGreater, [], []⟩,
  ⟨fun K => He.ga K "lesser_of", "lesser_of", "lesser_of", defArgs sLesser, defBody sLesser, defScope sLesser, [], []⟩,
  ⟨fun K => He.ga K "plus", "plus", "plus", defArgs sPlus, defBody sPlus, defScope sPlus, [], []⟩,
  ⟨fun K => He.ga K "minus", "minus", "minus", defArgs sMinus, defBody sMinus, defScope sMinus, [], []⟩,
  ⟨fun K => He.ga K "is_empty_pair", "is_empty_pair", "is_empty_pair", defArgs sEmptyP, defBody sEmptyP, defScope sEmptyP, [], []⟩,
  ⟨fun K => He.ga K "rounded", "rounded", "rounded", defArgs sRounded, defBody sRounded, defScope sRounded, [], []⟩,
  ⟨fun K => He.ga K "gap_residue", "gap_residue", "gap_residue", defArgs sGapRes, defBody sGapRes, defScope sGapRes, [], []⟩,
  ⟨fun K => He.ga K "is_name", "is_name", "is_name", defArgs sIsName, defBody sIsName, defScope sIsName, [], []⟩,
  ⟨fun K => He.ga K "is_column_name", "is_column_name", "is_column_name", defArgs sIsCol, defBody sIsCol, defScope sIsCol, [], []⟩,
  ⟨fun K => He.ga K "is_domain", "is_domain", "is_domain", defArgs sIsDomain, defBody sIsDomain, defScope sIsDomain, [], []⟩,
  ⟨fun K => He.ga K "times_in", "times_in", "times_in", defArgs sTimesIn, defBody sTimesIn, defScope sTimesIn, [], []⟩,
  ⟨fun K => He.ga K "domains_in", "domains_in", "domains_in", defArgs sDomsIn, defBody sDomsIn, defScope sDomsIn, [], []⟩,
  ⟨fun K => He.ga K "is_kind", "is_kind", "is_kind", defArgs sIsKind, defBody sIsKind, defScope sIsKind, [], []⟩,
  ⟨fun K => He.ga K "is_shape", "is_shape", "is_shape", defArgs sIsShape, defBody sIsShape, defScope sIsShape, [], []⟩,
  ⟨fun K => He.ga K "require_shape", "require_shape", "require_shape", defArgs sReqShape, defBody sReqShape, defScope sReqShape, [], []⟩,
  ⟨fun K => He.ga K "is_value_of", "is_value_of", "is_value_of", defArgs sIsValue, defBody sIsValue, defScope sIsValue, [], []⟩,
  ⟨fun K => He.ga K "is_span", "is_span", "is_span", defArgs sIsSpan, defBody sIsSpan, defScope sIsSpan, [], []⟩,
  ⟨fun K => He.ga K "is_gap", "is_gap", "is_gap", defArgs sIsGap, defBody sIsGap, defScope sIsGap, [], []⟩,
  ⟨fun K => He.ga K "is_zone_in", "is_zone_in", "is_zone_in", defArgs sIsZone, defBody sIsZone, defScope sIsZone, [], []⟩,
  ⟨fun K => He.ga K "require_zone", "require_zone", "require_zone", defArgs sReqZone, defBody sReqZone, defScope sReqZone, [], []⟩,
  ⟨fun K => He.ga K "require_all", "require_all", "require_all", defArgs sReqAll, defBody sReqAll, defScope sReqAll, [], []⟩,
  ⟨fun K => He.ga K "closed", "closed", "closed", defArgs sClosed, defBody sClosed, defScope sClosed, [], []⟩,
  ⟨fun K => He.ga K "tight_two", "tight_two", "tight_two", defArgs sTight, defBody sTight, defScope sTight, [], []⟩,
  ⟨fun K => He.ga K "normal_in", "normal_in", "normal_in", defArgs sNormIn, defBody sNormIn, defScope sNormIn, [], []⟩,
  ⟨fun K => He.ga K "normal", "normal", "normal", defArgs sNormal, defBody sNormal, defScope sNormal, [], []⟩,
  ⟨fun K => He.ga K "_law_dice", "_law_dice", "_law_dice", defArgs sDice, defBody sDice, defScope sDice, [], []⟩,
  ⟨fun K => He.ga K "_law_roll", "_law_roll", "_law_roll", defArgs sRoll, defBody sRoll, defScope sRoll, [], []⟩,
  ⟨fun K => He.ga K "_law_pick", "_law_pick", "_law_pick", defArgs sPick, defBody sPick, defScope sPick, [], []⟩,
  ⟨fun K => He.ga K "_law_near", "_law_near", "_law_near", defArgs sNear, defBody sNear, defScope sNear, [], []⟩,
  ⟨fun K => He.ga K "_law_bound", "_law_bound", "_law_bound", defArgs sBound, defBody sBound, defScope sBound, [], []⟩,
  ⟨fun K => He.ga K "_law_pair", "_law_pair", "_law_pair", defArgs sPair, defBody sPair, defScope sPair, [], []⟩,
  ⟨fun K => He.ga K "_law_residue", "_law_residue", "_law_residue", defArgs sResidue, defBody sResidue, defScope sResidue, [], []⟩,
  ⟨fun K => He.ga K "_law_span", "_law_span", "_law_span", defArgs sSpan, defBody sSpan, defScope sSpan, [], []⟩,
  ⟨fun K => He.ga K "_law_mixed", "_law_mixed", "_law_mixed", defArgs sMixed, defBody sMixed, defScope sMixed, [], []⟩,
  ⟨fun K => He.ga K "_law_times_of", "_law_times_of", "_law_times_of", defArgs sTimesOf, defBody sTimesOf, defScope sTimesOf, [], []⟩,
  ⟨fun K => He.ga K "_law_domains_of", "_law_domains_of", "_law_domains_of", defArgs sDomsOf, defBody sDomsOf, defScope sDomsOf, [], []⟩,
  ⟨fun K => He.ga K "_law_shape", "_law_shape", "_law_shape", defArgs sShape, defBody sShape, defScope sShape, [], []⟩,
  ⟨fun K => He.ga K "_law_zone", "_law_zone", "_law_zone", defArgs sZone, defBody sZone, defScope sZone, [], []⟩,
  ⟨fun K => He.ga K "_law_between", "_law_between", "_law_between", defArgs sBetw, defBody sBetw, defScope sBetw, [], []⟩,
  ⟨fun K => He.ga K "_law_parts_of", "_law_parts_of", "_law_parts_of", defArgs sParts, defBody sParts, defScope sParts, [], []⟩,
  ⟨fun K => He.ga K "_law_in_zone", "_law_in_zone", "_law_in_zone", defArgs sInZone, defBody sInZone, defScope sInZone, [], []⟩,
  ⟨fun K => He.ga K "is_zone", "is_zone", "is_zone", defArgs sIsZoneF, defBody sIsZoneF, defScope sIsZoneF, [], []⟩,
  ⟨fun K => He.ga K "is_normal", "is_normal", "is_normal", defArgs sIsNorm, defBody sIsNorm, defScope sIsNorm, [], []⟩,
  ⟨fun K => He.ga K "_law_rounded", "_law_rounded", "_law_rounded", defArgs sRndL, defBody sRndL, defScope sRndL, [], []⟩,
  ⟨fun K => He.ga K "_law_meet", "_law_meet", "_law_meet", defArgs sMeetL, defBody sMeetL, defScope sMeetL, [], []⟩,
  ⟨fun K => He.ga K "_law_plus", "_law_plus", "_law_plus", defArgs sPlusL, defBody sPlusL, defScope sPlusL, [], []⟩,
  ⟨fun K => He.ga K "_law_turned", "_law_turned", "_law_turned", defArgs sTurned, defBody sTurned, defScope sTurned, [], []⟩,
  ⟨fun K => He.ga K "_law_has_time", "_law_has_time", "_law_has_time", defArgs sHasT, defBody sHasT, defScope sHasT, [], []⟩,
  ⟨fun K => He.ga K "_law_has_gap", "_law_has_gap", "_law_has_gap", defArgs sHasG, defBody sHasG, defScope sHasG, [], []⟩,
  ⟨fun K => He.ga K "_law_known", "_law_known", "_law_known", defArgs sKnown, defBody sKnown, defScope sKnown, [], []⟩,
  ⟨fun K => He.ga K "_law_is_empty", "_law_is_empty", "_law_is_empty", defArgs sIsEmp, defBody sIsEmp, defScope sIsEmp, [], []⟩,
  ⟨fun K => He.ga K "_law_bound_right", "_law_bound_right", "_law_bound_right", defArgs sBoundR, defBody sBoundR, defScope sBoundR, [], []⟩,
  ⟨fun K => He.ga K "_law_pair_right", "_law_pair_right", "_law_pair_right", defArgs sPairR, defBody sPairR, defScope sPairR, [], []⟩,
  ⟨fun K => He.ga K "_law_told_right", "_law_told_right", "_law_told_right", defArgs sToldR, defBody sToldR, defScope sToldR, [], []⟩,
  ⟨fun K => He.ga K "_law_bent", "_law_bent", "_law_bent", defArgs sBent, defBody sBent, defScope sBent, [], []⟩,
  ⟨fun K => He.ga K "_law_rows_right", "_law_rows_right", "_law_rows_right", defArgs sRowsR, defBody sRowsR, defScope sRowsR, [], []⟩,
  ⟨fun K => He.ga K "_law_right", "_law_right", "_law_right", defArgs sRight, defBody sRight, defScope sRight, [], []⟩,
  ⟨fun K => He.ga K "law", "law", "law", defArgs sLaw, defBody sLaw, defScope sLaw, [], []⟩]
def fa : List He.Fa := [.glo "is_integer", .glo "is_between", .glo "is_bound", .glo "require_period", .glo "greater_of", .glo "lesser_of", .glo "plus", .glo "minus", .glo "is_empty_pair", .glo "rounded", .glo "gap_residue", .glo "is_name", .glo "is_column_name", .glo "is_domain", .glo "times_in", .glo "domains_in", .glo "is_kind", .glo "is_shape", .glo "require_shape", .glo "is_value_of", .glo "is_span", .glo "is_gap", .glo "is_zone_in", .glo "require_zone", .glo "require_all", .glo "closed", .glo "tight_two", .glo "normal_in", .glo "normal", .glo "_law_dice", .glo "_law_roll", .glo "_law_pick", .glo "_law_near", .glo "_law_bound", .glo "_law_pair", .glo "_law_residue", .glo "_law_span", .glo "_law_mixed", .glo "_law_times_of", .glo "_law_domains_of", .glo "_law_shape", .glo "_law_zone", .glo "_law_between", .glo "_law_parts_of", .glo "_law_in_zone", .glo "is_zone", .glo "is_normal", .glo "_law_rounded", .glo "_law_meet", .glo "_law_plus", .glo "_law_turned", .glo "_law_has_time", .glo "_law_has_gap", .glo "_law_known", .glo "_law_is_empty", .glo "_law_bound_right", .glo "_law_pair_right", .glo "_law_told_right", .glo "_law_bent", .glo "_law_rows_right", .glo "_law_right", .glo "law", .free "len", .free "int", .free "bool", .free "tuple", .free "list", .free "set", .free "abs", .free "max", .free "min", .free "range", .free "any", .free "all", .free "sorted", .free "isinstance", .free "str", .free "dict", .free "zip", .free "enumerate", .free "repr", .int "MAX_LETTERS" 8, .int "MAX_PERIOD" 400, .int "MAX_TIMES" 2, .int "MAX_DOMAINS" 3, .int "MAX_VALUES" 8, .str "TIME" "time", .str "NOW" "now", .str "LETTERS" "abcdefghijklmnopqrstuvwxyz", .glo "ANY"]
def exl : List (W.Frag → Bool) := [fun K => noTabB K, fun K => tabsNeB K "_law_pair_right" "_law_told_right", fun K => twoNonB K "ANY"]
abbrev hk : W.Hook := hookT 5 fa fn (exAll exl)
def obz (s : W.SharedT) : He.AlD × Bool := obsT 5 fa fn (exAll exl) (HandSHeadRun.getT s)
theorem ob_eq (s : W.SharedT) : obz s = hk.obs s.abs := obsT_eq (HandSHeadRun.getT_eq s)
theorem run (w : World) : HandSHeadRun.RunEq Rw (W.view Rw.prog [78, 73, 74]) hk obz 20000 loose w := fun os =>
  run_parts (fas := [fa0, fa1]) (exs := [ex0]) (fns := [fn0, fn1, fn2]) (runAB w os) rfl rfl rfl (List.forall_mem_cons.mpr ⟨runFa0 w os, (List.forall_mem_cons.mpr ⟨runFa1 w os, (fun _ h => nomatch h)⟩)⟩) (List.forall_mem_cons.mpr ⟨runEx0 w os, (fun _ h => nomatch h)⟩) (List.forall_mem_cons.mpr ⟨runFn0 w os, (List.forall_mem_cons.mpr ⟨runFn1 w os, (List.forall_mem_cons.mpr ⟨runFn2 w os, (fun _ h => nomatch h)⟩)⟩)⟩)
end TM
end

section
set_option maxHeartbeats 4000000
/-! Own exception classes over any built-in base, also one whose __new__ is its base's (KeyError): made, stored into, asked -/
namespace EW
open PySem PySem.Spec PyProof.Rows L2 PySem.HandSPX
abbrev keBases : List Value := [.type "KeyError", .type "LookupError", .type "Exception", .type "BaseException", .type "object"]
theorem keStore : StoreFacts "KeyError" keBases "object.__setattr__" "object" where
  mro := by kernel_rfl
  slot := .of (owner := "object") (n := "__setattr__")
    (by rw [typeLookup_type, builtinLookup_eq_fast]; kernel_rfl) (by decide +kernel) (by decide +kernel) (by decide +kernel)
    (by first | exact .inl (by decide +kernel) | exact .inr (by decide +kernel)) (by rw [isSubtype_type]; kernel_rfl)
  entry := F.entry_object_sa
  kind := by decide +kernel
  split := by decide +kernel
  hasOwner := by decide +kernel
  args := fun a b c => by
    unfold argsOk
    kernel_rfl
  passes := fun self => by kernel_rfl
/-- what a class of the mro bm must have, so that newId of Bn makes its instances -/
structure NewOk (C : Addr) (bm : List Value) (Bn : String) : Prop where
  has : (Value.ref C :: bm).contains (.type Bn) = true
  noA : (Value.ref C :: bm).contains (.type "AttributeError") = false
  noN : (Value.ref C :: bm).contains (.type "NameError") = false
section
variable {prog : Program} {w : World} {A : Around} {E : Value → Shared → Prop} {R : Result → Shared → Prop} {hp : Heap} {gs : Array GenState} {dr : Drawn} {tk : Nat} {os : OsState}
variable {nm qn : Str} {C nsp : Addr} {bs bm bmN : List Value} {hdc : Bool} {sn : List Str} {sub : List Value} {ab : Bool} {col : Option Bool} {dd : Option Addr} {k0 k1 k2 k3 k5 : Option Value} {Bn newId inN : String}
theorem chk_new {M : Model} (Fn : ExcBaseFacts Bn newId inN bmN) (O : NewOk C bm Bn) {rest : List Value} {Q : Unit → Shared → Prop}
    (hC : hp.get? C = some (excClassObj nm qn C nsp bs bm hdc sn sub ab col dd k0 k1 k2 k3 k5 newId)) (z : Q () ⟨hp, gs, dr, tk, os⟩) :
    wpAny M A (checkBuiltinCall newId ⟨.ref C :: rest, []⟩) Q E ⟨hp, gs, dr, tk, os⟩ := by
  have h1 := O.has
  have h2 := Fn.noStar
  simp only [checkBuiltinCall, Fn.newKind, Fn.newSplit, Fn.newRow]
  repeat (first
    | refine wpAny_loadPart_at hC ?_
    | (refine wpAny_isSubtype_exc hC ?_; rw [h1])
    | refine wpAny_staticBase_exc hC ?_
    | refine wpAny_madeBy_exc hC ?_
    | simp only [bne_self_eq_false, Bool.false_eq_true, if_false]
    | wp_step)
  exact z
theorem run_new (Fn : ExcBaseFacts Bn newId inN bmN) (O : NewOk C bm Bn) {rest : List Value}
    (hC : hp.get? C = some (excClassObj nm qn C nsp bs bm hdc sn sub ab col dd k0 k1 k2 k3 k5 newId))
    (z : R (.ok (.ret (.ref (hp.objs.size + 1)))) ⟨(hp.push (W.kdv_tup rest)).push (excO C hp.objs.size), gs, dr, tk, os⟩) (hz : rest.length ≤ sizeLine) :
    codeAny (model prog w) A (.builtin newId ⟨.ref C :: rest, []⟩) R ⟨hp, gs, dr, tk, os⟩ := by
  have h0 := Fn.ends
  have h1 := O.has
  have h2 := O.noA
  have h3 := O.noN
  refine codeAny_builtinAt Fn.entry ?_
  unfold Builtin.«BaseException.__new__»
  refine PySem.wpAt_bind ?_
  show PySem.wpAt _ _ _ (stack >>= _) _ _ _
  refine PySem.wpAt_bind (PySem.wpAt_stack fun p below => PySem.wpAt_of_wpAny ?_)
  wp_walk
  refine PySem.wpAt_of_wpAny ?_
  rw [Fn.owner]
  repeat (first
    | with_reducible refine wpAny_madeHere_exc Fn.canon hC ?_
    | with_reducible refine wpAny_loadPart_at hC ?_
    | (with_reducible refine wpAny_isSubtype_exc hC ?_; first | rw [h1] | rw [h2] | rw [h3])
    | wp_step)
  show R _ _
  rw [Heap.size_push]
  exact z
theorem run_typeCall (Fn : ExcBaseFacts Bn newId inN bmN) (O : NewOk C bm Bn) {rest : List Value} {fI : Addr} {Q : Fin → Shared → Prop}
    (hC : hp.get? C = some (excClassObj nm qn C nsp bs bm hdc sn sub ab col dd k0 k1 k2 k3 k5 newId))
    (hi : W.Looks (model prog w) hp (typeLookup (.ref C) "__init__") (some (.ref fI))) (hb : ∀ self, W.Looks (model prog w) hp (bindSpecial (.ref fI) self) (.ref fI, [self])) (hz : rest.length ≤ sizeLine)
    (z : codeAny (model prog w) A (.call (.ref fI) ⟨.ref (hp.objs.size + 1) :: rest, []⟩)
      (fun r s' => match r with | .ok (.ret v) => v = .none ∧ Q (.done (.ret (.ref (hp.objs.size + 1)))) s' | .ok _ => False | .error e => E e s')
      ⟨(hp.push (W.kdv_tup rest)).push (excO C hp.objs.size), gs, dr, tk, os⟩) :
    wpAny (model prog w) A (Builtin.«type.__call__» ⟨.ref C :: rest, []⟩) Q E ⟨hp, gs, dr, tk, os⟩ := by
  repeat (first
    | with_reducible refine wpAny_loadPart_at hC ?_
    | with_reducible refine wpAny_madeBy_exc hC ?_
    | wp_step)
  refine codeAny_call_builtin_code (Code.quiet_builtin _ Fn.quiet) (chk_new Fn O hC ?_)
  refine run_new Fn O hC ?_ hz
  show wpAny _ _ _ _ _ _
  have kk : ∀ b o, hp.get? b = some o → ((hp.push (W.kdv_tup rest)).push (excO C hp.objs.size)).get? b = some o :=
    fun b o e => Heap.get?_push_of_some _ (Heap.get?_push_of_some _ e)
  have c1 := kk _ _ hC
  have c2 : ((hp.push (W.kdv_tup rest)).push (excO C hp.objs.size)).get? (hp.objs.size + 1) = some (excO C hp.objs.size) := by
    heap_get
  have c3 : (Value.ref C :: bm).contains (.ref C) = true := by
    simp
  have c4 := hi.keeps kk
  have c5 := (hb (.ref (hp.objs.size + 1))).keeps kk
  unfold isInstance
  repeat (first
    | with_reducible refine wpAny_loadPart_at c2 ?_
    | (with_reducible refine wpAny_isSubtype_exc c1 ?_; rw [c3])
    | wp_step)
  show wpAny _ _ (typeLookup (.ref C) _) _ _ _
  refine c4.at ?_
  refine wpAny_holding (wpAny_bind (c5.at ?_))
  refine wpAny_bind (wpAny_call (codeAny_mono z fun r s' y => ?_))
  rcases r with e | (v | _ | _ | _) <;> first | exact y | exact y.elim | skip
  obtain ⟨rfl, y⟩ := y
  first
    | exact wpAny_pure (wpAny_pure y)
    | (wp_walk; exact y)
theorem run_make (Fn : ExcBaseFacts Bn newId inN bmN) (O : NewOk C bm Bn) {rest : List Value} {fI : Addr}
    (hC : hp.get? C = some (excClassObj nm qn C nsp bs bm hdc sn sub ab col dd k0 k1 k2 k3 k5 newId))
    (hi : W.Looks (model prog w) hp (typeLookup (.ref C) "__init__") (some (.ref fI))) (hb : ∀ self, W.Looks (model prog w) hp (bindSpecial (.ref fI) self) (.ref fI, [self])) (hz : rest.length ≤ sizeLine)
    (z : codeAny (model prog w) (A.under (.builtin "type.__call__" ⟨.ref C :: rest, []⟩)) (.call (.ref fI) ⟨.ref (hp.objs.size + 1) :: rest, []⟩) (W.InitBack (hp.objs.size + 1) R)
      ⟨(hp.push (W.kdv_tup rest)).push (excO C hp.objs.size), gs, dr, tk, os⟩) :
    codeAny (model prog w) A (.call (.ref C) ⟨rest, []⟩) R ⟨hp, gs, dr, tk, os⟩ := by
  have f1 := tc_lookup
  have f2 := tc_bind (.ref C)
  have f3 : (⟨hp, gs, dr, tk, os⟩ : Shared).TypeIs (.ref C) "type" := ⟨_, hC, rfl⟩
  refine codeAny_of_tree ?_
  show wpAny _ _ (callAny (.ref C) _) _ _ _
  repeat (any_goals (first
    | assumption
    | with_reducible refine wpAny_loadPart_at hC ?_
    | wp_step))
  refine ⟨rfl, ?_⟩
  refine codeAny_call_builtin_at (Code.quiet_builtin _ (by decide +kernel)) entry_typeCall
    (wpAny_check_type_call_sub hC (run_typeCall Fn O hC hi hb hz ?_))
  refine codeAny_mono z fun r s' y => ?_
  rcases r with e | (v | _ | _ | _) <;> exact y
/-- B.__init__(e, ..) of an instance of an own class over B -/
theorem run_init {B nid initId : String} (Fi : ExcClass B nid initId) (hB : (Value.ref C :: bm).contains (.type B) = true) {e t0 : Addr} {rest : List Value}
    (hC : hp.get? C = some (excClassObj nm qn C nsp bs bm hdc sn sub ab col dd k0 k1 k2 k3 k5 newId)) (he : hp.get? e = some (excO C t0)) (hz : rest.length ≤ sizeLine)
    (z : ∀ h' t1, (∀ b o, b ≠ e → hp.get? b = some o → h'.get? b = some o) → h'.get? e = some (excO C t1) → R (.ok (.ret .none)) ⟨h', gs, dr, tk, os⟩) :
    codeAny (model prog w) A (.call (.builtin initId) ⟨.ref e :: rest, []⟩) R ⟨hp, gs, dr, tk, os⟩ := by
  have hs := Fi.notStar
  refine codeAny_call_builtin Fi.init.plain Fi.initEntry ?_
  have chk : ∀ {Q : Unit → Shared → Prop} {A' : Around} {E' : Value → Shared → Prop}, Q () ⟨hp, gs, dr, tk, os⟩ → wpAny (model prog w) A' (checkBuiltinCall initId ⟨.ref e :: rest, []⟩) Q E' ⟨hp, gs, dr, tk, os⟩ := by
    intro Q A' E' y
    simp only [checkBuiltinCall, Fi.initKind, Fi.initSplit, Fi.initSig]
    repeat (first
      | with_reducible refine wpAny_loadPart_at he ?_
      | with_reducible refine wpAny_loadPart_at hC ?_
      | (with_reducible refine wpAny_isSubtype_exc hC ?_; rw [hB])
      | wp_step)
    refine wpAny_onRaise ?_
    rw [show ∀ (a b : String) (n : Nat), Bind.check ⟨.positional, "*", B, .self, [⟨"args", .varPos, false⟩]⟩ a b n (List.map (fun x => x.fst) ({ pos := Value.ref e :: rest } : Args).kw) = pure () from
      fun a b n => check_star_args _ _ _ _ _ _]
    exact wpAny_pure y
  refine chk ?_
  wp_walk
  refine z _ hp.objs.size (fun b o hb ho => ?_) ?_
  · rw [Heap.get?_update_other _ _ (Ne.symm hb)]
    exact Heap.get?_push_of_some _ ho
  · rw [Heap.get?_update_self _ (Heap.get?_push_of_some _ he) rfl]
    rfl
end
end EW
end

section
set_option maxHeartbeats 4000000
namespace EW
open PySem PySem.Spec PyProof.Rows L2 PySem.HandSPX
/-! ### stores into an exception, over the heap -/
section
open Builtin Builtin.ObjectAttr
variable {prog : Program} {w : World} {A : Around} {E : Value → Shared → Prop} {R : Result → Shared → Prop} {hp : Heap} {gs : Array GenState} {dr : Drawn} {tk : Nat} {os : OsState} {K : W.Frag} {B : String} {bmB : List Value}
theorem taker_none {C : Addr} {f : Str} (h : W.findIn K (.ref C) f = some none) : W.takerIn K C f = some none := by
  unfold W.takerIn
  rw [h]
  rfl
/-- the first field: the object gets its dict -/
theorem sto_new {f : Str} {ft : Tok} {v : Value} {x C : Addr} {fv : Array Value} {cd : ClassData} (SF : StoreFacts B bmB "object.__setattr__" "object") (X : K.In hp)
    (hx : hp.get? x = some { cls := .ref C, data := .fields fv }) (hov : W.excOver K C bmB = true) (hcd : W.clsIn K C = some cd) (hh : cd.hasDict = true) (ha : W.findIn K (.ref C) f = some none)
    (z : ∀ h' t' dx, (∀ b o, b ≠ x → hp.get? b = some o → h'.get? b = some o) → hp.objs.size ≤ dx → dx ≠ x → h'.get? x = some { cls := .ref C, dict := some dx, data := .fields fv } →
      h'.Ns1 dx (fun y => if y = f then some v else none) → R (.ok (.ret .none)) ⟨h', gs, dr, t', os⟩) :
    codeAny (model prog w) A (.call (.builtin "object.__setattr__") ⟨[.ref x, .str f ft, v], []⟩) R ⟨hp, gs, dr, tk, os⟩ := by
  have nx : x ≠ hp.objs.size := Nat.ne_of_lt (Heap.lt_size hx)
  have lk : W.Looks (model prog w) hp (classData C) cd := W.looks_clsIn X hcd
  refine W.osa_openX (s := ⟨hp, gs, dr, tk, os⟩) (r := none) (od := none) SF X ⟨hx, rfl, rfl, trivial⟩ hov (taker_none ha) (fun bb => ?_)
  show wpAny _ _ (storeInOwnDict (.ref x) (.ref C) (.str f ft) f v bb) _ _ _
  obtain ⟨c1, c2, c3, c4, c5, c6, c7, c8, c9, c10, c11⟩ := cd
  dsimp only at hh
  subst hh
  unfold storeInOwnDict ownDictForStores
  repeat (first
    | with_reducible refine store_in_new ?_ ?_
    | with_reducible refine wpAny_loadPart_at hx ?_
    | with_reducible refine lk.at ?_
    | wp_step)
  · exact ⟨_, #[], _, (Heap.get?_update_ne _ _ _ _ nx.symm).trans (Heap.get?_push_at rfl rfl), rfl,
      fun e he => absurd he (by simp), fun _ => rfl⟩
  · intro h' t' hn hs
    have hx1 : (hp.push { cls := .type "dict", data := .dict #[] }).get? x = some { cls := .ref C, data := .fields fv } :=
      Heap.get?_push_of_some _ hx
    refine z h' t' hp.objs.size (fun b o hb ho => ?_) (Nat.le_refl _) nx.symm ?_ hn
    · exact (hs.2 b (Nat.ne_of_lt (Heap.lt_size ho))).trans
        ((Heap.get?_update_ne _ _ _ _ hb).trans (Heap.get?_push_of_some _ ho))
    · exact (hs.2 x nx).trans (Heap.get?_update_self _ hx1 rfl)
/-- a further field -/
theorem sto_old {f : Str} {ft : Tok} {v : Value} {x C dx : Addr} {fv : Array Value} {cd : ClassData} {m0 : Str → Option Value} {nl : List Str} (SF : StoreFacts B bmB "object.__setattr__" "object") (X : K.In hp)
    (hx : hp.get? x = some { cls := .ref C, dict := some dx, data := .fields fv }) (hns : hp.Ns1 dx m0) (hw : Within m0 nl) (hz : nl.length ≤ 1000) (hov : W.excOver K C bmB = true) (hcd : W.clsIn K C = some cd) (hh : cd.hasDict = true) (ha : W.findIn K (.ref C) f = some none)
    (z : ∀ h' t', (∀ b o, b ≠ dx → hp.get? b = some o → h'.get? b = some o) → h'.Ns1 dx (fun y => if y = f then some v else m0 y) → R (.ok (.ret .none)) ⟨h', gs, dr, t', os⟩) :
    codeAny (model prog w) A (.call (.builtin "object.__setattr__") ⟨[.ref x, .str f ft, v], []⟩) R ⟨hp, gs, dr, tk, os⟩ := by
  obtain ⟨oD, esD, epD, hoD, hdD, _⟩ := hns.count hw
  have lk : W.Looks (model prog w) hp (classData C) cd := W.looks_clsIn X hcd
  refine W.osa_openX (s := ⟨hp, gs, dr, tk, os⟩) (r := none) (od := some oD) SF X ⟨hx, rfl, rfl, hoD⟩ hov (taker_none ha) (fun bb => ?_)
  show wpAny _ _ (storeInOwnDict (.ref x) (.ref C) (.str f ft) f v bb) _ _ _
  obtain ⟨c1, c2, c3, c4, c5, c6, c7, c8, c9, c10, c11⟩ := cd
  dsimp only at hh
  subst hh
  unfold storeInOwnDict ownDictForStores
  repeat (first
    | with_reducible refine PySem.OEX.store_in_old hns hw hz ?_
    | with_reducible refine wpAny_loadPart_at hx ?_
    | with_reducible refine lk.at ?_
    | wp_step)
  intro h' t' hn hs
  exact z h' t' (fun b o hb ho => (hs.2 b hb).trans ho) hn
end
/-! ### what the written part says of such a class -/
/-- as of any own exception class: isinstance, attributes -/
structure XIs (K : W.Frag) (C : Addr) : Prop where
  cl : (W.clsIn K C).isSome = true
  ga : W.findIn K (.ref C) "__getattribute__" = some (some (.builtin "BaseException.__getattribute__"))
  gg : W.findIn K (.ref C) "__getattr__" = some none
  be : W.subIn K (.ref C) (.type "BaseException") = some true
  ca : W.findIn K (.ref C) "__class__" = some (some (.builtin "object.__class__"))
  hn : W.specialIn K (.builtin "object.__class__") "__get__" = some (some (.builtin "getset_descriptor.__get__"))
  ht : W.takesIn K (.builtin "object.__class__") = some true
  mo : W.mroIn K C (.type "object") = some true
def xisB (K : W.Frag) (C : Addr) : Bool := (W.clsIn K C).isSome
  && decide (W.findIn K (.ref C) "__getattribute__" = some (some (.builtin "BaseException.__getattribute__")))
  && decide (W.findIn K (.ref C) "__getattr__" = some none) && decide (W.subIn K (.ref C) (.type "BaseException") = some true)
  && decide (W.findIn K (.ref C) "__class__" = some (some (.builtin "object.__class__")))
  && decide (W.specialIn K (.builtin "object.__class__") "__get__" = some (some (.builtin "getset_descriptor.__get__")))
  && decide (W.takesIn K (.builtin "object.__class__") = some true) && decide (W.mroIn K C (.type "object") = some true)
theorem xisB_ok {K : W.Frag} {C : Addr} (h : xisB K C = true) : XIs K C := by
  unfold xisB at h
  simp only [Bool.and_eq_true, decide_eq_true_eq] at h
  obtain ⟨⟨⟨⟨⟨⟨⟨h1, h2⟩, h3⟩, h4⟩, h5⟩, h6⟩, h7⟩, h8⟩ := h
  exact ⟨h1, h2, h3, h4, h5, h6, h7, h8⟩
/-- of one whose __init__ is its own: over B, made by newId of Bn -/
structure XMk (K : W.Frag) (C fI : Addr) (bmB : List Value) (newId : String) : Prop where
  mkr : W.excInitIn K C bmB newId = true
  ov : W.excOver K C bmB = true
  hd : W.hasDictIn K C = true
  sa : W.findIn K (.ref C) "__setattr__" = some (some (.builtin "object.__setattr__"))
  kp : W.keepIn K (.ref C) = true
  ini : W.findIn K (.ref C) "__init__" = some (some (.ref fI))
  tyI : W.typeIn K (.ref fI) = some (.type "function")
def xmkB (K : W.Frag) (C fI : Addr) (bmB : List Value) (newId : String) : Bool := W.excInitIn K C bmB newId && W.excOver K C bmB && W.hasDictIn K C
  && decide (W.findIn K (.ref C) "__setattr__" = some (some (.builtin "object.__setattr__"))) && W.keepIn K (.ref C)
  && decide (W.findIn K (.ref C) "__init__" = some (some (.ref fI))) && decide (W.typeIn K (.ref fI) = some (.type "function"))
theorem xmkB_ok {K : W.Frag} {C fI : Addr} {bmB : List Value} {newId : String} (h : xmkB K C fI bmB newId = true) : XMk K C fI bmB newId := by
  unfold xmkB at h
  simp only [Bool.and_eq_true, decide_eq_true_eq] at h
  obtain ⟨⟨⟨⟨⟨⟨h1, h2⟩, h3⟩, h4⟩, h5⟩, h6⟩, h7⟩ := h
  exact ⟨h1, h2, h3, h4, h5, h6, h7⟩
theorem ref_contains {C : Addr} {bm bmB : List Value} (h : ∀ X : String, bm.contains (.type X) = bmB.contains (.type X)) (T : String) : (Value.ref C :: bm).contains (.type T) = bmB.contains (.type T) := by
  rw [List.contains_cons, h]
  rfl
section
variable {X : Cx} {pins : List (Addr × Obj)} {σ : L2.St} {H : Hp} {s : Shared} {a C fI dx : Addr} {f : Str} {y : V} {u : Value} {fs : List (Str × V)} {Q : Unit → Shared → Prop} {E : Value → Shared → Prop} {A : Around} {B newId : String} {bmB : List Value}
/-- self.f = y, the first one -/
theorem fld_new (T : XMk X.K C fI bmB newId) (SF : StoreFacts B bmB "object.__setattr__" "object") (I : Inv X pins σ H s) (e : H a = some (exo a C none)) (hno : W.findIn X.K (.ref C) f = some none) (ry : RelV y u)
    (h : ∀ dx s', H dx = none → dx ≠ a → Inv X pins σ (upd (upd H dx (exd dx [(f, y)])) a (exo a C (some dx))) s' → Q () s') : wpAny (model X.prog X.w) A (setAttr (.ref a) f u) Q E s := by
  obtain ⟨cd, hcd, hh⟩ := W.any_some T.hd
  obtain ⟨t1, ho⟩ := exo_at I.hok e
  obtain ⟨hp, g, d, t, os⟩ := s
  refine W.set_plain I.kIn (ox := { cls := .ref C, dict := none, data := .fields #[.ref t1, .none, .none, .none, .bool false, .none] }) (od := none) ⟨ho, rfl, rfl, trivial⟩ T.sa ?_
  refine sto_new SF I.kIn ho T.ov hcd hh hno (fun h' t' dx k dn dne hx hn => ?_)
  have fd : H dx = none := I.hok.fresh dn
  have nd : ∀ {b : Addr} {o : Obj}, hp.get? b = some o → b ≠ dx := fun {b o} q => Nat.ne_of_lt (Nat.lt_of_lt_of_le (Heap.lt_size q) dn)
  have na : ∀ {b : Addr}, H b = none → b ≠ a := fun {b} n z => by
    rw [z, e] at n
    cases n
  refine h dx _ fd dne (I.un (t' := t') (H' := upd (upd H dx (exd dx [(f, y)])) a (exo a C (some dx))) (h' := h') ?_ fun b o q => ?_)
  · constructor
    · exact fun b o q n _ _ => k b o (na n) q
    · exact fun b o q n _ _ => ⟨o.slots, k b o (na n) q⟩
    · exact fun b o q n _ => by
        rw [upd_ne (na n), upd_ne (nd q)]
        exact n
    · exact fun b o q _ => by
        by_cases hb : b = a
        · exact ⟨_, by rw [hb]; exact hx⟩
        · exact ⟨o, k b o hb q⟩
    · exact fun b xs q => by
        rw [upd_ne (at_ne e q exo_tup), upd_ne (ne_of_none q fd)]
        exact q
    · exact fun b o v q => by
        rw [upd_ne (at_ne e q exo_frz), upd_ne (ne_of_none q fd)]
        exact q
    · exact fun b ps q => ⟨#[], by
        rw [upd_ne (at_ne e q exo_tbl), upd_ne (ne_of_none q fd), q]
        simp⟩
  · by_cases hb : b = a
    · subst hb
      rw [upd_same] at q
      cases q
      exact exo_ok hx
    · rw [upd_ne hb] at q
      by_cases hd : b = dx
      · subst hd
        rw [upd_same] at q
        cases q
        exact exd_ok hn (relO_put (fs := []) ry fun g => True.intro)
      · rw [upd_ne hd] at q
        refine (I.hok b o q).stay (fun c v hc z => k c v ?_ z) (fun c hc => ?_) (fun c xs hc => ?_)
        · rcases hc with hc | hc
          · rw [hc]
            exact hb
          · exact at_ne e hc exo_own
        · rw [upd_ne (at_ne e hc exo_own), upd_ne (ne_of_none hc fd)]
          exact hc
        · rw [upd_ne (at_ne e hc exo_tup), upd_ne (ne_of_none hc fd)]
          exact hc
/-- self.f = y, a further one -/
theorem fld_old (T : XMk X.K C fI bmB newId) (SF : StoreFacts B bmB "object.__setattr__" "object") (I : Inv X pins σ H s) (e : H a = some (exo a C (some dx))) (ed : H dx = some (exd dx fs)) (hl : fs.length ≤ 900) (hno : W.findIn X.K (.ref C) f = some none) (ry : RelV y u)
    (h : ∀ s', Inv X pins σ (upd H dx (exd dx ((f, y) :: fs))) s' → Q () s') : wpAny (model X.prog X.w) A (setAttr (.ref a) f u) Q E s := by
  obtain ⟨cd, hcd, hh⟩ := W.any_some T.hd
  obtain ⟨t1, ho⟩ := exo_at I.hok e
  obtain ⟨mA, hns, rel⟩ := exd_at I.hok ed
  have hw := within_of rel
  obtain ⟨hp, g, d, t, os⟩ := s
  obtain ⟨oD, _, _, hoD, _, _⟩ := hns.count hw
  refine W.set_plain I.kIn (ox := { cls := .ref C, dict := some dx, data := .fields #[.ref t1, .none, .none, .none, .bool false, .none] }) (od := some oD) ⟨ho, rfl, rfl, hoD⟩ T.sa ?_
  refine sto_old SF I.kIn ho hns hw (by rw [List.length_map]; omega) T.ov hcd hh hno (fun h' t' k hn => ?_)
  have there : ∃ o, h'.get? dx = some o := by
    obtain ⟨o, _, _, e', _⟩ := hn
    exact ⟨o, e'⟩
  refine h _ (I.write (t' := t') (x := dx) (e := dx) (o := exd dx ((f, y) :: fs)) ?_ (.inl rfl) k there (exd_ok hn (relO_put ry rel)))
  rw [ed]
  exact True.intro
/-- B.__init__(self, ..): nothing of it is told -/
theorem base_init {us : List Value} {Q : Value → Shared → Prop} {nid initId : String} (T : XMk X.K C fI bmB newId) (Fi : ExcClass B nid initId) (hB : bmB.contains (.type B) = true) (I : Inv X pins σ H s) (e : H a = some (exo a C none)) (hl : us.length ≤ sizeLine) (h : ∀ s', Inv X pins σ H s' → Q .none s') :
    wpAny (model X.prog X.w) A (call (.builtin initId) (.ref a :: us)) Q E s := by
  obtain ⟨nm, N, qn, bs, bm, hdc, sn, sub, ab, col, dd, k0, k1, k2, k3, k5, hC, hbm⟩ := W.excInit_of I.kIn T.mkr
  obtain ⟨t1, ho⟩ := exo_at I.hok e
  obtain ⟨hp, g, d, t, os⟩ := s
  refine wpAny_call (run_init Fi ((ref_contains hbm B).trans hB) hC ho hl fun h' t2 k hx => ?_)
  have J := I.write (t' := t) (x := a) (e := a) (o := exo a C none) (by rw [e]; exact True.intro) (.inl rfl) k ⟨_, hx⟩ (exo_ok hx)
  have eu : upd H a (exo a C none) = H := by
    funext b
    by_cases hb : b = a
    · rw [hb, upd_same, e]
    · rw [upd_ne hb]
  rw [eu] at J
  exact h _ J
end
end EW
end

section
set_option maxHeartbeats 4000000
namespace EW
open PySem PySem.Spec PyProof.Rows L2 PySem.HandSPX
/-! ### rules: an exception made by its own __init__, its fields, isinstance -/
/-- B.__init__(self, ..) -/
def tBInit (C : Addr) (ta : TA) : TE := fun σ H Q => ta σ H fun vs H1 => ∃ (a : Addr) (ws : List V), vs = .ref a :: ws ∧ ws.length ≤ 1000 ∧ H1 a = some (exo a C none) ∧ Q .non H1
/-- self.f = e -/
def tXst (C : Addr) (f : Str) (to te : TE) : TS := fun D σ H => te σ H fun y H1 => to σ H1 fun x H2 => ∃ a : Addr, x = .ref a ∧
  ((H2 a = some (exo a C none) ∧ ∀ dx, H2 dx = none → dx ≠ a → D.nx σ (upd (upd H2 dx (exd dx [(f, y)])) a (exo a C (some dx)))) ∨
    ∃ (dx : Addr) (fs : List (Str × V)), H2 a = some (exo a C (some dx)) ∧ H2 dx = some (exd dx fs) ∧ fs.length ≤ 900 ∧ D.nx σ (upd H2 dx (exd dx ((f, y) :: fs))))
/-- C(e, ..) as a value -/
def tMkX (C : Addr) (sp : Sp) (ta : TA) : TE := fun σ H Q => ta σ H fun vs H1 => vs.length ≤ 1000 ∧ ∀ a, H1 a = none →
  sp (.ref a :: vs) (upd H1 a (exo a C none)) (fun v H2 => v = .non ∧ Q (.ref a) H2) (fun _ _ _ => False)
/-- an exception object of the class at C stands at a -/
def ExcAt (H : Hp) (a C : Addr) : Prop := H a = some (ExO (.ref C) a) ∨ ∃ (d : Addr) (fs : List (Str × V)), H a = some (exo a C (some d)) ∧ H d = some (exd d fs)
/-- isinstance(x, c) of such an object -/
def rIsX (K : W.Frag) : List V → Hp → VK → Prop := fun xs H Q => ∃ (a C : Addr) (c : V) (u : Value) (b : Bool), xs = [.ref a, c] ∧ ClsV c u ∧ XIs K C ∧ ExcAt H a C ∧ W.kitOne K (.ref C) u = some b ∧ Q (.bl b) H
/-- x.f of one with fields -/
def tXfl (K : W.Frag) (f : Str) (te : TE) : TE := fun σ H Q => te σ H fun x H1 => ∃ (a C d : Addr) (fs : List (Str × V)) (v : V), x = .ref a ∧ XIs K C ∧ W.hasDictIn K C = true ∧ W.findIn K (.ref C) f = some none ∧
  H1 a = some (exo a C (some d)) ∧ H1 d = some (exd d fs) ∧ fs.lookup f = some v ∧ Q v H1
section
variable {X : Cx} {o e : Expr} {es : List Expr} {to te : TE} {ta : TA} {f : Str} {p p' p1 p2 pos : Pos} {B newId : String} {bmB : List Value} {C fI : Addr}
theorem pe_binit {pl : Sem Bool} {b : Str} {nid initId : String} (T : XMk X.K C fI bmB newId) (Fi : ExcClass B nid initId) (hB : bmB.contains (.type B) = true) (hg : Gl X b) (hm : X.mg b = none) (hv : bootBuiltins b = some (.type B))
    (ty : typeOf (.type B) = pure (.type "type")) (st : Manifest.isStub B = false) (vV : W.findCls X.K (.type B) (.type "type") "__init__" = some (.val (.builtin initId))) (hh : W.handedIn (Value.builtin initId) = true) (ha : PA X (e :: es) ta)
    (hc : eval (.Call (.Attribute (.Name b p1) "__init__" p2) (e :: es) [] pos) X.env = (do
      let ov ← eval (.Name b p1) X.env
      standAt p2.atName
      let (fn, first) ← holding [ov] (getMethod ov "__init__" pl)
      callWith pos fn first (backTo pos (starEach (e :: es) X.env)) (backToKw pos (keywordEach [] X.env))) := by rfl)
    (he : starEach (e :: es) X.env = (false, eval e X.env) :: starEach es X.env := by rfl) (hpl : (backTo pos (starEach es X.env)).any (·.1) = false := by rfl)
    (hn : b ≠ "__name__" := by decide) (hdb : (b == ("__debug__" : Str)) = false := by decide) :
    PE X (.Call (.Attribute (.Name b p1) "__init__" p2) (e :: es) [] pos) (tBInit C ta) := by
  refine ⟨fun pins s σ H Q I h => ?_⟩
  refine W.methodCall_KW (ld_blt I hg hm hv ?_ hn hdb) hc
  obtain ⟨m, fr⟩ := I.fr
  refine W.method_type fr I.ok.mod.kin ty st vV hh ?_
  show wpAny _ _ (callWith pos (Value.builtin initId) [] (backTo pos (starEach (e :: es) X.env)) []) _ _ _
  refine callWith_method1 (thn (ha.run pos pins _ σ H _ (I.tok _) h) fun us s1 hq => ?_) he hpl
  obtain ⟨vs, H1, I1, r1, a, ws, ev, hl, ea, q⟩ := hq
  subst ev
  cases r1 with
  | @cons _ u0 _ ur ra rr =>
    obtain rfl : u0 = Value.ref a := ra
    have hlen : ur.length ≤ sizeLine := by
      rw [← Paired.length rr, sizeLine_eq]
      omega
    exact base_init T Fi hB I1 ea hlen fun s' J => ⟨.non, H1, J, rfl, q⟩
theorem ps_xst (T : XMk X.K C fI bmB newId) (SF : StoreFacts B bmB "object.__setattr__" "object") (hno : W.findIn X.K (.ref C) f = some none) (ho : PE X o to) (he : PE X e te)
    (hs : swapsWith e (some (.Attribute o f p')) pos.line X.env = pure false := by rfl) : PS X (.Assign [.Attribute o f p'] e pos) (tXst C f to te) := by
  refine ⟨fun pins s σ H D I h => ?_⟩
  refine plainObj_wpAny_Assign_Attribute (thn (he.run pins s σ H _ I h) fun v s1 hq => ?_) hs
  obtain ⟨y, H1, I1, r1, q1⟩ := hq
  refine thn (ho.run pins s1 σ H1 _ I1 q1) fun u s2 hq => ?_
  obtain ⟨x, H2, I2, r2, a, ex, q⟩ := hq
  subst ex
  obtain rfl : u = Value.ref a := r2
  rcases q with ⟨ea, q⟩ | ⟨dx, fs, ea, ed, hl, q⟩
  · exact fld_new T SF I2 ea hno r1 fun dx s' n ne J => ⟨σ, _, J, q dx n ne⟩
  · exact fld_old T SF I2 ea ed hl hno r1 fun s' J => ⟨σ, _, J, q⟩
theorem inst_of {pins : List (Addr × Obj)} {σ : L2.St} {H : Hp} {s : Shared} {a : Addr} (I : Inv X pins σ H s) (h : ExcAt H a C) : ∃ (ox : Obj) (od : Option Obj), W.InstAt s.heap a ox C od := by
  rcases h with h | ⟨d, fs, h1, h2⟩
  · obtain ⟨⟨oe, vs, ho, hz, hd, _⟩, _, _⟩ := I.hok a _ h
    obtain ⟨oc, od, oda, osl⟩ := oe
    obtain ⟨z1, z2⟩ := hz
    dsimp only at z1 z2 hd
    subst z1 z2 hd
    exact ⟨_, none, ho, rfl, rfl, trivial⟩
  · obtain ⟨t1, ho⟩ := exo_at I.hok h1
    obtain ⟨mA, ⟨od, es', ep, h3, _⟩, _⟩ := exd_at I.hok h2
    exact ⟨_, some od, ho, rfl, rfl, h3⟩
theorem call_isX : CallR X (.builtin "isinstance") (rIsX X.K) := by
  intro pins s σ H xs us Q I r h
  obtain ⟨a, D, c, u, b, rfl, k, T, ea, e, q⟩ := h
  obtain ⟨u1, u2, rfl, r1, r2⟩ := vals2 r
  have e2 := k.eq r2
  subst e2
  cases (show u1 = Value.ref a from r1)
  obtain ⟨ox, od, J⟩ := inst_of I ea
  exact W.kia_one (W.kitx_exc T.cl T.ga T.gg T.be T.ca T.hn T.ht T.mo) I.kIn J e (fun z => nomatch z) fun tk => ⟨.bl b, H, I.tok tk, rfl, q⟩
theorem pe_xfl (he : PE X e te) (hb : attributeBase e f X.env (eval e X.env) = eval e X.env := by rfl) : PE X (.Attribute e f pos) (tXfl X.K f te) := by
  refine ⟨fun pins s σ H Q I h => ?_⟩
  refine attr_of hb (thn (he.run pins s σ H _ I h) fun u s1 hq => ?_)
  obtain ⟨x, H1, I1, rx, a, D, d, fs, v, ex, T, hd, hno, h1, h2, hl, q⟩ := hq
  subst ex
  obtain rfl : u = Value.ref a := rx
  obtain ⟨t1, ho⟩ := exo_at I1.hok h1
  obtain ⟨mA, hns, rel⟩ := exd_at I1.hok h2
  obtain ⟨od, hod, hlk⟩ := lookIn_ns hns
  have rf := rel f
  rw [hl] at rf
  obtain ⟨z, hz, rz⟩ := RelO.some_of rf
  have J : W.InstAt s1.heap a { cls := .ref D, dict := some d, data := .fields #[.ref t1, .none, .none, .none, .bool false, .none] } D (some od) := ⟨ho, rfl, rfl, hod⟩
  exact exc_get I1.kIn J T.ga T.gg T.be (W.findObj_own hd hno rfl (by rw [hlk, hz])) (handed_of rz) ⟨v, H1, I1.tok _, rz, q⟩
theorem pe_mkX {CX : CXT} {x : Str} {k : Nat} {fd : FuncData} {ps : List Str} {sp : Sp} {Bn inN : String} {bmN : List Value} (T : XMk X.K C fI bmB newId) (Fn : ExcBaseFacts Bn newId inN bmN) (hB : bmB.contains (.type Bn) = true) (hA : bmB.contains (.type "AttributeError") = false) (hN : bmB.contains (.type "NameError") = false)
    (F1 : FnOk X.prog X.w X.K X.mg X.base CX k fI fd ps sp) (hr : Room (k + 1) X.A) (hb : Binds X.K fd ps []) (hx : Passes CX X (fun _ _ _ => False)) (hg : Gl X x) (hm : X.mg x = some (.ref C)) (ha : PA X (e :: es) ta)
    (hdb : (x == ("__debug__" : Str)) = false := by decide) (he : starEach (e :: es) X.env = (false, eval e X.env) :: starEach es X.env := by rfl) (hpl : (backTo pos (starEach es X.env)).any (·.1) = false := by rfl) :
    PE X (.Call (.Name x p) (e :: es) [] pos) (tMkX C sp ta) := by
  refine ⟨fun pins s σ H Q I h => ?_⟩
  refine wpAny_Call_Name_kw (ld_glob I hg hm ?_ hdb)
  refine W.callWith_K (h₀ := X.base) I.ok.mod.kin T.kp (thn (ha.run pos pins s σ H _ I h) fun us s1 hq => ?_) he hpl
  obtain ⟨vs, H1, I1, r1, hz, q1⟩ := hq
  refine ⟨I1.kIn, ?_⟩
  show wpAny _ _ (call (.ref C) us) _ _ _
  obtain ⟨nm, N, qn, bs, bm, hdc, sn, sub, ab, col, dd, k0, k1, k2, k3, k5, hC, hbm⟩ := W.excInit_of I1.kIn T.mkr
  have O : NewOk C bm Bn := ⟨(ref_contains hbm _).trans hB, (ref_contains hbm _).trans hA, (ref_contains hbm _).trans hN⟩
  obtain ⟨hp, g, dr, tk, os⟩ := s1
  have hn : H1 (hp.objs.size + 1) = none := I1.hok.fresh (Nat.le_succ _)
  have sz := q1 (hp.objs.size + 1) hn
  have kk : ∀ b o, hp.get? b = some o → ((hp.push (W.kdv_tup us)).push (excO C hp.objs.size)).get? b = some o :=
    fun b o z => Heap.get?_push_of_some _ (Heap.get?_push_of_some _ z)
  have hget : ((hp.push (W.kdv_tup us)).push (excO C hp.objs.size)).get? (hp.objs.size + 1) = some (excO C hp.objs.size) := by
    heap_get
  have I2 : Inv X pins σ (upd H1 (hp.objs.size + 1) (exo (hp.objs.size + 1) C none)) ⟨(hp.push (W.kdv_tup us)).push (excO C hp.objs.size), g, dr, tk, os⟩ :=
    I1.laid (t' := tk) kk (Nat.le_succ _) (exo_ok hget)
  have r2 : Vals (V.ref (hp.objs.size + 1) :: vs) (Value.ref (hp.objs.size + 1) :: us) := .cons rfl r1
  have hl : (Value.ref (hp.objs.size + 1) :: us ++ []).length = ps.length := by
    have z := r2.length
    rw [F1.len _ _ _ _ sz] at z
    rw [List.append_nil]
    exact z.symm
  have hus : us.length ≤ sizeLine := by
    rw [← Paired.length r1, sizeLine_eq]
    omega
  have bb := hb _ (Value.ref (hp.objs.size + 1) :: us) I2.kIn hl
  rw [List.append_nil] at bb
  refine wpAny_call (run_make Fn O hC (W.looks_findIn I1.kIn T.ini) (fun self => W.bind_fn I1.kIn self T.tyI) hus
    (codeAny_mono (F1.run _ X.stack _ _ ⟨Value.ref (hp.objs.size + 1) :: us, []⟩ (Value.ref (hp.objs.size + 1) :: us) _ _ (fun _ _ _ => False) (hr.make C us []) (I2.env0.make C us []) bb r2 sz) fun r s' z => ?_))
  cases r with
  | error er => exact hx pins σ _ _ er s' I2 z
  | ok fl =>
    cases fl with
    | ret u =>
      obtain ⟨v, H2, os2, bare2, un2, hok2, rv, ev, q2⟩ := z
      subst ev
      have J := I2.after (Q := fun _ H' => Q (V.ref (hp.objs.size + 1)) H') (u := u) (s' := s') ⟨V.non, H2, os2, bare2, un2, hok2, rv, q2⟩
      obtain ⟨v', H3, I3, _, q3⟩ := J
      exact ⟨rv, V.ref (hp.objs.size + 1), H3, I3, rfl, q3⟩
    | next => exact False.elim z
    | brk => exact False.elim z
    | cont => exact False.elim z
end
end EW
end

section
set_option maxHeartbeats 4000000
namespace EW
open PySem PySem.Spec PyProof.Rows L2
/-! ### defs that call repr of data: nothing is being shown around them -/
structure FnG (P : Program) (w : World) (K : W.Frag) (mg : Str → Option Value) (base : Heap) (CX : CXT) (k : Nat) (f : Addr) (fd : FuncData) (ps : List Str) (sp : Sp) : Prop where
  len : ∀ vs H Q E, sp vs H Q E → vs.length = ps.length
  run : ∀ (A : Around) (outer : List Env) (s : Shared) (H : Hp) (args : Args) (us : List Value) (vs : List V) (Q : VK) (E : XK), Room k A → A.guards = some [] → Env0 P w K mg base A outer s H → BindsTo s fd args (ps.zip us) → Vals vs us → sp vs H Q E →
    codeAny (model P w) A (.call (.ref f) args) (CR CX outer P w H s Q E) s
theorem FnG.of {P : Program} {w : World} {K : W.Frag} {mg : Str → Option Value} {base : Heap} {CX : CXT} {k : Nat} {f : Addr} {fd : FuncData} {ps : List Str} {sp : Sp} (F : FnOk P w K mg base CX k f fd ps sp) : FnG P w K mg base CX k f fd ps sp :=
  ⟨F.len, fun A outer s H args us vs Q E hr _ e0 hb r hs => F.run A outer s H args us vs Q E hr e0 hb r hs⟩
/-- THE RULE for such a def -/
theorem okG {P : Program} {w : World} {K : W.Frag} {mg : Str → Option Value} {base : Heap} {CX : CXT} {x qual : Str} {params : Arguments} {body : List Stmt} {scope : Scope} {dvs : List V} {kws : List (Str × V)} {f : Addr} {fd : FuncData} {N ps : List Str} {k : Nat} {sp : Sp}
    (F : FunD K x qual params body scope dvs kws f fd) (S : FnScope N ps scope) (len : ∀ vs H Q E, sp vs H Q E → vs.length = ps.length)
    (hbody : ∀ (cdv : Value) (A : Around) (outer : List Env) (s : Shared) (H : Hp) (vs : List V) (Q : VK) (E : XK), Room k (A.deeper (envOfC qual scope s.heap.objs.size f cdv)) → A.guards = some [] → sp vs H Q E →
      ∃ t, PSs (cxOf CX P w K mg base N qual scope f cdv A outer s H E) body t ∧ t { nx := fun _ H' => Q .non H', rt := Q } (start N vs) H) : FnG P w K mg base CX (k + 1) f fd ps sp := by
  obtain ⟨oc, od, dV, kV, doc, pm, an, cdv, ct, osl, rfl, lk, hcd, _, _⟩ := F.ex
  refine ⟨len, fun A outer s H args us vs Q E hr hg e0 hb r hsp => ?_⟩
  have hl := len _ _ _ _ hsp
  have ke := fun b o e => (e0.bs b o e).1
  have KX : K.In s.heap := e0.mod.kin.keeps ke
  have lim : s.heap.NoLimit := e0.mod.nolimit.keeps ke
  refine codeAny_call_function hr.depth (KX _ _ lk) rfl S.co S.gen rfl (W.codeRec_of KX hcd) (hb _ _ _ _ ?_)
  refine wpAny_newFunctionEnv_cells S.kind (fun y hy => ?_) fun env he s1 xc => ?_
  · obtain ⟨n, v⟩ := y
    rcases S.par n (List.of_mem_zip hy).1 with q | q
    · exact .inl q
    · exact .inr ⟨q, W.cellsFrom_some _ _ _ (.inl q)⟩
  · subst he
    refine ⟨lim.keeps xc.toInCall.keep, codeAny_func ?_⟩
    obtain ⟨t, ht, hq⟩ := hbody cdv A outer s H vs Q E (hr.deeper _) hg hsp
    have I : Inv (cxOf CX P w K mg base N qual scope f cdv A outer s H E) [] (start N vs) H s1 := inv_start S hr.hd e0 hl r xc
    refine wpAny_mono (ht.run [] s1 (start N vs) H _ I hq) (fun fl s' hs => ?_) fun e s' hs => hs
    cases fl with
    | ret u =>
      obtain ⟨v, σ', H', J, rv, q⟩ := hs
      exact ⟨v, H', J.os, J.bare, J.base, J.hok, rv, q⟩
    | next =>
      obtain ⟨σ', H', J, q⟩ := hs
      exact ⟨V.non, H', J.os, J.bare, J.base, J.hok, rfl, q⟩
    | brk =>
      obtain ⟨_, _, _, q⟩ := hs
      exact False.elim q
    | cont =>
      obtain ⟨_, _, _, q⟩ := hs
      exact False.elim q
section
variable {X : Cx} {CX : CXT} {k : Nat} {f : Addr} {fd : FuncData} {ps : List Str} {sp : Sp} {E : XK} {x : Str} {p pos : Pos} {e : Expr} {es : List Expr} {t : TA}
theorem pe_callG (F : FnG X.prog X.w X.K X.mg X.base CX k f fd ps sp) (hr : Room k X.A) (hG : X.A.guards = some []) (hg : Gl X x) (hm : X.mg x = some (.ref f)) (hk : W.keepIn X.K (.ref f) = true) (hb : Binds X.K fd ps []) (hx : Passes CX X E)
    (ha : PA X (e :: es) t) (hdb : (x == ("__debug__" : Str)) = false := by decide) (he : starEach (e :: es) X.env = (false, eval e X.env) :: starEach es X.env := by rfl) (hpl : (backTo pos (starEach es X.env)).any (·.1) = false := by rfl) :
    PE X (.Call (.Name x p) (e :: es) [] pos) (tCall sp [] E t) := by
  refine ⟨fun pins s σ H Q I h => ?_⟩
  refine wpAny_Call_Name_kw (ld_glob I hg hm ?_ hdb)
  refine W.callWith_K (h₀ := X.base) I.ok.mod.kin hk (thn (ha.run pos pins s σ H _ I h) fun us s1 hq => ?_) he hpl
  obtain ⟨vs, H1, I1, r, q⟩ := hq
  refine ⟨I1.kIn, ?_⟩
  rw [List.append_nil] at q
  have hl : us.length = ps.length := by
    rw [← r.length]
    exact F.len _ _ _ _ q
  have bb := hb s1 us I1.kIn (by rw [List.append_nil]; exact hl)
  rw [List.append_nil] at bb
  show wpAny _ _ (call (.ref f) us) _ _ _
  refine wpAny_call (codeAny_mono (F.run X.A X.stack s1 H1 ⟨us, []⟩ us vs Q E hr hG I1.env0 bb r q) fun r s' z => ?_)
  cases r with
  | error er => exact hx pins σ H1 s1 er s' I1 z
  | ok fl =>
    cases fl with
    | ret u => exact I1.after z
    | next => exact False.elim z
    | brk => exact False.elim z
    | cont => exact False.elim z
/-- repr of lists and tuples of data -/
def rRepr (K : W.Frag) : List V → Hp → VK → Prop := fun xs H Q => ∃ (a : Addr) (d : PyData), xs = [.ref a] ∧ Dp K H (.ref a) d ∧ d.showable = true ∧ d.hasDict = false ∧ d.depth ≤ 60 ∧ d.shown.length ≤ sizeLine ∧ Q (.str d.shown) H
theorem call_repr (hG : X.A.guards = some []) (hr : Room k X.A) : CallR X (.builtin "repr") (rRepr X.K) := by
  intro pins s σ H xs us Q I r h
  obtain ⟨a, d, rfl, hd, hs, hn, hp, hz, q⟩ := h
  cases r with
  | cons rx rn =>
    cases rn
    obtain ⟨as, r1⟩ := Dp.reads I d (.ref a) _ hd rx
    obtain rfl := rx
    have hu := hr.un
    exact repr_of_reads' r1 hs (fun z => by rw [hn] at z; cases z) hG (by omega) (fun _ _ z => z)
      (fun h' u tk hk => ⟨.str d.shown, H, I.kept (t' := tk) hk, ⟨u, rfl⟩, q⟩) hz
end
/-- the law's call, by such a promise; the script's bits are told -/
theorem law_callG {P : Program} {w : World} {K : W.Frag} {mg mb : Str → Option Value} {CX : CXT} {k : Nat} {fa a : Addr} {fd : FuncData} {x : Str} {sp : Sp} {s₁ : Shared} {vs : List Value} {ns : List Int}
    (KX : K.In s₁.heap) (hns : s₁.heap.Ns mainGlobals mg) (hb : s₁.heap.Ns builtinsNs mb) (hbb : ∀ x : Str, x ≠ "__name__" → mb x = bootBuiltins x) (hlim : s₁.heap.NoLimit) (hg : s₁.gens = #[])
    (ha : s₁.heap.get? a = some { cls := .type "list", data := .seq vs.toArray }) (hi : IntsAre vs ns) (hl : ns.length ≤ sizeLine) (hr : Room k callerA)
    (F : ∀ base : Heap, K.In base → base.Ns mainGlobals mg → FnG P w K mg base CX k fa fd [x] sp) (hbind : ∀ (s : Shared) (u : Value), BindsTo s fd ⟨[u], []⟩ [(x, u)])
    (hsp : ∀ H : Hp, SqL K H a (ns.map V.int) → sp [.ref a] H (fun v _ => v = .bl true) fun _ _ _ => False)
    (hCX : ∀ H e s', CX [] H s₁ (fun _ _ _ => False) e s' → False) :
    codeAny (model P w) callerA (.call (.ref fa) ⟨[.ref a], []⟩) (fun r s' => r = .ok (.ret (.bool true)) ∧ OldK s₁.heap s'.heap ∧ s'.os = s₁.os ∧ AllBare s'.gens) s₁ := by
  have rv := vals_ints hi
  have lenV := hi.length
  let O : Obj := { cls := .type "list", data := .seq vs.toArray }
  have core : ∀ H : Hp, (∀ b, H b = none ∨ (b = a ∧ H b = some (.frz O (.lst (ns.map V.int))) ∧ K.lookup a = none)) → SqL K H a (ns.map V.int) →
      codeAny (model P w) callerA (.call (.ref fa) ⟨[.ref a], []⟩) (fun r s' => r = .ok (.ret (.bool true)) ∧ OldK s₁.heap s'.heap ∧ s'.os = s₁.os ∧ AllBare s'.gens) s₁ := by
    intro H hO hS
    have hok : HOk P w H s₁.heap := fun b u e => by
      rcases hO b with z | ⟨rfl, z, _⟩
      · rw [z] at e
        cases e
      · rw [z] at e
        cases e
        exact ⟨ha, by rw [List.length_map]; exact hl, vs, _, rv, ha⟩
    have off : ∀ {b : Addr} {o : Obj} {es : Array DictEntry} {ep : Nat}, s₁.heap.get? b = some o → o.data = .dict es ep → H b = none := fun {b o es ep} e d => by
      rcases hO b with z | ⟨rfl, _, _⟩
      · exact z
      · rw [ha] at e
        cases e
        cases (show Data.seq vs.toArray _ = Data.dict es ep from d)
    have nsK : ∀ {b : Addr} {m : Str → Option Value}, s₁.heap.Ns b m → (hidT s₁.heap H).Ns b m := fun {b m} z => by
      obtain ⟨o, es, ep, e, d, r⟩ := z
      exact ⟨o, es, ep, hidT_get e (off e d), d, r⟩
    have kb : K.In (hidT s₁.heap H) := fun b o e => by
      refine hidT_get (KX b o e) ?_
      rcases hO b with z | ⟨rfl, _, z⟩
      · exact z
      · rw [z] at e
        cases e
    have hM : Mod K mg (hidT s₁.heap H) := ⟨kb, nsK hns, ⟨mb, nsK hb, hbb⟩, by obtain ⟨mc, h1, h2⟩ := hlim; exact ⟨mc, nsK h1, h2⟩⟩
    have e0 : Env0 P w K mg (hidT s₁.heap H) callerA [] s₁ H := by
      refine ⟨rfl, hM, fun b o e => of_hidT e, Nat.le_of_eq (hidT_size _ _), trivial, fun b z => ?_, hok, .of_eq hg⟩
      exact absurd (show b ∈ ([] : List Addr) from z) (by simp)
    have body := (F _ kb (nsK hns)).run callerA [] s₁ H ⟨[.ref a], []⟩ [.ref a] [.ref a] _ _ hr rfl e0 (hbind s₁ (.ref a)) (.cons rfl .nil) (hsp H hS)
    refine codeAny_mono body fun r s' h => ?_
    cases r with
    | error e => exact (hCX H e s' h).elim
    | ok fl =>
      cases fl with
      | next => exact False.elim h
      | brk => exact False.elim h
      | cont => exact False.elim h
      | ret u =>
        obtain ⟨v, H', os, bare, un, hok', r', q⟩ := h
        have q' : v = .bl true := q
        subst q'
        obtain rfl : u = Value.bool true := r'
        refine ⟨rfl, OldK.of_keep fun b o e => ?_, os, bare⟩
        rcases hO b with z | ⟨rfl, z, _⟩
        · refine un.keep b o e z (fun y => ?_) (by simp)
          exact absurd (show b ∈ ([] : List Addr) from y) (by simp)
        · obtain ⟨e2, _⟩ := hok' b _ (un.frzs b O _ z)
          rw [ha] at e
          cases e
          exact e2
  cases hk : K.lookup a with
  | some o =>
    have e := KX a o hk
    rw [ha] at e
    cases e
    refine core (fun _ => none) (fun _ => .inl rfl) (.inr ⟨_, vs.toArray, _, hk, rfl, rfl, rfl, ?_, by simpa using rv⟩)
    rw [List.size_toArray, lenV]
    exact hl
  | none =>
    refine core (fun b => if b = a then some (.frz O (.lst (ns.map V.int))) else none) (fun b => ?_) (.inl (.inr ⟨O, if_pos rfl⟩))
    by_cases hb : b = a
    · exact .inr ⟨hb, if_pos hb, hk⟩
    · exact .inl (if_neg hb)
/-- the end of a law row, by such a promise -/
theorem walkG {l : W.OpenLaw} {n k : Nat} {q : Program} {loose : List Str} {XP : (Str → Option Value) → Heap → Prop} {YP : World → Heap → Prop} {d : DefRec} {CX : CXT} {x : Str}
    (hn : l.most = some n) (hn2 : n ≤ sizeLine) (hdf : d.params.defaults = []) (hr : Room k callerA)
    (F : ∀ (w : World) (mg : Str → Option Value) (fa : Addr) (h : Heap), YP w h → h.Ns mainGlobals mg → mg d.name = some (.ref fa) →
      ∃ (K : W.Frag) (fd : FuncData) (sp : Sp), K.In h ∧ (∀ (s : Shared) (u : Value), BindsTo s fd ⟨[u], []⟩ [(x, u)]) ∧
        (∀ (H : Hp) (a : Addr) (ns : List Int), ns.length ≤ n → (∀ k ∈ ns, Builtin.Int.intBits k ≤ 1048576) → SqL K H a (ns.map V.int) → sp [.ref a] H (fun v _ => v = .bl true) fun _ _ _ => False) ∧
        ∀ base : Heap, K.In base → base.Ns mainGlobals mg → FnG l.prog w K mg base CX k fa fd [x] sp)
    (hCX : ∀ (H : Hp) (s : Shared) (e : Value) (s' : Shared), CX [] H s (fun _ _ _ => False) e s' → False) :
    W.WalkO q loose XP YP l.row.toRowW d [] (fun f vs => PySem.call f vs) := by
  refine Att.attach_callB hn hdf fun w s₀ s₁ mg mb fa o pm cd doc a vs ns G Y ho hd hcd hmg hobj hints hlen hbits hg => ?_
  obtain ⟨K, fd, sp, KX, hb, hsp, hF⟩ := F w mg fa _ Y G.T.g hmg
  exact law_callG KX G.T.g G.T.b G.T.builtins G.T.nolimit hg hobj hints (Nat.le_trans hlen hn2) hr hF hb (fun H hS => hsp H a ns hlen hbits hS) fun H e s' => hCX H s₁ e s'
end EW
end

section
set_option maxHeartbeats 4000000
namespace EW
open PySem PySem.Spec PyProof.Rows L2
/-! ### a def of the module that lets nothing out, by its name -/
structure Df (P : Program) (w : World) (K : W.Frag) (mg : Str → Option Value) (base : Heap) (k : Nat) (x : Str) (ps : List Str) (sp : Sp) : Prop where
  ex : ∃ fd, FnOk P w K mg base CX0 k (He.ga K x) fd ps sp ∧ Binds K fd ps []
  kp : W.keepIn K (.ref (He.ga K x)) = true
  gl : mg x = some (.ref (He.ga K x))
section
variable {X : Cx} {k : Nat} {ps : List Str} {sp : Sp} {x : Str} {p pos : Pos} {e : Expr} {es : List Expr} {t : TA}
theorem pe_df (D : Df X.prog X.w X.K X.mg X.base k x ps sp) (hr : Room k X.A) (hg : Gl X x) (ha : PA X (e :: es) t) (hdb : (x == ("__debug__" : Str)) = false := by decide)
    (he : starEach (e :: es) X.env = (false, eval e X.env) :: starEach es X.env := by rfl) (hpl : (backTo pos (starEach es X.env)).any (·.1) = false := by rfl) :
    PE X (.Call (.Name x p) (e :: es) [] pos) (tCall sp [] E0 t) := by
  obtain ⟨fd, F, b⟩ := D.ex
  exact pe_call F hr hg D.gl D.kp b .nil pass0 ha hdb he hpl
theorem pe_df0 (D : Df X.prog X.w X.K X.mg X.base k x ps sp) (hr : Room k X.A) (hg : Gl X x) (hdb : (x == ("__debug__" : Str)) = false := by decide) :
    PE X (.Call (.Name x p) [] [] pos) (tCall sp [] E0 tNil) := by
  obtain ⟨fd, F, b⟩ := D.ex
  exact pe_call0 F hr hg D.gl D.kp b .nil pass0 hdb
/-- powers of greater numbers -/
def CPowW (i j : Int) : Prop := 0 ≤ j ∧ (Builtin.Int.intBits i : Int) * j ≤ 2 ^ 27
theorem op_powW : OpR X (binaryOp .Pow) (rI CPowW fun i j => .int (i ^ j.toNat)) := opI fun _ _ _ _ _ _ _ hc q => pow_int hc.1 hc.2 q
end
/-! ### a list of three numbers that draws are made of -/
/-- all but d stands as it stood -/
def Kept (d : Addr) (H H' : Hp) : Prop := ∀ a o, a ≠ d → H a = some o → H' a = some o
theorem Kept.refl (d : Addr) (H : Hp) : Kept d H H := fun _ _ _ e => e
theorem Kept.trans {d : Addr} {H H1 H2 : Hp} (a : Kept d H H1) (b : Kept d H1 H2) : Kept d H H2 := fun c o n e => b c o n (a c o n e)
theorem Kept.upd {d : Addr} {H : Hp} {o : HO} : Kept d H (upd H d o) := fun a u n e => by
  rw [upd_ne n]
  exact e
theorem Kept.new {d p : Addr} {H : Hp} {o : HO} (h : H p = none) : Kept d H (L2.upd H p o) := fun a u n e => by
  rw [upd_ne (ne_of_none e h)]
  exact e
theorem Kept.same {d : Addr} {H H1 H' : Hp} (k : Kept d H1 H') (s : Same H H1) (h : H d = none) : Same H H' := fun a o e => k a o (ne_of_none e h) (s a o e)
theorem Kept.free {d p : Addr} {H H' : Hp} (k : Kept d H H') (h : H' p = none) (n : p ≠ d) : H p = none := by
  cases e : H p with
  | none => rfl
  | some o =>
    rw [k p o n e] at h
    cases h
/-- the draws at d: at most n of them were mixed -/
def Dc (H : Hp) (d : Addr) (n : Int) : Prop := ∃ g b c : Int, H d = some (.lst [.int g, .int b, .int c]) ∧ 0 ≤ g ∧ g < 2 ^ 2200 ∧ 0 ≤ b ∧ b < 2 ^ 62 ∧ 0 ≤ c ∧ c ≤ n
theorem Dc.mono {H : Hp} {d : Addr} {n m : Int} (h : Dc H d n) (l : n ≤ m) : Dc H d m := by
  obtain ⟨g, b, c, h1, h2, h3, h4, h5, h6, h7⟩ := h
  exact ⟨g, b, c, h1, h2, h3, h4, h5, h6, by omega⟩
theorem Dc.new {H : Hp} {d p : Addr} {n : Int} {o : HO} (h : Dc H d n) (hp : H p = none) : Dc (upd H p o) d n := by
  obtain ⟨g, b, c, h1, r⟩ := h
  exact ⟨g, b, c, by rw [upd_ne (ne_of_none h1 hp)]; exact h1, r⟩
theorem Dc.ne {H : Hp} {d a : Addr} {n : Int} {o : HO} (h : Dc H d n) (e : H a = some o) (hn : ∀ xs, o ≠ .lst xs) : a ≠ d := fun z => by
  obtain ⟨g, b, c, h1, _⟩ := h
  rw [z, h1] at e
  exact hn _ (Option.some.inj e).symm
/-- a new place is another one -/
theorem Dc.nn {H : Hp} {d p : Addr} {n : Int} (h : Dc H d n) (hp : H p = none) : p ≠ d := fun z => by
  obtain ⟨g, b, c, h1, _⟩ := h
  rw [z, h1] at hp
  cases hp
/-- other objects change, d stands -/
theorem Dc.keep {H H' : Hp} {d : Addr} {n : Int} (h : Dc H d n) (k : H' d = H d) : Dc H' d n := by
  obtain ⟨g, b, c, h1, r⟩ := h
  exact ⟨g, b, c, k.trans h1, r⟩
/-! ### small data: what values are shown as -/
inductive Lf : V → PyData → Prop where
  | non : Lf .non .none
  | bl (b : Bool) : Lf (.bl b) (.bool b)
  | int (i : Int) (h : i.natAbs < 2 ^ 200) : Lf (.int i) (.int i)
  | str (z : Str) (h : z.length ≤ 40) (a : ∀ c ∈ z.cps.toList, c < 128) : Lf (.str z) (.str z)
inductive Lfs : List V → List PyData → Prop where
  | nil : Lfs [] []
  | cons {v : V} {vs : List V} {d : PyData} {ds : List PyData} : Lf v d → Lfs vs ds → Lfs (v :: vs) (d :: ds)
/-- a value: a leaf, or a tuple of at most four leaves -/
inductive Nv (K : W.Frag) (H : Hp) : V → PyData → Prop where
  | lf {v : V} {d : PyData} (h : Lf v d) : Nv K H v d
  | tup {a : Addr} {xs : List V} {ds : List PyData} (h : H a = some (.tup xs)) (l : Lfs xs ds) (z : xs.length ≤ 4) : Nv K H (.ref a) (.tuple ds)
  | emp {a : Addr} (h : SqT K H a []) : Nv K H (.ref a) (.tuple [])
theorem Lf.dp {K : W.Frag} {H : Hp} {v : V} {d : PyData} (h : Lf v d) : Dp K H v d := by
  cases h with
  | non => exact .non
  | bl b => exact .bl b
  | int i _ => exact .int i
  | str z _ _ => exact .str z
theorem Lfs.dp {K : W.Frag} {H : Hp} : ∀ {vs : List V} {ds : List PyData}, Lfs vs ds → DpAll K H vs ds
  | _, _, .nil => .nil
  | _, _, .cons h t => .cons h.dp t.dp
theorem Nv.dp {K : W.Frag} {H : Hp} {v : V} {d : PyData} (h : Nv K H v d) : Dp K H v d := by
  cases h with
  | lf h => exact h.dp
  | tup h l _ => exact .tup (SqT.of h) l.dp
  | emp h => exact .tup h .nil
/-- values stand while nothing but lists changes -/
def KeptT (H H' : Hp) : Prop := ∀ a xs, H a = some (.tup xs) → H' a = some (.tup xs)
theorem Nv.keep {K : W.Frag} {H H' : Hp} {v : V} {d : PyData} (h : Nv K H v d) (k : KeptT H H') (kf : ∀ a o u, H a = some (.frz o u) → H' a = some (.frz o u)) : Nv K H' v d := by
  cases h with
  | lf h => exact .lf h
  | tup h l z => exact .tup (k _ _ h) l z
  | emp h =>
    refine .emp ?_
    rcases h with (h | ⟨o, h⟩) | h
    · exact .inl (.inl (k _ _ h))
    · exact .inl (.inr ⟨o, kf _ _ _ h⟩)
    · exact .inr h
end EW
end

section
set_option maxHeartbeats 4000000
namespace EW
open PySem PySem.Spec PyProof.Rows L2
/-! rules with the written part told by its own letter: so that a comprehension's block may use them -/
section
variable {X : Cx}
theorem boot_isinstance : bootBuiltins "isinstance" = some (.builtin "isinstance") := by decide +kernel
theorem boot_repr : bootBuiltins "repr" = some (.builtin "repr") := by decide +kernel
theorem boot_abs : bootBuiltins "abs" = some (.builtin "abs") := by decide +kernel
theorem boot_max : bootBuiltins "max" = some (.builtin "max") := by decide +kernel
theorem boot_min : bootBuiltins "min" = some (.builtin "min") := by decide +kernel
theorem boot_int : bootBuiltins "int" = some (.type "int") := by decide +kernel
theorem call_lenK (K : W.Frag) (h : X.K = K) : CallR X (.builtin "len") (fun xs H Q => ∃ x n, xs = [x] ∧ LenV K x H n ∧ Q (.int n) H) := by
  subst h
  exact call_len
theorem ix_listK (K : W.Frag) (h : X.K = K) : IxR X (rIxL K) := by
  subst h
  exact ix_list
theorem call_isXK (K : W.Frag) (h : X.K = K) : CallR X (.builtin "isinstance") (rIsX K) := by
  subst h
  exact call_isX
theorem call_reprK {k : Nat} (K : W.Frag) (h : X.K = K) (hG : X.A.guards = some []) (hr : Room k X.A) : CallR X (.builtin "repr") (rRepr K) := by
  subst h
  exact call_repr hG hr
theorem pe_xflK {e : Expr} {te : TE} {f : Str} {pos : Pos} (K : W.Frag) (h : X.K = K) (he : PE X e te) (hb : attributeBase e f X.env (eval e X.env) = eval e X.env := by rfl) : PE X (.Attribute e f pos) (tXfl K f te) := by
  subst h
  exact pe_xfl he hb
theorem op_eqDK (K : W.Frag) (h : X.K = K) (hu : X.A.units + 64 < cLine) : OpR X (compareOp .Eq) (rEqD K) := by
  subst h
  exact op_eqD hu
theorem op_neDK (K : W.Frag) (h : X.K = K) (hu : X.A.units + 64 < cLine) : OpR X (compareOp .NotEq) (rNeD K) := by
  subst h
  exact op_neD hu
end
end EW
end

section
set_option maxHeartbeats 4000000
namespace EW
open PySem PySem.Spec PyProof.Rows L2
/-! ### new objects, the heap behind them told by what it holds alone -/
section
variable {X : Cx} {e : Expr} {es : List Expr} {t : TA} {te te' : TE} {pos p : Pos}
theorem PE.imp (h : PE X e te) (i : ∀ σ H Q, te' σ H Q → te σ H Q) : PE X e te' := ⟨fun pins s σ H Q I q => h.run pins s σ H Q I (i _ _ _ q)⟩
theorem PE.cl (h : PE X e te) : PE X e (fun σ H Q => ∃ R : VK, te σ H R ∧ ∀ v H1, R v H1 → Q v H1) := by
  refine ⟨fun pins s σ H Q I q => ?_⟩
  obtain ⟨R, h1, h2⟩ := q
  refine wpAny_mono (h.run pins s σ H R I h1) (fun u s' z => ?_) fun _ _ z => z
  obtain ⟨v, H1, I1, rv, r⟩ := z
  exact ⟨v, H1, I1, rv, h2 v H1 r⟩
theorem PA.cl (h : PA X es t) : PA X es (fun σ H Q => ∃ R : List V → Hp → Prop, t σ H R ∧ ∀ v H1, R v H1 → Q v H1) := by
  refine ⟨fun ps pins s σ H Q I q => ?_⟩
  obtain ⟨R, h1, h2⟩ := q
  refine wpAny_mono (h.run ps pins s σ H R I h1) (fun u s' z => ?_) fun _ _ z => z
  obtain ⟨v, H1, I1, rv, r⟩ := z
  exact ⟨v, H1, I1, rv, h2 v H1 r⟩
theorem sameN {H : Hp} {p : Addr} {o : HO} (h : H p = none) : Same H (upd H p o) := fun a u z => by
  rw [upd_ne (ne_of_none z h)]
  exact z
/-- something new at p -/
def New (H : Hp) (o : Addr → HO) (Q : VK) : Prop := ∀ (p : Addr) (H' : Hp), H p = none → Same H H' → H' p = some (o p) → Q (.ref p) H'
theorem New.at {H : Hp} {o : Addr → HO} {Q : VK} (h : New H o Q) {p : Addr} (hp : H p = none) : Q (.ref p) (upd H p (o p)) := h p _ hp (sameN hp) upd_same
def tLstS (t : TA) : TE := fun σ H Q => t σ H fun xs H1 => xs.length ≤ sizeLine ∧ New H1 (fun _ => .lst xs) Q
def tTupS (t : TA) : TE := fun σ H Q => t σ H fun xs H1 => xs.length ≤ sizeLine ∧ New H1 (fun _ => .tup xs) Q
theorem pe_lstS (h : PA X es t) : PE X (.List es pos) (tLstS t) :=
  PE.imp (pe_lst (PA.cl h)) fun σ H Q q => ⟨_, q, fun _ _ z => ⟨z.1, fun _ hp => z.2.at hp⟩⟩
theorem pe_tupS {n : Nat} (h : PA X es t) : PE X (.Tuple es n pos) (tTupS t) :=
  PE.imp (pe_tup (PA.cl h)) fun σ H Q q => ⟨_, q, fun _ _ z => ⟨z.1, fun _ hp => z.2.at hp⟩⟩
def rCatS : R2 := fun x y H Q => ∃ (a b : Addr) (xs ys : List V), x = .ref a ∧ y = .ref b ∧ H a = some (.lst xs) ∧ H b = some (.lst ys) ∧ xs.length + ys.length ≤ sizeLine ∧ New H (fun _ => .lst (xs ++ ys)) Q
theorem op_catS : OpR X (binaryOp .Add) rCatS := by
  intro pins s σ H x y v u Q I rx ry h
  obtain ⟨a, b, xs, ys, h1, h2, h3, h4, h5, h6⟩ := h
  exact op_cat pins s σ H x y v u Q I rx ry ⟨a, b, xs, ys, h1, h2, h3, h4, h5, fun _ hp => h6.at hp⟩
end
end EW
end

section
set_option maxHeartbeats 4000000
namespace EW
open PySem PySem.Spec PyProof.Rows L2
/-- a cut behind a statement: what follows is shown of every state of which P holds -/
def tCut (a : TS) : TS := fun D σ H => ∃ P : L2.St → Hp → Prop, a { D with nx := P } σ H ∧ ∀ σ' H', P σ' H' → D.nx σ' H'
theorem ps_cut {X : Cx} {st : Stmt} {a : TS} (h : PS X st a) : PS X st (tCut a) := by
  refine ⟨fun pins s σ H D I q => ?_⟩
  obtain ⟨P, h1, h2⟩ := q
  refine wpAny_mono (h.run pins s σ H _ I h1) (fun fl s' z => ?_) fun _ _ z => z
  cases fl with
  | next =>
    obtain ⟨σ', H', I', p⟩ := z
    exact ⟨σ', H', I', h2 σ' H' p⟩
  | ret u => exact z
  | brk => exact z
  | cont => exact z
end EW
end

section
set_option maxHeartbeats 4000000
namespace EW
open PySem PySem.Spec PyProof.Rows L2
/-! ### operators by methods of the text -/
/-- a method of the class at C that lets nothing out -/
structure Mt (P : Program) (w : World) (K : W.Frag) (mg : Str → Option Value) (base : Heap) (k : Nat) (C : Addr) (m : Str) (ps : List Str) (sp : Sp) : Prop where
  ex : ∃ f fd, FnOk P w K mg base CX0 k f fd ps sp ∧ Binds K fd ps [] ∧ W.findIn K (.ref C) m = some (some (.ref f)) ∧ W.isFn K (.ref f) = true
section
variable {X : Cx} {k : Nat} {ps : List Str} {sp : Sp} {f C : Addr} {fd : FuncData} {pins : List (Addr × Obj)} {σ : L2.St} {H : Hp} {s : Shared}
/-- the def runs below the running body -/
theorem run_at {A : Around} {Q : VK} {us : List Value} {vs : List V} (F : FnOk X.prog X.w X.K X.mg X.base CX0 k f fd ps sp) (sb : Sub X k A) (hb : Binds X.K fd ps []) (I : Inv X pins σ H s) (r : Vals vs us) (h : sp vs H Q E0) :
    wpAny (model X.prog X.w) A (call (.ref f) us) (EP X pins σ Q) X.xe s := by
  have z := F.len _ _ _ _ h
  have e0 : Env0 X.prog X.w X.K X.mg X.base A X.stack s H := ⟨sb.fr.trans I.env0.frames, I.env0.mod, I.env0.bs, I.env0.bsz, I.env0.funs, I.env0.frf, I.env0.hok, I.env0.bare⟩
  have hl : (us ++ []).length = ps.length := by rw [List.append_nil, ← r.length]; exact z
  have hb' := hb s us I.kIn hl
  rw [List.append_nil] at hb'
  refine wpAny_call (codeAny_mono (F.run A X.stack s H ⟨us, []⟩ us vs Q E0 sb.room e0 hb' r h) fun q s' hq => ?_)
  match q, hq with
  | .error e, hq => exact (hq : False).elim
  | .ok (.ret u), hq => exact I.after hq
  | .ok .next, hq => exact (hq : False).elim
  | .ok .brk, hq => exact (hq : False).elim
  | .ok .cont, hq => exact (hq : False).elim
/-- an instance of the class at C -/
def IsC (H : Hp) (C : Addr) (x : V) : Prop := ∃ a dx fs, x = .ref a ∧ H a = some (.ins C dx fs)
theorem IsC.at_ {x : V} {v : Value} (h : IsC H C x) (I : Inv X pins σ H s) (r : RelV x v) : ∃ a ox od, v = .ref a ∧ W.InstAt s.heap a ox C od := by
  obtain ⟨a, dx, fs, rfl, e⟩ := h
  cases r
  obtain ⟨mA, J, _⟩ := ins_get I.hok e
  obtain ⟨od, J, _⟩ := J.look
  exact ⟨a, _, _, rfl, J⟩
theorem rel_ni {v : V} {u : Value} (r : RelV v u) : u ≠ .notImplemented := by
  rintro rfl
  cases v <;> (cases r; try contradiction)
theorem back_of {Q : Value → Shared → Prop} {u : Value} {s' : Shared} (n : u ≠ .notImplemented) (h : Q u s') : W.CmpBack Q u s' := by
  cases u <;> first | exact h | exact absurd rfl n
theorem back {Q : VK} {u : Value} {s' : Shared} (h : EP X pins σ Q u s') : W.CmpBack (EP X pins σ Q) u s' := by
  obtain ⟨v, H', I', r, q⟩ := h
  exact back_of (rel_ni r) ⟨v, H', I', r, q⟩
/-- x op y, both of the class at C -/
def rOwn (C : Addr) (sp : Sp) : R2 := fun x y H Q => IsC H C x ∧ IsC H C y ∧ sp [x, y] H Q E0
theorem op_own {op : Operator} (M : Mt X.prog X.w X.K X.mg X.base k C (PySem.dunder op.info.2) ps sp) (hc : W.selfFirst X.K C = true) (hr : Room k X.A) : OpR X (binaryOp op) (rOwn C sp) := by
  intro pins s σ H x y v u Q I rx ry h
  obtain ⟨cx, cy, h⟩ := h
  obtain ⟨f, fd, F, hb, hs, hf⟩ := M.ex
  obtain ⟨a, ox, od, rfl, J⟩ := cx.at_ I rx
  obtain ⟨b, oy, od', rfl, J'⟩ := cy.at_ I ry
  obtain ⟨m, hF⟩ := I.fr
  refine W.binop_K hF I.ok.mod.kin J J'.type hc hs hf ?_
  exact wpAny_mono (run_at F ⟨hr, rfl⟩ hb I (.cons rx (.cons ry .nil)) h) (fun _ _ z => back z) fun _ _ z => z
/-- ~x -/
def uOwn (C : Addr) (sp : Sp) : V → Hp → VK → Prop := fun x H Q => IsC H C x ∧ sp [x] H Q E0
theorem inv_K {M : Model} {A : Around} {E : Value → Shared → Prop} {K : W.Frag} {a : Addr} {ox : Obj} {od : Option Obj} {Q : Value → Shared → Prop} (X' : K.In s.heap) (J : W.InstAt s.heap a ox C od) (hs : W.findIn K (.ref C) "__invert__" = some (some (.ref f))) (hf : W.isFn K (.ref f) = true)
    (h : wpAny M A (call (.ref f) [.ref a]) Q E s) : wpAny M A (unaryOp .Invert (.ref a)) Q E s := by
  unfold unaryOp
  exact wpAny_holding (wpAny_bind (W.special_fn X' J hs (beq_iff_eq.mp hf) (wpAny_mono h (fun _ _ q => wpAny_pure q) fun _ _ q => q)))
theorem un_own (M : Mt X.prog X.w X.K X.mg X.base k C "__invert__" ps sp) (hr : Room k X.A) : UnR X (unaryOp .Invert) (uOwn C sp) := by
  intro pins s σ H x v Q I rx h
  obtain ⟨cx, h⟩ := h
  obtain ⟨f, fd, F, hb, hs, hf⟩ := M.ex
  obtain ⟨a, ox, od, rfl, J⟩ := cx.at_ I rx
  exact inv_K I.kIn J hs hf (run_at F ⟨hr, rfl⟩ hb I (.cons rx .nil) h)
/-- x in y by an own method that tells a bool -/
def Bl (Q : VK) : VK := fun z H => ∃ c, z = .bl c ∧ Q (.bl c) H
def rInO (C : Addr) (sp : Sp) : R2 := fun x y H Q => IsC H C y ∧ sp [y, x] H (Bl Q) E0
theorem op_inO (M : Mt X.prog X.w X.K X.mg X.base k C "__contains__" ps sp) (hr : Room k X.A) : OpR X (compareOp .In) (rInO C sp) := by
  intro pins s σ H x y v u Q I rx ry h
  obtain ⟨cy, h⟩ := h
  obtain ⟨f, fd, F, hb, hs, hf⟩ := M.ex
  obtain ⟨a, ox, od, rfl, J⟩ := cy.at_ I ry
  obtain ⟨m, hF⟩ := I.fr
  refine W.in_K hF I.ok.mod.kin J hs hf ?_
  refine wpAny_mono (run_at F ⟨hr, rfl⟩ hb I (.cons ry (.cons rx .nil)) h) (fun r s' z => ?_) fun _ _ z => z
  obtain ⟨w, H', I', rw', c, rfl, q⟩ := z
  cases rw'
  exact wpAny_truthy_bool ⟨.bl c, H', I', rfl, q⟩
/-- the truth of an instance -/
def rTru (C : Addr) (sp : Sp) : V → Hp → (Bool → Hp → Prop) → Prop := fun x H Q => IsC H C x ∧ sp [x] H (fun z H' => ∃ c, z = .bl c ∧ Q c H') E0
theorem tru_at {A : Around} {x : V} {v : Value} {Q : Bool → Hp → Prop} (M : Mt X.prog X.w X.K X.mg X.base k C "__bool__" ps sp) (sb : Sub X k A) (I : Inv X pins σ H s) (rx : RelV x v) (h : rTru C sp x H Q) : wpAny (model X.prog X.w) A (truthy v) (TP X pins σ Q) X.xe s := by
  obtain ⟨cx, h⟩ := h
  obtain ⟨f, fd, F, hb, hs, hf⟩ := M.ex
  obtain ⟨a, ox, od, rfl, J⟩ := cx.at_ I rx
  obtain ⟨m, hF⟩ := I.fr
  refine W.truthy_K hF I.ok.mod.kin J hs hf ?_
  refine wpAny_mono (run_at F sb hb I (.cons rx .nil) h) (fun r s' z => ?_) fun _ _ z => z
  obtain ⟨w, H', I', rw', c, rfl, q⟩ := z
  cases rw'
  exact ⟨H', I', q⟩
theorem tru_own (M : Mt X.prog X.w X.K X.mg X.base k C "__bool__" ps sp) (hr : Room k X.A) : TruR X (rTru C sp) :=
  fun pins s σ H x v Q I rx h => tru_at M ⟨hr, rfl⟩ I rx h
/-- not x -/
def tNotO (C : Addr) (sp : Sp) (t : TE) : TE := fun σ H Q => t σ H fun x H1 => rTru C sp x H1 fun c H2 => Q (.bl (!c)) H2
theorem pe_notO {a : Expr} {t : TE} {pos : Pos} (M : Mt X.prog X.w X.K X.mg X.base k C "__bool__" ps sp) (hr : Room k X.A) (ha : PE X a t) : PE X (.UnaryOp .Not a pos) (tNotO C sp t) := by
  refine ⟨fun pins s σ H Q I h => ?_⟩
  refine UnaryOp_ (thn (ha.run pins s σ H _ I h) fun v s1 z => ?_)
  obtain ⟨x, H1, I1, r1, q1⟩ := z
  refine not_of (wpAny_mono (tru_at M ⟨hr, rfl⟩ I1 r1 q1) (fun c s' z => ?_) fun _ _ z => z)
  obtain ⟨H2, I2, q2⟩ := z
  exact ⟨.bl (!c), H2, I2, rfl, q2⟩
end
end EW
end

section
set_option maxHeartbeats 4000000
namespace EW
open PySem PySem.Spec PySem.Calls PyProof.Rows L2
section
variable {X : Cx} {k : Nat} {ps : List Str} {sp : Sp} {f C : Addr} {fd : FuncData} {pins : List (Addr × Obj)} {σ : L2.St} {H : Hp} {s : Shared}
/-- what an own == may be asked about: an instance of the class, an int -/
def Askd (H : Hp) (C : Addr) (y : V) : Prop := IsC H C y ∨ ∃ i, y = .int i
theorem Askd.looks {y : V} {u : Value} (h : Askd H C y) (I : Inv X pins σ H s) (r : RelV y u) : ∃ tb, W.Looks (model X.prog X.w) s.heap (typeOf u) tb ∧ W.notFirst X.K C tb = true := by
  rcases h with h | ⟨i, rfl⟩
  · obtain ⟨b, oy, od, rfl, J⟩ := h.at_ I r
    exact ⟨.ref C, J.type, by simp [W.notFirst]⟩
  · obtain ⟨t, rfl⟩ := r
    have e : fastBuiltinMro "int" = some [.type "int", .type "object"] := by decide +kernel
    refine ⟨.type "int", W.Looks.of_pure rfl, ?_⟩
    have z : W.subIn X.K (.type "int") (.ref C) = some false := by
      show (fastBuiltinMro "int").map (·.contains (.ref C)) = some false
      rw [e]
      simp
    simp [W.notFirst, z]
def rEqO (C : Addr) (sp : Sp) : R2 := fun x y H Q => IsC H C x ∧ Askd H C y ∧ sp [x, y] H Q E0
theorem op_eqO (M : Mt X.prog X.w X.K X.mg X.base k C "__eq__" ps sp) (hr : Room k X.A) : OpR X (compareOp .Eq) (rEqO C sp) := by
  intro pins s σ H x y v u Q I rx ry h
  obtain ⟨cx, cy, h⟩ := h
  obtain ⟨f, fd, F, hb, hs, hf⟩ := M.ex
  obtain ⟨a, ox, od, rfl, J⟩ := cx.at_ I rx
  obtain ⟨tb, L, nf⟩ := cy.looks I ry
  obtain ⟨m, hF⟩ := I.fr
  show wpAny _ _ (richCompare .Eq _ _) _ _ _
  refine W.cmp_K (op := .Eq) hr.units0 hF I.ok.mod.kin J L nf hs hf ?_
  exact wpAny_mono (run_at F ⟨hr, rfl⟩ hb I (.cons rx (.cons ry .nil)) h) (fun _ _ z => back z) fun _ _ z => z
/-! ### x != y by an own == -/
theorem ifBound_bt {M : Model} {A : Around} {E : Value → Shared → Prop} {K : W.Frag} {a : Addr} {ox : Obj} {od : Option Obj} {args : List Value} {Q : Option Value → Shared → Prop} (Kn : K.In s.heap) (J : W.InstAt s.heap a ox C od) (hs : W.findIn K (.ref C) "__ne__" = some (some (.builtin "object.__ne__")))
    (h : wpAny M A (call (.builtin "object.__ne__") (.ref a :: args)) (fun v => Q (some v)) E s) : wpAny M A (callSpecialIfBound? (.ref a) "__ne__" args) Q E s := by
  have fin : wpAny M A (call (.builtin "object.__ne__") ([.ref a] ++ args) >>= fun v => pure (some v)) Q E s := wpAny_bind (wpAny_mono h (fun v s' z => wpAny_pure z) fun _ _ z => z)
  have bd := F.cmp_object.ne.bind
  simp only [callSpecialIfBound?, bindSpecialIfBound?]
  refine wpAny_holding (wpAny_bind (wpAny_bind (wpAny_bind (J.type.here ((W.looks_findIn Kn hs).here ?_)))))
  refine wpAny_bind (wpAny_askSetting (wpAny_ite ?_))
  split
  · exact wpAny_bind (wpAny_of_eq (bd _) (wpAny_pure (by exact fin)))
  · exact wpAny_tryCatch (wpAny_bind (wpAny_of_eq (bd _) (wpAny_pure (by exact fin))))
theorem ne_entry {M : Model} {A : Around} {E : Value → Shared → Prop} {K : W.Frag} {a : Addr} {b : Value} {ox : Obj} {od : Option Obj} {Q : Fin → Shared → Prop} (hu : A.units < cLine) (Kn : K.In s.heap) (J : W.InstAt s.heap a ox C od) (hs : W.findIn K (.ref C) "__eq__" = some (some (.ref f))) (hf : W.isFn K (.ref f) = true)
    (h : wpAny M A (call (.ref f) [.ref a, b]) (fun v s' => ∃ c, v = .bool c ∧ Q (.done (.ret (.bool (!c)))) s') E s) : wpAny M A (Builtin.«object.__ne__» ⟨[.ref a, b], []⟩) Q E s := by
  have eqs : wpAny M A (callSpecialIfBound? (.ref a) "__eq__" [b]) (fun r s' => ∃ c, r = some (.bool c) ∧ Q (.done (.ret (.bool (!c)))) s') E s :=
    W.ifBound_K Kn J hs hf (wpAny_mono h (fun v s' z => by obtain ⟨c, rfl, q⟩ := z; exact ⟨c, rfl, q⟩) fun _ _ z => z)
  unfold Builtin.«object.__ne__»
  repeat (first | with_reducible refine wpAny_cRoomFor hu ?_ | (with_reducible refine wpAny_mono eqs (fun r s' z => ?_) fun _ _ z => z) | wp_step)
  obtain ⟨c, rfl, q⟩ := z
  exact wpAny_bind (wpAny_truthy_bool (wpAny_pure q))
theorem call_ne {A : Around} {a : Addr} {b : Value} {ox : Obj} {od : Option Obj} {E : Value → Shared → Prop} {K : W.Frag} {prog : Program} {w : World} {Q : Value → Shared → Prop} (hu : A.units + 1 < cLine) (Kn : K.In s.heap) (J : W.InstAt s.heap a ox C od) (hm : W.mroIn K C (.type "object") = some true)
    (hs : W.findIn K (.ref C) "__eq__" = some (some (.ref f))) (hf : W.isFn K (.ref f) = true)
    (h : wpAny (model prog w) A.in1 (call (.ref f) [.ref a, b]) (fun v s' => ∃ c, v = .bool c ∧ Q (.bool (!c)) s') E s) : wpAny (model prog w) A (call (.builtin "object.__ne__") [.ref a, b]) Q E s :=
  wpAny_call (codeAny_call_builtin F.cmp_object.ne.plain F.cmpEntry_ne (W.check_slot F.cmpKind_ne F.cmpSplit_ne (J.type.andThen (W.looks_mroIn Kn hm)) (F.cmpArgs_ne _ _) (ne_entry (A := A.in1) hu Kn J hs hf h)))
theorem ne_at {A : Around} {a : Addr} {b tb : Value} {ox : Obj} {od : Option Obj} {E : Value → Shared → Prop} {K : W.Frag} {prog : Program} {w : World} {Q : Value → Shared → Prop} (hu : A.units + 1 < cLine) (Kn : K.In s.heap) (J : W.InstAt s.heap a ox C od) (hm : W.mroIn K C (.type "object") = some true)
    (hb : W.Looks (model prog w) s.heap (typeOf b) tb) (hn : W.notFirst K C tb = true) (hne : W.findIn K (.ref C) "__ne__" = some (some (.builtin "object.__ne__"))) (hs : W.findIn K (.ref C) "__eq__" = some (some (.ref f))) (hf : W.isFn K (.ref f) = true)
    (h : wpAny (model prog w) A.in1 (call (.ref f) [.ref a, b]) (fun v s' => ∃ c, v = .bool c ∧ Q (.bool (!c)) s') E s) : wpAny (model prog w) A (richCompare .NotEq (.ref a) b) Q E s := by
  have one : wpAny (model prog w) A (tryCompare (.ref a) (cmpInfo .NotEq).2.1 b) (fun r s' => ∃ v, r = some v ∧ Q v s') E s := by
    unfold tryCompare
    refine wpAny_bind (ifBound_bt Kn J hne (call_ne hu Kn J hm hs hf (wpAny_mono h (fun v s' z => ?_) fun _ _ z => z)))
    obtain ⟨c, e, q⟩ := z
    exact ⟨c, e, wpAny_pure ⟨_, rfl, q⟩⟩
  have hu0 : A.units < cLine := Nat.lt_of_succ_lt hu
  unfold richCompare
  simp only [oneThing_ref]
  refine wpAny_holding (wpAny_bind (wpAny_cRoomFor hu0 ?_))
  refine wpAny_bind (J.type.here (wpAny_bind (hb.here ?_)))
  split
  · rename_i q
    have e : W.subIn K tb (.ref C) = some false := by
      rcases Bool.or_eq_true_iff.mp hn with e | e
      · rw [beq_iff_eq.mp e] at q
        simp at q
      · exact beq_iff_eq.mp e
    refine wpAny_bind ((W.looks_subIn Kn e).here ?_)
    simp only [Bool.false_eq_true, if_false]
    refine wpAny_bind (wpAny_mono one (fun r s' z => ?_) fun _ _ z => z)
    obtain ⟨v, rfl, z⟩ := z
    exact wpAny_pure z
  · refine wpAny_bind (wpAny_pure ?_)
    simp only [Bool.false_eq_true, if_false]
    refine wpAny_bind (wpAny_mono one (fun r s' z => ?_) fun _ _ z => z)
    obtain ⟨v, rfl, z⟩ := z
    exact wpAny_pure z
def rNeO (C : Addr) (sp : Sp) : R2 := fun x y H Q => IsC H C x ∧ Askd H C y ∧ sp [x, y] H (fun z H' => ∃ c, z = .bl c ∧ Q (.bl (!c)) H') E0
theorem op_neO (M : Mt X.prog X.w X.K X.mg X.base k C "__eq__" ps sp) (hm : W.mroIn X.K C (.type "object") = some true) (hne : W.findIn X.K (.ref C) "__ne__" = some (some (.builtin "object.__ne__"))) (hr : Room (k + 1) X.A) : OpR X (compareOp .NotEq) (rNeO C sp) := by
  intro pins s σ H x y v u Q I rx ry h
  obtain ⟨cx, cy, h⟩ := h
  obtain ⟨f, fd, F, hb, hs, hf⟩ := M.ex
  obtain ⟨a, ox, od, rfl, J⟩ := cx.at_ I rx
  obtain ⟨tb, L, nf⟩ := cy.looks I ry
  show wpAny _ _ (richCompare .NotEq _ _) _ _ _
  refine ne_at (by have := hr.un; omega) I.kIn J hm L nf hne hs hf ?_
  refine wpAny_mono (run_at F (Sub.in1 ⟨hr, rfl⟩) hb I (.cons rx (.cons ry .nil)) h) (fun r s' z => ?_) fun _ _ z => z
  obtain ⟨w, H', I', rw', c, rfl, q⟩ := z
  cases rw'
  exact ⟨c, rfl, .bl (!c), H', I', rfl, q⟩
/-! ### bool(x) -/
theorem bool_new {prog : Program} {w : World} {A : Around} {R : Result → Shared → Prop} {v : Value} (h : wpAny (model prog w) A.in1 (truthy v) (fun c s' => R (.ok (.ret (.bool c))) s') (fun e s' => R (.error e) s') s) :
    wpAny (model prog w) A.in1 (Builtin.«bool.__new__» ⟨[.type "bool", v], []⟩) (GQ.FinOf prog w A R) (fun e s' => R (.error e) s') s := by
  have f1 := F.conv_sub_bool
  repeat (any_goals (first | assumption | (with_reducible refine wpAny_mono h (fun c s' z => ?_) fun _ _ z => z) | wp_step))
  all_goals first | exact z | skip
end
end EW
end

section
set_option maxHeartbeats 4000000
namespace EW
open PySem PySem.Spec PyProof.Rows L2
section
variable {X : Cx} {k : Nat} {ps : List Str} {sp : Sp} {f C : Addr} {fd : FuncData} {pins : List (Addr × Obj)} {σ : L2.St} {H : Hp} {s : Shared}
theorem bool_in {prog : Program} {w : World} {v : Value} : MeetsIn prog w (Builtin.«bool.__new__» ⟨[.type "bool", v], []⟩) (fun A R s => wpAny (model prog w) A.in1 (truthy v) (fun c s' => R (.ok (.ret (.bool c))) s') (fun e s' => R (.error e) s') s) :=
  fun A R s h => bool_new h
theorem call_boolV {prog : Program} {w : World} {A : Around} {E : Value → Shared → Prop} {v : Value} {Q : Value → Shared → Prop} (h : wpAny (model prog w) A.in1.in1 (truthy v) (fun c s' => Q (.bool c) s') E s) : wpAny (model prog w) A (call (.type "bool") [v]) Q E s :=
  callType_newIn F.called_bool F.newNe_bool (F.typeCall_bool_1 v) (F.newCall_bool_1 v) (fun o => F.args_object_init_2 o v) F.entry_bool_new bool_in (wpAny_mono h (fun c s' z => ⟨rfl, z⟩) fun _ _ z => z)
theorem call_boolO (M : Mt X.prog X.w X.K X.mg X.base k C "__bool__" ps sp) (hr : Room (k + 2) X.A) : CallR X (.type "bool") (fun xs H Q => ∃ x, xs = [x] ∧ rTru C sp x H (fun c H' => Q (.bl c) H')) := by
  intro pins s σ H xs us Q I r h
  obtain ⟨x, rfl, h⟩ := h
  obtain ⟨u, rfl, ru⟩ := r.one
  refine call_boolV (wpAny_mono (tru_at M (Sub.in1 (Sub.in1 ⟨hr, rfl⟩)) I ru h) (fun c s' z => ?_) fun _ _ z => z)
  obtain ⟨H', I', q⟩ := z
  exact ⟨.bl c, H', I', rfl, q⟩
/-- bool(a tuple) -/
theorem call_boolT : CallR X (.type "bool") (fun xs H Q => ∃ (a : Addr) (zs : List V), xs = [.ref a] ∧ SqT X.K H a zs ∧ Q (.bl (!zs.isEmpty)) H) := by
  intro pins s σ H xs us Q I r h
  obtain ⟨a, zs, rfl, hq, q⟩ := h
  obtain rfl := Vals.ref1 r
  obtain ⟨its, rv, pl, hz⟩ := I.tuple hq
  have hl := line63
  have hlen := rv.length
  refine call_boolV (truthy_tuple pl (by simp only [List.size_toArray]; omega) ?_)
  exact ⟨.bl (!zs.isEmpty), H, I.tok _, by rw [isEmpty_of rv]; rfl, q⟩
end
end EW
end

section
set_option maxHeartbeats 4000000
namespace EW
open PySem PySem.Spec PyProof.Rows L2
/-! ### sorted(l, key=f), f a def of the text that tells two numbers, l a list of references -/
/-- the two numbers at a key -/
def pairAt (h : Heap) (v : Value) : Int × Int := match v with
  | .ref a => match h.get? a with
    | some o => match o.data with
      | .seq xs _ => match xs.toList with
        | [.int x _, .int y _] => (x, y)
        | _ => (0, 0)
      | _ => (0, 0)
    | none => (0, 0)
  | _ => (0, 0)
theorem pairAt_of {h : Heap} {v : Value} {x y : Int} (p : Srt.IsPair h v x y) : pairAt h v = (x, y) := by
  obtain ⟨a, o, t, u, n, rfl, ho, hc, hd⟩ := p
  simp [pairAt, ho, hd]
/-- a list as it stands in the heap, with the number of its changes -/
def LsO (a : Addr) (vs : Array Value) (n : Nat) : HO := .ext fun h => h.get? a = some (seqObj "list" vs n)
theorem lsO_ok {P : Program} {w : World} {H : Hp} {h : Heap} {a : Addr} {vs : Array Value} {n : Nat} (e : h.get? a = some (seqObj "list" vs n)) : ObjOk P w H h a (LsO a vs n) := ⟨e, ⟨_, e⟩, fun _ _ p k => k _ p⟩
/-- a def that tells two numbers of a value -/
structure KeyFn (X : Cx) (k : Nat) (f : Addr) (KeyOf : Hp → V → Int × Int → Prop) : Prop where
  ex : ∃ fd ps sp, FnOk X.prog X.w X.K X.mg X.base CX0 k f fd ps sp ∧ Binds X.K fd ps [] ∧ ∀ v p H Q, KeyOf H v p → New H (fun _ => .tup [.int p.1, .int p.2]) Q → sp [v] H Q E0
  mono : ∀ H H' v p, KeyOf H v p → Same H H' → KeyOf H' v p
section
variable {X : Cx} {k : Nat} {f a kS : Addr} {KeyOf : Hp → V → Int × Int → Prop} {pins : List (Addr × Obj)} {σ : L2.St} {H : Hp} {s : Shared} {A : Around} {E : Value → Shared → Prop}
theorem run_at' {A : Around} {Q : VK} {us : List Value} {vs : List V} {fd : FuncData} {ps : List Str} {sp : Sp} (F : FnOk X.prog X.w X.K X.mg X.base CX0 k f fd ps sp) (sb : Sub X k A) (hb : Binds X.K fd ps []) (I : Inv X pins σ H s) (r : Vals vs us) (h : sp vs H Q E0) :
    wpAny (model X.prog X.w) A (call (.ref f) us) (EP X pins σ Q) E s := by
  have z := F.len _ _ _ _ h
  have e0 : Env0 X.prog X.w X.K X.mg X.base A X.stack s H := ⟨sb.fr.trans I.env0.frames, I.env0.mod, I.env0.bs, I.env0.bsz, I.env0.funs, I.env0.frf, I.env0.hok, I.env0.bare⟩
  have hl : (us ++ []).length = ps.length := by rw [List.append_nil, ← r.length]; exact z
  have hb' := hb s us I.kIn hl
  rw [List.append_nil] at hb'
  refine wpAny_call (codeAny_mono (F.run A X.stack s H ⟨us, []⟩ us vs Q E0 sb.room e0 hb' r h) fun q s' hq => ?_)
  match q, hq with
  | .error e, hq => exact (hq : False).elim
  | .ok (.ret u), hq => exact I.after hq
  | .ok .next, hq => exact (hq : False).elim
  | .ok .brk, hq => exact (hq : False).elim
  | .ok .cont, hq => exact (hq : False).elim
/-- what stands while the keys are told -/
structure Kys (X : Cx) (pins : List (Addr × Obj)) (σ : L2.St) (H : Hp) (a kS : Addr) (e1 : Nat) (kz : List (Int × Int)) (ks : List V) (Hi : Hp) (s' : Shared) : Prop where
  inv : Inv X pins σ Hi s'
  same : Same H Hi
  at_ : Hi a = some (LsO a #[] e1)
  kst : Hi kS = some (.lst ks)
  tell : ∀ (j : Nat) (v : V), ks[j]? = some v → ∃ (q : Addr) (pr : Int × Int), v = .ref q ∧ kz[j]? = some pr ∧ Hi q = some (.tup [.int pr.1, .int pr.2])
theorem vals_snoc {xs : List V} {us : List Value} (r : Vals xs us) {v : V} {u : Value} (q : RelV v u) : Vals (xs ++ [v]) (us ++ [u]) := r.append (.cons q .nil)
theorem keys_turn {e1 : Nat} {kz : List (Int × Int)} {ks : List V} {Hi : Hp} {s' : Shared} {xs : List V} {v : V} {u : Value} {pr : Int × Int} {Q : Shared → Prop} (T : KeyFn X k f KeyOf) (sb : Sub X k A) (hne : a ≠ kS) (h0 : H kS = none)
    (L : Kys X pins σ H a kS e1 kz ks Hi s') (hk : kz[ks.length]? = some pr) (hv : KeyOf H v pr) (r : RelV v u) (hz : ks.length + 1 ≤ sizeLine)
    (q : ∀ (ks' : List V) (Hn : Hp) (s2 : Shared), ks'.length = ks.length + 1 → Kys X pins σ H a kS e1 kz ks' Hn s2 → Q s2) :
    wpAny (model X.prog X.w) A (call (.ref f) [u]) (fun z s2 => wpAny (model X.prog X.w) A (Builtin.List.listUpdate (.ref kS) (·.push z)) (fun _ s3 => Q s3) E s2) (fun _ _ => False) s' := by
  obtain ⟨fd, ps, sp, F, hb, hs⟩ := T.ex
  have hsp : sp [v] Hi (fun z H' => ∃ q, z = .ref q ∧ Same Hi H' ∧ H' q = some (.tup [.int pr.1, .int pr.2])) E0 := hs v pr Hi _ (T.mono _ _ _ _ hv L.same) fun p H' _ sm e => ⟨p, rfl, sm, e⟩
  refine wpAny_mono (run_at' F sb hb L.inv (.cons r .nil) hsp) (fun z s2 hq => ?_) fun _ _ z => z
  obtain ⟨w, H', I', rw', p, rfl, sm, ep⟩ := hq
  cases rw'
  obtain ⟨_, its, n, rv, hl, e⟩ := I'.lstM (sm _ _ L.kst)
  have hsz : its.toArray.size = ks.length := by rw [List.size_toArray]; exact hl.symm
  refine listUpdate_at e rfl ?_ (by rw [hsz]; omega) (by rw [Array.size_push, hsz]; omega)
  have I2 := I'.lset (f := (·.push (.ref p))) (t' := s2.toks) (sm _ _ L.kst) e (its' := its ++ [.ref p]) (by simp) (vals_snoc rv (v := .ref p) (u := .ref p) (show RelV (.ref p) (.ref p) from rfl)) (by rw [List.length_append]; exact hz)
  have pk : ∀ {b : Addr} {ys : List V}, H' b = some (.tup ys) → b ≠ kS := fun {b ys} h z => by
    rw [z, sm _ _ L.kst] at h
    cases h
  refine q (ks ++ [.ref p]) _ _ (by rw [List.length_append]; rfl) ⟨I2, fun b o h => ?_, ?_, upd_same, fun j w hj => ?_⟩
  · rw [upd_ne (fun z => by rw [z, h0] at h; cases h)]
    exact sm _ _ (L.same _ _ h)
  · rw [upd_ne hne]
    exact sm _ _ L.at_
  · rcases Nat.lt_or_ge j ks.length with hlt | hge
    · rw [List.getElem?_append_left hlt] at hj
      obtain ⟨q, pr', h1, h2, h3⟩ := L.tell j w hj
      exact ⟨q, pr', h1, h2, by rw [upd_ne (pk (sm _ _ h3))]; exact sm _ _ h3⟩
    · rw [List.getElem?_append_right hge] at hj
      have ej : j - ks.length = 0 := by
        have := (List.getElem?_eq_some_iff.mp hj).1
        simp at this
        omega
      rw [ej] at hj
      have ej' : j = ks.length := by omega
      subst ej'
      simp at hj
      exact ⟨p, pr, hj.symm, hk, by rw [upd_ne (pk ep)]; exact ep⟩
end
end EW
end

section
set_option maxHeartbeats 4000000
namespace EW
open PySem PySem.Spec PyProof.Rows L2
section
variable {X : Cx} {k : Nat} {f a kS : Addr} {KeyOf : Hp → V → Int × Int → Prop} {pins : List (Addr × Obj)} {σ : L2.St} {H : Hp} {s : Shared} {A : Around} {E : Value → Shared → Prop} {P : PySem.Fin → Shared → Prop}
/-- how the values stand behind the sort -/
def Out (xs : List V) (kz : List (Int × Int)) (ys : List V) : Prop := ∃ ps : List (V × (Int × Int)), ps.Perm (xs.zip kz) ∧ ps.Pairwise (fun x y => SrtO.lexB y.2 x.2 = false) ∧ ys = ps.map (·.1)
theorem keys_pairs {e1 : Nat} {kz : List (Int × Int)} {ks : List V} {Hi : Hp} {s' : Shared} {us : List Value} (L : Kys X pins σ H a kS e1 kz ks Hi s') (rv : Vals ks us) : ∀ (j : Nat) (u : Value), us[j]? = some u → ∃ pr : Int × Int, kz[j]? = some pr ∧ Srt.IsPair s'.heap u pr.1 pr.2 := by
  intro j u hu
  have hj : j < ks.length := by rw [rv.length]; exact (List.getElem?_eq_some_iff.mp hu).1
  obtain ⟨q, pr, h1, h2, h3⟩ := L.tell j _ (List.getElem?_eq_getElem hj)
  obtain ⟨u', hu', ru⟩ := rv.get (List.getElem?_eq_getElem hj)
  rw [hu] at hu'
  obtain rfl := Option.some.inj hu'
  rw [h1] at ru
  cases ru
  obtain ⟨_, its2, r2, o, ho, hc, n, hd⟩ := L.inv.hok _ _ h3
  obtain ⟨u1, u2, rfl, ri, rj⟩ := vals2 r2
  obtain ⟨t1, rfl⟩ := ri
  obtain ⟨t2, rfl⟩ := rj
  exact ⟨pr, h2, q, o, t1, t2, n, rfl, ho, hc, hd⟩
theorem zip_out {h : Heap} : ∀ {us vs : List Value} {kz : List (Int × Int)}, us.length = vs.length → kz.length = vs.length → (∀ (j : Nat) (u : Value), us[j]? = some u → ∃ pr : Int × Int, kz[j]? = some pr ∧ Srt.IsPair h u pr.1 pr.2) →
    (us.zip vs).map (fun p => (backV p.2, pairAt h p.1)) = (vs.map backV).zip kz
  | [], [], [], _, _, _ => rfl
  | u :: us, v :: vs, pr :: kz, h1, h2, hp => by
    obtain ⟨pr', e, hu⟩ := hp 0 u rfl
    cases e
    rw [List.zip_cons_cons, List.map_cons, List.map_cons, List.zip_cons_cons, zip_out (us := us) (vs := vs) (kz := kz) (by simpa using h1) (by simpa using h2) fun j w hw => by simpa using hp (j + 1) w (by simpa using hw)]
    rw [pairAt_of hu]
  | [], _ :: _, _, h1, _, _ => by simp at h1
  | _ :: _, [], _, h1, _, _ => by simp at h1
  | _, [], _ :: _, _, h2, _ => by simp at h2
  | _, _ :: _, [], _, h2, _ => by simp at h2
/-- the end: the keys go, the list is filled again -/
theorem sort_tail {e1 : Nat} {kz : List (Int × Int)} {ks xs : List V} {Hi : Hp} {vs us : List Value} {st : SortSt} (hne : a ≠ kS) (ha : H a = none) (h0 : H kS = none) (L : Kys X pins σ H a kS e1 kz ks Hi s) (rv : Vals ks us) (r : Vals xs vs) (hx : ∀ x ∈ xs, ∃ b, x = V.ref b)
    (hl : us.length = vs.length) (hk : kz.length = vs.length) (hp : (arrOf st).toList.Perm (us.zip vs)) (hs : SrtO.Srtd (SrtO.lt2 fun v u => SrtO.lexB (pairAt s.heap v) (pairAt s.heap u)) (arrOf st).toList) (hf : failedOf st = none) (hz : xs.length ≤ sizeLine)
    (q : ∀ ys Hn s', Out xs kz ys → Inv X pins σ Hn s' → Same H Hn → Hn a = some (.lst ys) → P (.done (.ret .none)) s') : wpAny (model X.prog X.w) A (ksk_tail a false e1 (.ref kS) st) P E s := by
  obtain ⟨ex, hr⟩ := refs_back r hx
  have hlen : (arrOf st).size = vs.length := by
    have h1 := hp.length_eq
    rw [Array.length_toList, List.length_zip, hl, Nat.min_self] at h1
    exact h1
  obtain ⟨zk, its, n, rk, hkl, e⟩ := L.inv.lstM L.kst
  have ea : s.heap.get? a = some (seqObj "list" #[] e1) := (L.inv.hok a _ L.at_).1
  unfold ksk_tail
  try dsimp only
  refine wpAny_bind (listUpdate_at e rfl ?_ (by rw [List.size_toArray, ← hkl]; exact zk) (Nat.zero_le _))
  have I1 := L.inv.lset (f := fun _ => #[]) (ys := []) (t' := s.toks) L.kst e (its' := []) rfl .nil (Nat.zero_le _)
  have ea1 : (s.heap.update kS (Obj.mapSeq fun _ => (#[] : Array Value))).get? a = some (seqObj "list" #[] e1) := (Heap.get?_update_other s.heap _ (Ne.symm hne)).trans ea
  refine wpAny_bind (wpAny_letGo ?_)
  refine wpAny_bind (seqEpoch_at ea1 rfl ?_)
  have hout : ((arrOf st).map (·.2)).size = vs.length := by rw [Array.size_map]; exact hlen
  have hvx : vs.length ≤ sizeLine := by rw [← r.length]; exact hz
  refine wpAny_bind (listUpdate_at ea1 rfl ?_ (Nat.zero_le _) (by simp only [Bool.false_eq_true, if_false]; rw [hout]; omega))
  rw [hf]
  simp only [bne_self_eq_false, Bool.false_eq_true, if_false]
  have en : ((s.heap.update kS (Obj.mapSeq fun _ => (#[] : Array Value))).update a (Obj.mapSeq fun _ => (arrOf st).map (·.2))).get? a = some (seqObj "list" ((arrOf st).map (·.2)) _) := get?_update_seq ea1 fun _ => (arrOf st).map (·.2)
  have hrefs : ∀ u ∈ ((arrOf st).map (·.2)).toList, ∃ b, u = Value.ref b := fun u hu => by
    rw [Array.toList_map, List.mem_map] at hu
    obtain ⟨p, hm, rfl⟩ := hu
    exact hr _ (List.of_mem_zip (hp.mem_iff.mp hm)).2
  have hI : (upd Hi kS (.lst [])) a = some (LsO a #[] e1) := by rw [upd_ne hne]; exact L.at_
  refine wpAny_pure (q (((arrOf st).map (·.2)).toList.map backV) _ _ ?_ (I1.write (o := .lst (((arrOf st).map (·.2)).toList.map backV)) (t' := s.toks) (by rw [hI]; exact True.intro) (.inl rfl) (fun b u hb hu => (Heap.get?_update_other _ _ (Ne.symm hb)).trans hu) ⟨_, en⟩ ⟨?_, _, _, vals_back hrefs, by rw [Array.toArray_toList]; exact en⟩) ?_ upd_same)
  · refine ⟨(arrOf st).toList.map (fun p => (backV p.2, pairAt s.heap p.1)), ?_, ?_, ?_⟩
    · have z := hp.map (fun p : Keyed => (backV p.2, pairAt s.heap p.1))
      rw [zip_out hl hk (keys_pairs L rv), ← ex] at z
      exact z
    · rw [List.pairwise_map]
      exact hs
    · rw [List.map_map, Array.toList_map, List.map_map]
      rfl
  · rw [List.length_map, Array.length_toList, hout]
    exact hvx
  · intro b o h
    rw [upd_ne (fun z => by rw [z, ha] at h; cases h), upd_ne (fun z => by rw [z, h0] at h; cases h)]
    exact L.same _ _ h
end
end EW
end

section
set_option maxHeartbeats 4000000
namespace EW
open PySem PySem.Spec PyProof.Rows L2
section
variable {X : Cx} {k : Nat} {f a kS : Addr} {KeyOf : Hp → V → Int × Int → Prop} {pins : List (Addr × Obj)} {σ : L2.St} {H : Hp} {s : Shared} {A : Around} {E : Value → Shared → Prop} {P : PySem.Fin → Shared → Prop}
theorem sort_end {e1 : Nat} {kz : List (Int × Int)} {ks xs : List V} {Hi : Hp} {vs us : List Value} (hne : a ≠ kS) (ha : H a = none) (h0 : H kS = none) (L : Kys X pins σ H a kS e1 kz ks Hi s) (rv : Vals ks us) (r : Vals xs vs) (hx : ∀ x ∈ xs, ∃ b, x = V.ref b)
    (hl : us.length = vs.length) (hk : kz.length = vs.length) (hz : xs.length ≤ sizeLine)
    (q : ∀ ys Hn s', Out xs kz ys → Inv X pins σ Hn s' → Same H Hn → Hn a = some (.lst ys) → P (.done (.ret .none)) s') : wpAny (model X.prog X.w) A (ksk_end a false vs.toArray e1 (.ref kS) us.toArray) P E s := by
  have ez : (us.toArray.zip vs.toArray).toList = us.zip vs := by simp
  have hsz : vs.toArray.size = vs.length := List.size_toArray
  have hps : ∀ u ∈ us, Srt.IsPair s.heap u (pairAt s.heap u).1 (pairAt s.heap u).2 := fun u hu => by
    obtain ⟨j, hj⟩ := List.getElem?_of_mem hu
    obtain ⟨pr, _, hp⟩ := keys_pairs L rv j u hj
    rw [pairAt_of hp]
    exact hp
  have ea : s.heap.get? a = some (seqObj "list" #[] e1) := (L.inv.hok a _ L.at_).1
  unfold ksk_end
  try dsimp only
  simp only [Bool.false_eq_true, if_false]
  by_cases h2 : vs.toArray.size < 2
  · rw [if_pos h2, if_pos h2]
    refine wpAny_bind (wpAny_pure ?_)
    rw [StateT.run_pure]
    refine wpAny_bind (wpAny_pure ?_)
    try dsimp only
    refine sort_tail (st := SortSt.mk' general' (us.toArray.zip vs.toArray) #[] 7 none) hne ha h0 L rv r hx hl hk (List.Perm.of_eq ez) ?_ rfl hz q
    show SrtO.Srtd _ (us.toArray.zip vs.toArray).toList
    rw [ez]
    match us, vs, hl, h2 with
    | [], [], _, _ => exact List.Pairwise.nil
    | [u], [v], _, _ => exact List.pairwise_singleton _ _
    | _, _ :: _ :: l, _, h2 => exact absurd h2 (by simp)
    | _ :: _ :: _, [], hl, _ => simp at hl
    | _ :: _ :: _, [_], hl, _ => simp at hl
    | [], [_], hl, _ => simp at hl
    | [_], [], hl, _ => simp at hl
  · rw [if_neg h2, if_neg h2]
    have hS := SrtO.pairs_sortableO (prog := X.prog) (w := X.w) (A := A) (s := s) (a := a) (vs := us) (k := pairAt s.heap) (by omega) hps fun o e => by
      rw [ea] at e
      cases e
      intro c
      exact absurd (Value.type.inj c) (by decide)
    obtain ⟨κ, hkind, hT⟩ := hS s.heap fun _ _ _ e => e
    refine wpAny_bind (hkind _ _ ?_)
    have hall : SrtO.AllL (fun p : Keyed => p.1 ∈ us) (us.toArray.zip vs.toArray).toList := fun p hm => by
      rw [ez] at hm
      exact (List.of_mem_zip hm).1
    refine wpAny_bind (wpAny_mono (SrtO.wpS_sortO (st0 := SortSt.mk' κ (us.toArray.zip vs.toArray) #[] 7 none)
      (Q := fun _ st' => SrtO.Srtd (SrtO.lt2 fun v u => SrtO.lexB (pairAt s.heap v) (pairAt s.heap u)) (arrOf st').toList ∧ (arrOf st').toList.Perm (us.zip vs) ∧ failedOf st' = none) (SrtO.swo2 (SrtO.swo_lex (pairAt s.heap))) hT rfl hall rfl rfl fun st' b1 b2 b3 => ⟨b1, by rw [← ez]; exact b2.perm, b3⟩) ?_ fun _ _ z => z)
    rintro ⟨⟨⟩, st'⟩ s' ⟨rfl, b1, b2, b3⟩
    try dsimp only
    exact sort_tail hne ha h0 L rv r hx hl hk b2 b1 b3 hz q
theorem sort_rest {e1 : Nat} {kz : List (Int × Int)} {xs : List V} {Hi : Hp} {vs : List Value} (T : KeyFn X k f KeyOf) (sb : Sub X k A) (hne : a ≠ kS) (ha : H a = none) (h0 : H kS = none) (L : Kys X pins σ H a kS e1 kz [] Hi s) (r : Vals xs vs) (hx : ∀ x ∈ xs, ∃ b, x = V.ref b)
    (hk : kz.length = xs.length) (hz : xs.length ≤ sizeLine) (hK : ∀ (j : Nat) (x : V) (pr : Int × Int), xs[j]? = some x → kz[j]? = some pr → KeyOf H x pr)
    (q : ∀ ys Hn s', Out xs kz ys → Inv X pins σ Hn s' → Same H Hn → Hn a = some (.lst ys) → P (.done (.ret .none)) s') : wpAny (model X.prog X.w) A (ksk_rest a (.ref f) false vs.toArray e1 (.ref kS)) P E s := by
  have hlv := r.length
  unfold ksk_rest
  refine wpAny_bind (wpAny_rule ?_)
  first
    | rw [List.forIn_toArray]
    | (rw [← Array.forIn_toList]; simp only [List.toList_toArray])
    | rw [← Array.forIn_toList]
  refine wpAny_bind (ksk_fold (fun i s' => ∃ ks Hn, ks.length = i ∧ Kys X pins σ H a kS e1 kz ks Hn s') vs 0 s ⟨[], Hi, rfl, L⟩ ?step ?done)
  case step =>
    rintro j x s' hxj ⟨ks, Hn, hj, L'⟩
    simp only [Nat.zero_add] at hj ⊢
    have hjv : j < vs.length := (List.getElem?_eq_some_iff.mp hxj).1
    obtain ⟨v, hv⟩ : ∃ v, xs[j]? = some v := ⟨_, List.getElem?_eq_getElem (by omega)⟩
    obtain ⟨pr, hpr⟩ : ∃ pr, kz[j]? = some pr := ⟨_, List.getElem?_eq_getElem (by omega)⟩
    obtain ⟨u, hu, ru⟩ := r.get hv
    rw [hxj] at hu
    obtain rfl := Option.some.inj hu
    refine wpAny_bind (wpAny_attempt ?_)
    refine wpAny_mono (keys_turn (E := E) (xs := xs) (Q := fun s2 => ∃ ks' Hn', ks'.length = j + 1 ∧ Kys X pins σ H a kS e1 kz ks' Hn' s2) T sb hne h0 L' (by rw [hj]; exact hpr) (hK j v pr hv hpr) ru (by omega) fun ks' Hn' s2 h1 h2 => ⟨ks', Hn', by omega, h2⟩) (fun z s2 hq => ?_) fun _ _ z => z.elim
    try dsimp only
    refine wpAny_bind (wpAny_mono hq (fun _ s3 h3 => ?_) fun _ _ z => z)
    exact wpAny_pure ⟨rfl, h3⟩
  case done =>
    rintro s' ⟨ks, Hn, hj, L'⟩
    simp only [Nat.zero_add] at hj
    obtain ⟨_, us, n, rk, hkl, e⟩ := L'.inv.lstM L'.kst
    try dsimp only
    refine wpAny_bind (listItems_at e rfl ?_)
    exact sort_end hne ha h0 L' rk r hx (by omega) (by omega) hz q
end
end EW
end

section
set_option maxHeartbeats 4000000
namespace EW
open PySem PySem.Spec PyProof.Rows L2
section
variable {X : Cx} {k : Nat} {f a kS : Addr} {KeyOf : Hp → V → Int × Int → Prop} {pins : List (Addr × Obj)} {σ : L2.St} {H : Hp} {s : Shared} {A : Around} {E : Value → Shared → Prop} {P : PySem.Fin → Shared → Prop}
theorem sort_tree {kz : List (Int × Int)} {xs : List V} {vs : List Value} {n : Nat} (T : KeyFn X k f KeyOf) (sb : Sub X k A) (ha : H a = none) (I : Inv X pins σ (upd H a (.lst xs)) s) (ho : s.heap.get? a = some (seqObj "list" vs.toArray n)) (r : Vals xs vs) (hx : ∀ x ∈ xs, ∃ b, x = V.ref b)
    (hk : kz.length = xs.length) (hK : ∀ (j : Nat) (x : V) (pr : Int × Int), xs[j]? = some x → kz[j]? = some pr → KeyOf H x pr)
    (q : ∀ ys Hn s', Out xs kz ys → Inv X pins σ Hn s' → Same H Hn → Hn a = some (.lst ys) → P (.done (.ret .none)) s') : wpAny (model X.prog X.w) A (ksk_tree a (.ref f) false) P E s := by
  have hz : xs.length ≤ sizeLine := (I.lstM upd_same).1
  have hv : vs.length ≤ sizeLine := by rw [← r.length]; exact hz
  obtain ⟨e1, ho1⟩ : ∃ e1, (s.heap.update a (Obj.mapSeq fun _ => (#[] : Array Value))).get? a = some (seqObj "list" #[] e1) := ⟨_, get?_update_seq ho fun _ => #[]⟩
  unfold ksk_tree
  refine wpAny_bind (listItems_at ho rfl ?_)
  refine wpAny_bind (listUpdate_at ho rfl ?_ (by rw [List.size_toArray]; exact hv) (Nat.zero_le _))
  refine wpAny_bind (seqEpoch_at ho1 rfl ?_)
  refine wpAny_bind (wpAny_newTuple ?_ hv)
  refine wpAny_bind (wpAny_newList ?_ (Nat.zero_le _))
  refine wpAny_holding ?_
  have I1 : Inv X pins σ (upd (upd H a (.lst xs)) a (LsO a #[] e1)) { s with heap := s.heap.update a (Obj.mapSeq fun _ => (#[] : Array Value)), toks := s.toks } :=
    I.write (by rw [upd_same]; exact True.intro) (.inl rfl) (fun b u hb hu => (Heap.get?_update_other _ _ (Ne.symm hb)).trans hu) ⟨_, ho1⟩ (lsO_ok ho1)
  have I2 := I1.kept (h' := (s.heap.update a (Obj.mapSeq fun _ => (#[] : Array Value))).push (seqObj "tuple" vs.toArray 0)) (t' := s.toks) fun b u e => Heap.get?_push_of_some _ e
  have I3 := I2.lnew (ys := []) (its := []) (t' := s.toks) .nil (Nat.zero_le _)
  have hf := I2.fresh
  have hne : a ≠ ((s.heap.update a (Obj.mapSeq fun _ => (#[] : Array Value))).push (seqObj "tuple" vs.toArray 0)).objs.size := fun z => by
    rw [← z, upd_same] at hf
    cases hf
  refine sort_rest T sb hne ha ?_ ⟨I3, fun b o h => ?_, ?_, upd_same, fun j v hj => by simp at hj⟩ r hx hk hz hK q
  · rw [upd_ne (Ne.symm hne), upd_ne (Ne.symm hne)] at hf
    exact hf
  · have h1 : b ≠ a := fun z => by rw [z, ha] at h; cases h
    rw [upd_ne (fun z => by rw [← z, upd_ne h1, upd_ne h1, h] at hf; cases hf), upd_ne h1, upd_ne h1]
    exact h
  · rw [upd_ne hne]
    exact upd_same
def rSortBy (K : W.Frag) (f : Addr) (KeyOf : Hp → V → Int × Int → Prop) : List V → List V → Hp → VK → Prop := fun vs zs H Q => ∃ (a : Addr) (xs : List V) (kz : List (Int × Int)), vs = [.ref a] ∧ zs = [.ref f] ∧ SqL K H a xs ∧ (∀ x ∈ xs, ∃ b, x = V.ref b) ∧ kz.length = xs.length ∧
  (∀ (j : Nat) (x : V) (pr : Int × Int), xs[j]? = some x → kz[j]? = some pr → KeyOf H x pr) ∧ ∀ ys, Out xs kz ys → New H (fun _ => .lst ys) Q
/-- sorted(l, key=f) -/
theorem cr_sortedBy (T : KeyFn X k f KeyOf) (hr : Room (k + 2) X.A) : CallRK X (.builtin "sorted") [Str.ofString "key"] (rSortBy X.K f KeyOf) := by
  intro pins s σ H vs zs us ws Q I r rz h
  obtain ⟨l, xs, kz, rfl, rfl, hS, hx, hk, hK, q⟩ := h
  obtain rfl := Vals.ref1 r
  obtain rfl := Vals.ref1 rz
  obtain ⟨its, rv, hl, hz⟩ := I.list hS
  have hz' : its.length ≤ sizeLine := by rw [← rv.length]; exact hz
  show wpAny _ _ (call (.builtin "sorted") [.ref l] [(Str.ofString "key", .ref f)]) _ _ _
  refine call_function_entry_kw kind_sorted plain_sorted entry_sorted (ksk_s1 _ _) ?_
  unfold Builtin.«sorted»
  refine wpAny_bind (m := checkCount "sorted" 1 1 _) (wpAny_pure ?_)
  refine wpAny_bind (collect_list hl.isList ?_ hz')
  refine wpAny_bind (wpAny_newList ?_ hz')
  have hsz : ((s.heap.push (seqObj "list" #[] 0)).update s.heap.objs.size (Obj.mapSeq (· ++ its.toArray))).objs.size = s.heap.objs.size + 1 := by
    rw [Heap.size_update, size_push']
  have hoL : (((s.heap.push (seqObj "list" #[] 0)).update s.heap.objs.size (Obj.mapSeq (· ++ its.toArray))).push (seqObj "list" its.toArray 0)).get? (s.heap.objs.size + 1) = some (seqObj "list" its.toArray 0) := by
    rw [← hsz]; exact Heap.get?_push_size _ rfl
  have keep : ∀ b o, s.heap.get? b = some o → (((s.heap.push (seqObj "list" #[] 0)).update s.heap.objs.size (Obj.mapSeq (· ++ its.toArray))).push (seqObj "list" its.toArray 0)).get? b = some o := fun b o e => by
    refine Heap.get?_push_of_some _ ?_
    rw [Heap.get?_update_ne _ _ _ _ (Nat.ne_of_lt (Heap.lt_size e))]
    exact Heap.get?_push_of_some _ e
  show wpAny _ _ _ _ _ { s with heap := ((s.heap.push (seqObj "list" #[] 0)).update s.heap.objs.size (Obj.mapSeq (· ++ its.toArray))).push (seqObj "list" its.toArray 0) }
  rw [hsz]
  have hfr : H (s.heap.objs.size + 1) = none := I.hok.fresh (Nat.le_succ _)
  have I1 := I.laid (h' := ((s.heap.push (seqObj "list" #[] 0)).update s.heap.objs.size (Obj.mapSeq (· ++ its.toArray))).push (seqObj "list" its.toArray 0)) (a := s.heap.objs.size + 1) (o := .lst xs) (t' := s.toks) keep (Nat.le_succ _) ⟨hz, its, 0, rv, hoL⟩
  refine wpAny_bind (wpAny_holding (wpAny_call_entry_kw slot_list_sort ⟨_, hoL, rfl⟩ entry_list_sort ?_ (ksk_l1 _ _)))
  rw [ksk_t1]
  refine sort_tree T (Sub.in1 (Sub.in1 ⟨hr, rfl⟩)) hfr I1 hoL rv hx hk hK fun ys Hn s' o I' sm ea => ⟨_, rfl, ?_⟩
  exact wpAny_pure ⟨_, rfl, .ref _, Hn, I', rfl, q ys o _ Hn hfr sm ea⟩
end
end EW
end

section

/-! Sets of times by runs: the mathematics, no program in sight -/
namespace Rn
/-- a span: residue or none, least, most -/
structure Sp3 where
  res : Option Int
  lo : Option Int
  hi : Option Int
  deriving DecidableEq
/-- a run -/
structure Run where
  r : Int
  lo : Option Int
  hi : Option Int
  deriving DecidableEq
def Run.span (x : Run) : Sp3 := ⟨some x.r, x.lo, x.hi⟩
def geLo (lo : Option Int) (t : Int) : Prop := ∀ l, lo = some l → l ≤ t
def leHi (hi : Option Int) (t : Int) : Prop := ∀ m, hi = some m → t ≤ m
def inRun (p : Int) (x : Run) (t : Int) : Prop := t % p = x.r ∧ geLo x.lo t ∧ leHi x.hi t
def inRuns (p : Int) (xs : List Run) (t : Int) : Prop := ∃ x ∈ xs, inRun p x t
def inSpan (p : Int) (s : Sp3) (t : Int) : Prop := (∀ r, s.res = some r → t % p = r) ∧ geLo s.lo t ∧ leHi s.hi t
def inSpans (p : Int) (ss : List Sp3) (t : Int) : Prop := ∃ s ∈ ss, inSpan p s t
/-- rounded up to the residue, rounded down -/
def upTo (p r l : Int) : Int := l + (r - l) % p
def downTo (p r m : Int) : Int := m - (m - r) % p
def runOf (p r : Int) (lo hi : Option Int) : Option Run :=
  match lo.map (upTo p r), hi.map (downTo p r) with
  | some l, some m => if l > m then none else some ⟨r, some l, some m⟩
  | l, m => some ⟨r, l, m⟩
/-- what a run must be -/
structure Good (p : Int) (x : Run) : Prop where
  r0 : 0 ≤ x.r
  r1 : x.r < p
  lo : ∀ l, x.lo = some l → l % p = x.r
  hi : ∀ m, x.hi = some m → m % p = x.r
  le : ∀ l m, x.lo = some l → x.hi = some m → l ≤ m
section
variable {p r t : Int}
theorem dvd_of_mods {a b : Int} (h : a % p = b % p) : ∃ k, a - b = p * k := by
  have h1 : (a - b) % p = 0 := by
    rw [Int.sub_emod, h, Int.sub_self]
    exact Int.zero_emod _
  exact ⟨(a - b) / p, by
    have := Int.mul_ediv_add_emod (a - b) p
    omega⟩
/-- two numbers of one remainder: less means less by a period at least -/
theorem step_of {a b : Int} (hp : 0 < p) (h : a % p = b % p) (l : a < b) : a + p ≤ b := by
  obtain ⟨k, hk⟩ := dvd_of_mods (p := p) h.symm
  have k0 : 0 < k := by
    rcases Int.lt_or_le 0 k with z | z
    · exact z
    · have : p * k ≤ p * 0 := Int.mul_le_mul_of_nonneg_left z (Int.le_of_lt hp)
      omega
  have : p * 1 ≤ p * k := Int.mul_le_mul_of_nonneg_left (by omega) (Int.le_of_lt hp)
  omega
theorem upTo_mod (h0 : 0 ≤ r) (h1 : r < p) (l : Int) : upTo p r l % p = r := by
  unfold upTo
  rw [Int.add_emod, Int.emod_emod, ← Int.add_emod]
  have : l + (r - l) = r := by omega
  rw [this]
  exact Int.emod_eq_of_lt h0 h1
theorem downTo_mod (h0 : 0 ≤ r) (h1 : r < p) (m : Int) : downTo p r m % p = r := by
  unfold downTo
  rw [Int.sub_emod, Int.emod_emod, ← Int.sub_emod]
  have : m - (m - r) = r := by omega
  rw [this]
  exact Int.emod_eq_of_lt h0 h1
theorem upTo_le (hp : 0 < p) (l : Int) : l ≤ upTo p r l ∧ upTo p r l < l + p := by
  unfold upTo
  have h1 := Int.emod_nonneg (r - l) (Int.ne_of_gt hp)
  have h2 := Int.emod_lt_of_pos (r - l) hp
  omega
theorem downTo_le (hp : 0 < p) (m : Int) : downTo p r m ≤ m ∧ m - p < downTo p r m := by
  unfold downTo
  have h1 := Int.emod_nonneg (m - r) (Int.ne_of_gt hp)
  have h2 := Int.emod_lt_of_pos (m - r) hp
  omega
theorem upTo_iff (h0 : 0 ≤ r) (h1 : r < p) (ht : t % p = r) (l : Int) : upTo p r l ≤ t ↔ l ≤ t := by
  have hp : 0 < p := by omega
  have a := upTo_le (r := r) hp l
  constructor
  · intro h
    omega
  · intro h
    rcases Int.lt_or_le t (upTo p r l) with z | z
    · have := step_of hp (by rw [ht, upTo_mod h0 h1]) z
      omega
    · exact z
theorem downTo_iff (h0 : 0 ≤ r) (h1 : r < p) (ht : t % p = r) (m : Int) : t ≤ downTo p r m ↔ t ≤ m := by
  have hp : 0 < p := by omega
  have a := downTo_le (r := r) hp m
  constructor
  · intro h
    omega
  · intro h
    rcases Int.lt_or_le (downTo p r m) t with z | z
    · have := step_of hp (by rw [ht, downTo_mod h0 h1]) z
      omega
    · exact z
/-- what the run of a residue between bounds has -/
theorem runOf_some {lo hi : Option Int} {x : Run} (h0 : 0 ≤ r) (h1 : r < p) (h : runOf p r lo hi = some x) : Good p x ∧ x.r = r ∧ ∀ t, inRun p x t ↔ (t % p = r ∧ geLo lo t ∧ leHi hi t) := by
  have key : x.r = r ∧ x.lo = lo.map (upTo p r) ∧ x.hi = hi.map (downTo p r) ∧ (∀ l m, x.lo = some l → x.hi = some m → l ≤ m) := by
    unfold runOf at h
    cases lo with
    | none =>
      cases hi with
      | none => cases h; exact ⟨rfl, rfl, rfl, fun l m z _ => nomatch z⟩
      | some m => cases h; exact ⟨rfl, rfl, rfl, fun l m z _ => nomatch z⟩
    | some l =>
      cases hi with
      | none => cases h; exact ⟨rfl, rfl, rfl, fun l m _ z => nomatch z⟩
      | some m =>
        have h' : (if upTo p r l > downTo p r m then none else some (⟨r, some (upTo p r l), some (downTo p r m)⟩ : Run)) = some x := h
        split at h'
        · cases h'
        · rename_i z
          cases h'
          refine ⟨rfl, rfl, rfl, fun a b ha hb => ?_⟩
          cases ha
          cases hb
          omega
  obtain ⟨e1, e2, e3, e4⟩ := key
  refine ⟨⟨by omega, by omega, fun l z => ?_, fun m z => ?_, e4⟩, e1, fun t => ?_⟩
  · rw [e2] at z
    cases lo with
    | none => cases z
    | some l' =>
      cases z
      rw [e1]
      exact upTo_mod h0 h1 l'
  · rw [e3] at z
    cases hi with
    | none => cases z
    | some m' =>
      cases z
      rw [e1]
      exact downTo_mod h0 h1 m'
  · unfold inRun
    rw [e1, e2, e3]
    constructor
    · rintro ⟨a, b, c⟩
      refine ⟨a, fun l z => ?_, fun m z => ?_⟩
      · subst z
        exact (upTo_iff h0 h1 a l).mp (b _ rfl)
      · subst z
        exact (downTo_iff h0 h1 a m).mp (c _ rfl)
    · rintro ⟨a, b, c⟩
      refine ⟨a, fun l z => ?_, fun m z => ?_⟩
      · cases lo with
        | none => cases z
        | some l' =>
          cases z
          exact (upTo_iff h0 h1 a l').mpr (b _ rfl)
      · cases hi with
        | none => cases z
        | some m' =>
          cases z
          exact (downTo_iff h0 h1 a m').mpr (c _ rfl)
theorem runOf_none {lo hi : Option Int} (h0 : 0 ≤ r) (h1 : r < p) (h : runOf p r lo hi = none) (t : Int) : ¬ (t % p = r ∧ geLo lo t ∧ leHi hi t) := by
  rintro ⟨a, b, c⟩
  unfold runOf at h
  cases lo with
  | none => cases hi <;> cases h
  | some l =>
    cases hi with
    | none => cases h
    | some m =>
      have h' : (if upTo p r l > downTo p r m then none else some (⟨r, some (upTo p r l), some (downTo p r m)⟩ : Run)) = none := h
      split at h'
      · have b1 := (upTo_iff h0 h1 a l).mpr (b _ rfl)
        have c1 := (downTo_iff h0 h1 a m).mpr (c _ rfl)
        omega
      · cases h'
end
end Rn
end

section

namespace Rn
/-! ### the one list of runs of a set -/
/-- x comes ahead of y, and they don't touch -/
def Lt (p : Int) (x y : Run) : Prop := x.r < y.r ∨ (x.r = y.r ∧ ∃ h l, x.hi = some h ∧ y.lo = some l ∧ h + p < l)
structure Canon (p : Int) (xs : List Run) : Prop where
  good : ∀ x ∈ xs, Good p x
  pw : xs.Pairwise (Lt p)
section
variable {p : Int}
theorem Canon.tail {x : Run} {xs : List Run} (h : Canon p (x :: xs)) : Canon p xs := ⟨fun y hy => h.good y (List.mem_cons_of_mem _ hy), (List.pairwise_cons.mp h.pw).2⟩
theorem Canon.head {x : Run} {xs : List Run} (h : Canon p (x :: xs)) : Good p x := h.good x List.mem_cons_self
theorem Canon.lt {x : Run} {xs : List Run} (h : Canon p (x :: xs)) : ∀ y ∈ xs, Lt p x y := (List.pairwise_cons.mp h.pw).1
/-- a run has a member: its least one, its greatest one, or its residue -/
theorem Good.some {x : Run} (g : Good p x) : ∃ t, inRun p x t := by
  have hp : 0 < p := by have := g.r0; have := g.r1; omega
  cases el : x.lo with
  | some l =>
    refine ⟨l, g.lo l el, fun l' z => ?_, fun m z => ?_⟩
    · rw [el] at z
      cases z
      exact Int.le_refl _
    · exact g.le l m el z
  | none =>
    cases eh : x.hi with
    | some m =>
      refine ⟨m, g.hi m eh, fun l' z => ?_, fun m' z => ?_⟩
      · rw [el] at z
        cases z
      · rw [eh] at z
        cases z
        exact Int.le_refl _
    | none =>
      refine ⟨x.r, Int.emod_eq_of_lt g.r0 g.r1, fun l' z => ?_, fun m' z => ?_⟩
      · rw [el] at z
        cases z
      · rw [eh] at z
        cases z
/-- runs one ahead of the other have no common member -/
theorem Lt.apart {x y : Run} {t : Int} (hp : 0 < p) (h : Lt p x y) (hx : inRun p x t) (hy : inRun p y t) : False := by
  rcases h with h | ⟨_, a, b, e1, e2, h⟩
  · have := hx.1
    have := hy.1
    omega
  · have := hx.2.2 a e1
    have := hy.2.1 b e2
    omega
theorem tail_iff {x : Run} {xs : List Run} (hp : 0 < p) (h : Canon p (x :: xs)) (t : Int) : inRuns p xs t ↔ inRuns p (x :: xs) t ∧ ¬ inRun p x t := by
  constructor
  · rintro ⟨y, hy, m⟩
    exact ⟨⟨y, List.mem_cons_of_mem _ hy, m⟩, fun hx => (h.lt y hy).apart hp hx m⟩
  · rintro ⟨⟨y, hy, m⟩, n⟩
    rcases List.mem_cons.mp hy with rfl | hy
    · exact absurd m n
    · exact ⟨y, hy, m⟩
/-- of one residue: members of later runs come behind -/
theorem later {x y : Run} {xs : List Run} {t h : Int} (c : Canon p (x :: xs)) (hy : y ∈ xs) (m : inRun p y t) (er : t % p = x.r) (eh : x.hi = some h) : h + p < t := by
  rcases c.lt y hy with z | ⟨_, a, b, e1, e2, z⟩
  · have := m.1
    omega
  · rw [eh] at e1
    cases e1
    have := m.2.1 b e2
    omega
theorem later_none {x y : Run} {xs : List Run} {t : Int} (c : Canon p (x :: xs)) (hy : y ∈ xs) (m : inRun p y t) (er : t % p = x.r) (eh : x.hi = none) : False := by
  rcases c.lt y hy with z | ⟨_, a, b, e1, e2, z⟩
  · have := m.1
    omega
  · rw [eh] at e1
    cases e1
/-- the first run's least time is the least of its residue -/
theorem first_le {x : Run} {xs : List Run} {t l : Int} (hp : 0 < p) (c : Canon p (x :: xs)) (m : inRuns p (x :: xs) t) (er : t % p = x.r) (el : x.lo = some l) : l ≤ t := by
  obtain ⟨y, hy, m⟩ := m
  rcases List.mem_cons.mp hy with rfl | hy
  · exact m.2.1 l el
  · cases eh : x.hi with
    | none => exact (later_none c hy m er eh).elim
    | some h =>
      have := later c hy m er eh
      have := c.head.le l h el eh
      omega
theorem res_le {x : Run} {xs : List Run} {t : Int} (c : Canon p (x :: xs)) (m : inRuns p (x :: xs) t) : x.r ≤ t % p := by
  obtain ⟨y, hy, m⟩ := m
  rcases List.mem_cons.mp hy with rfl | hy
  · rw [m.1]
    exact Int.le_refl _
  · rcases c.lt y hy with z | ⟨z, _⟩
    · have := m.1
      omega
    · have := m.1
      omega
/-- less than any number, with a remainder -/
theorem below (hp : 0 < p) {r : Int} (h0 : 0 ≤ r) (h1 : r < p) (b : Int) : ∃ t, t % p = r ∧ t < b := by
  have h := downTo_le (p := p) (r := r) hp (b - 1)
  exact ⟨downTo p r (b - 1), downTo_mod h0 h1 _, by omega⟩
theorem above (hp : 0 < p) {r : Int} (h0 : 0 ≤ r) (h1 : r < p) (b : Int) : ∃ t, t % p = r ∧ b < t := by
  have h := upTo_le (p := p) (r := r) hp (b + 1)
  exact ⟨upTo p r (b + 1), upTo_mod h0 h1 _, by omega⟩
theorem in_lo {x : Run} (g : Good p x) {l : Int} (el : x.lo = some l) : inRun p x l := by
  refine ⟨g.lo l el, fun l' z => ?_, fun m z => g.le l m el z⟩
  rw [el] at z
  cases z
  exact Int.le_refl _
theorem in_hi {x : Run} (g : Good p x) {m : Int} (eh : x.hi = some m) : inRun p x m := by
  refine ⟨g.hi m eh, fun l z => g.le l m z eh, fun m' z => ?_⟩
  rw [eh] at z
  cases z
  exact Int.le_refl _
theorem res_eq {x y : Run} {xs ys : List Run} (c : Canon p (x :: xs)) (d : Canon p (y :: ys)) (h : ∀ t, inRuns p (x :: xs) t → inRuns p (y :: ys) t) : y.r ≤ x.r := by
  obtain ⟨t, m⟩ := c.head.some
  have := res_le d (h t ⟨x, List.mem_cons_self, m⟩)
  rw [m.1] at this
  exact this
theorem lo_le {x y : Run} {xs ys : List Run} (hp : 0 < p) (c : Canon p (x :: xs)) (d : Canon p (y :: ys)) (h : ∀ t, inRuns p (x :: xs) t → inRuns p (y :: ys) t) (e : x.r = y.r) {l : Int} (el : y.lo = some l) : ∃ l', x.lo = some l' ∧ l ≤ l' := by
  cases ex : x.lo with
  | some l' =>
    have m := in_lo c.head ex
    exact ⟨l', rfl, first_le hp d (h l' ⟨x, List.mem_cons_self, m⟩) (by rw [m.1, e]) el⟩
  | none =>
    exfalso
    have b : ∃ b : Int, b ≤ l ∧ leHi x.hi b := by
      cases eh : x.hi with
      | none => exact ⟨l, Int.le_refl _, fun m z => nomatch z⟩
      | some m =>
        refine ⟨min l m, by omega, fun m' z => ?_⟩
        cases z
        omega
    obtain ⟨b, b1, b2⟩ := b
    obtain ⟨t, t1, t2⟩ := below hp c.head.r0 c.head.r1 b
    have m : inRun p x t := ⟨t1, (fun l' z => by rw [ex] at z; cases z), (fun m z => by have := b2 m z; omega)⟩
    have := first_le hp d (h t ⟨x, List.mem_cons_self, m⟩) (by rw [t1, e]) el
    omega
theorem hi_le {x y : Run} {xs ys : List Run} (hp : 0 < p) (c : Canon p (x :: xs)) (d : Canon p (y :: ys)) (h : ∀ t, inRuns p (x :: xs) t → inRuns p (y :: ys) t) (e : x.r = y.r) (elo : x.lo = y.lo) {m : Int} (eh : y.hi = some m) : ∃ m', x.hi = some m' ∧ m' ≤ m := by
  have out : ∀ t, inRun p x t → t ≤ m + p → t ≤ m := fun t mt lt => by
    obtain ⟨z, hz, mz⟩ := h t ⟨x, List.mem_cons_self, mt⟩
    rcases List.mem_cons.mp hz with rfl | hz
    · exact mz.2.2 m eh
    · have := later d hz mz (by rw [mt.1, e]) eh
      omega
  have my := in_hi d.head eh
  have key : ∀ t, inRun p x t → t ≤ m := fun t mt => by
    rcases Int.lt_or_le m t with z | z
    · exfalso
      have mp : m + p ≤ t := step_of hp (by rw [my.1, mt.1, e]) z
      have m2 : inRun p x (m + p) := by
        refine ⟨by rw [Int.add_emod_right, my.1, e], fun l el => ?_, fun u eu => ?_⟩
        · have := d.head.le l m (by rw [← elo]; exact el) eh
          omega
        · have := mt.2.2 u eu
          omega
      have := out (m + p) m2 (Int.le_refl _)
      omega
    · exact z
  cases ex : x.hi with
  | some m' => exact ⟨m', rfl, key m' (in_hi c.head ex)⟩
  | none =>
    exfalso
    have b : ∃ b : Int, m ≤ b ∧ geLo x.lo b := by
      cases el : x.lo with
      | none => exact ⟨m, Int.le_refl _, fun l z => nomatch z⟩
      | some l =>
        refine ⟨max l m, by omega, fun l' z => ?_⟩
        cases z
        omega
    obtain ⟨b, b1, b2⟩ := b
    obtain ⟨t, t1, t2⟩ := above hp c.head.r0 c.head.r1 b
    have mt : inRun p x t := ⟨t1, (fun l z => by have := b2 l z; omega), (fun u z => by rw [ex] at z; cases z)⟩
    have := key t mt
    omega
/-- THE UNIQUENESS: equal members, equal runs -/
theorem canon_unique (hp : 0 < p) : ∀ {xs ys : List Run}, Canon p xs → Canon p ys → (∀ t, inRuns p xs t ↔ inRuns p ys t) → xs = ys
  | [], [], _, _, _ => rfl
  | [], y :: ys, _, d, h => by
    obtain ⟨t, m⟩ := d.head.some
    obtain ⟨z, hz, _⟩ := (h t).mpr ⟨y, List.mem_cons_self, m⟩
    cases hz
  | x :: xs, [], c, _, h => by
    obtain ⟨t, m⟩ := c.head.some
    obtain ⟨z, hz, _⟩ := (h t).mp ⟨x, List.mem_cons_self, m⟩
    cases hz
  | x :: xs, y :: ys, c, d, h => by
    have h1 : ∀ t, inRuns p (x :: xs) t → inRuns p (y :: ys) t := fun t => (h t).mp
    have h2 : ∀ t, inRuns p (y :: ys) t → inRuns p (x :: xs) t := fun t => (h t).mpr
    have er : x.r = y.r := by
      have := res_eq c d h1
      have := res_eq d c h2
      omega
    have el : x.lo = y.lo := by
      cases e1 : x.lo with
      | none =>
        cases e2 : y.lo with
        | none => rfl
        | some l =>
          obtain ⟨l', z, _⟩ := lo_le hp c d h1 er e2
          rw [e1] at z
          cases z
      | some a =>
        obtain ⟨b, z, q⟩ := lo_le hp d c h2 er.symm e1
        obtain ⟨a', z', q'⟩ := lo_le hp c d h1 er z
        rw [e1] at z'
        cases z'
        rw [z]
        congr 1
        omega
    have eh : x.hi = y.hi := by
      cases e1 : x.hi with
      | none =>
        cases e2 : y.hi with
        | none => rfl
        | some l =>
          obtain ⟨l', z, _⟩ := hi_le hp c d h1 er el e2
          rw [e1] at z
          cases z
      | some a =>
        obtain ⟨b, z, q⟩ := hi_le hp d c h2 er.symm el.symm e1
        obtain ⟨a', z', q'⟩ := hi_le hp c d h1 er el z
        rw [e1] at z'
        cases z'
        rw [z]
        congr 1
        omega
    have exy : x = y := by
      obtain ⟨a, b, c⟩ := x
      obtain ⟨a', b', c'⟩ := y
      cases er
      cases el
      cases eh
      rfl
    subst exy
    have := canon_unique hp c.tail d.tail fun t => by rw [tail_iff hp c, tail_iff hp d, h t]
    rw [this]
end
end Rn
end

section

namespace Rn
/-! ### runs of one residue, put together -/
def goesOn (p : Int) (x y : Run) : Bool := match x.hi, y.lo with
  | some h, some l => decide (l ≤ h + p)
  | _, _ => true
def hiMax (a b : Option Int) : Option Int := match a, b with
  | some u, some v => some (max u v)
  | _, _ => none
def merge (x y : Run) : Run := ⟨x.r, x.lo, hiMax x.hi y.hi⟩
/-- none comes ahead of all bounds -/
def loLe (a b : Option Int) : Prop := match a, b with
  | none, _ => True
  | some _, none => False
  | some u, some v => u ≤ v
theorem loLe.trans {a b c : Option Int} (h : loLe a b) (g : loLe b c) : loLe a c := by
  cases a with
  | none => trivial
  | some u =>
    cases b with
    | none => exact h.elim
    | some v =>
      cases c with
      | none => exact g.elim
      | some w => exact Int.le_trans (show u ≤ v from h) g
/-- what stands of the runs so far: found, of which the last one may still grow -/
structure Grow (p r : Int) (found done : List Run) : Prop where
  good : ∀ z ∈ found, Good p z ∧ z.r = r
  pw : found.Pairwise (Lt p)
  mem : ∀ t, inRuns p found t ↔ inRuns p done t
section
variable {p r : Int}
theorem Grow.nil : Grow p r [] [] := ⟨(fun _ h => nomatch h), List.Pairwise.nil, fun _ => Iff.rfl⟩
theorem inRuns_append {xs ys : List Run} {t : Int} : inRuns p (xs ++ ys) t ↔ inRuns p xs t ∨ inRuns p ys t := by
  constructor
  · rintro ⟨x, hx, m⟩
    rcases List.mem_append.mp hx with h | h
    · exact .inl ⟨x, h, m⟩
    · exact .inr ⟨x, h, m⟩
  · rintro (⟨x, hx, m⟩ | ⟨x, hx, m⟩)
    · exact ⟨x, List.mem_append_left _ hx, m⟩
    · exact ⟨x, List.mem_append_right _ hx, m⟩
theorem inRuns_one {x : Run} {t : Int} : inRuns p [x] t ↔ inRun p x t := by
  constructor
  · rintro ⟨y, hy, m⟩
    rw [List.mem_singleton] at hy
    subst hy
    exact m
  · exact fun m => ⟨x, List.mem_singleton.mpr rfl, m⟩
theorem merge_good {x y : Run} (gx : Good p x) (gy : Good p y) (e : x.r = y.r) : Good p (merge x y) := by
  refine ⟨gx.r0, gx.r1, gx.lo, fun m z => ?_, fun l m zl z => ?_⟩
  · have z' : hiMax x.hi y.hi = some m := z
    cases ex : x.hi with
    | none =>
      rw [ex] at z'
      cases z'
    | some a =>
      cases ey : y.hi with
      | none =>
        rw [ex, ey] at z'
        cases z'
      | some b =>
        rw [ex, ey] at z'
        have z2 : max a b = m := Option.some.inj z'
        have h1 := gx.hi a ex
        have h2 := gy.hi b ey
        show m % p = x.r
        rcases Int.le_total a b with q | q
        · rw [← z2, Int.max_eq_right q, h2, e]
        · rw [← z2, Int.max_eq_left q, h1]
  · have z' : hiMax x.hi y.hi = some m := z
    cases ex : x.hi with
    | none =>
      rw [ex] at z'
      cases z'
    | some a =>
      cases ey : y.hi with
      | none =>
        rw [ex, ey] at z'
        cases z'
      | some b =>
        rw [ex, ey] at z'
        have z2 : max a b = m := Option.some.inj z'
        have := gx.le l a zl ex
        omega
theorem merge_mem {x y : Run} (gx : Good p x) (gy : Good p y) (e : x.r = y.r) (lo : loLe x.lo y.lo) (g : goesOn p x y = true) (t : Int) : inRun p (merge x y) t ↔ inRun p x t ∨ inRun p y t := by
  have hp : 0 < p := by have := gx.r0; have := gx.r1; omega
  constructor
  · rintro ⟨m1, m2, m3⟩
    have m3' : leHi (hiMax x.hi y.hi) t := m3
    have m2' : geLo x.lo t := m2
    have m1' : t % p = x.r := m1
    cases ex : x.hi with
    | none => exact .inl ⟨m1, m2, fun m z => by rw [ex] at z; cases z⟩
    | some a =>
      rcases Int.lt_or_le a t with q | q
      · right
        have ap : a + p ≤ t := step_of hp (by rw [gx.hi a ex, m1']) q
        refine ⟨by rw [m1', e], fun l z => ?_, fun m z => ?_⟩
        · have g' : decide (l ≤ a + p) = true := by
            unfold goesOn at g
            rw [ex, z] at g
            exact g
          have := of_decide_eq_true g'
          omega
        · have h := m3' (max a m) (by rw [ex, z]; rfl)
          omega
      · exact .inl ⟨m1, m2, fun m z => by rw [ex] at z; cases z; exact q⟩
  · rintro (⟨m1, m2, m3⟩ | ⟨m1, m2, m3⟩)
    · refine ⟨m1, m2, fun m z => ?_⟩
      have z' : hiMax x.hi y.hi = some m := z
      cases ex : x.hi with
      | none =>
        rw [ex] at z'
        cases z'
      | some a =>
        cases ey : y.hi with
        | none =>
          rw [ex, ey] at z'
          cases z'
        | some b =>
          rw [ex, ey] at z'
          have z2 : max a b = m := Option.some.inj z'
          have := m3 a ex
          omega
    · refine ⟨by show t % p = x.r; rw [m1, e], fun l z => ?_, fun m z => ?_⟩
      · have z' : x.lo = some l := z
        rw [z'] at lo
        cases ey : y.lo with
        | none =>
          rw [ey] at lo
          exact lo.elim
        | some b =>
          rw [ey] at lo
          have := m2 b ey
          have q : l ≤ b := lo
          omega
      · have z' : hiMax x.hi y.hi = some m := z
        cases ex : x.hi with
        | none =>
          rw [ex] at z'
          cases z'
        | some a =>
          cases ey : y.hi with
          | none =>
            rw [ex, ey] at z'
            cases z'
          | some b =>
            rw [ex, ey] at z'
            have z2 : max a b = m := Option.some.inj z'
            have := m3 b ey
            omega
/-- the next run meets or touches the last one -/
theorem Grow.merge {pre done : List Run} {x y : Run} (h : Grow p r (pre ++ [x]) done) (gy : Good p y) (ey : y.r = r) (lo : loLe x.lo y.lo) (g : goesOn p x y = true) : Grow p r (pre ++ [Rn.merge x y]) (done ++ [y]) := by
  obtain ⟨gx, ex⟩ := h.good x (List.mem_append_right _ (List.mem_singleton.mpr rfl))
  have e : x.r = y.r := by omega
  refine ⟨fun z hz => ?_, ?_, fun t => ?_⟩
  · rcases List.mem_append.mp hz with hz | hz
    · exact h.good z (List.mem_append_left _ hz)
    · rw [List.mem_singleton] at hz
      subst hz
      exact ⟨merge_good gx gy e, ex⟩
  · have hpw := List.pairwise_append.mp h.pw
    refine List.pairwise_append.mpr ⟨hpw.1, List.pairwise_singleton _ _, fun a ha b hb => ?_⟩
    rw [List.mem_singleton] at hb
    subst hb
    exact hpw.2.2 a ha x (List.mem_singleton.mpr rfl)
  · have m := h.mem t
    rw [inRuns_append, inRuns_one] at m
    rw [inRuns_append, inRuns_one, inRuns_append, inRuns_one, merge_mem gx gy e lo g, ← m]
    constructor
    · rintro (q | q | q)
      · exact .inl (.inl q)
      · exact .inl (.inr q)
      · exact .inr q
    · rintro ((q | q) | q)
      · exact .inl q
      · exact .inr (.inl q)
      · exact .inr (.inr q)
/-- .. or comes behind a gap -/
theorem Grow.next {found done : List Run} {y : Run} (h : Grow p r found done) (gy : Good p y) (ey : y.r = r) (g : ∀ x pre, found = pre ++ [x] → goesOn p x y = false) : Grow p r (found ++ [y]) (done ++ [y]) := by
  refine ⟨fun z hz => ?_, ?_, fun t => ?_⟩
  · rcases List.mem_append.mp hz with hz | hz
    · exact h.good z hz
    · rw [List.mem_singleton] at hz
      subst hz
      exact ⟨gy, ey⟩
  · refine List.pairwise_append.mpr ⟨h.pw, List.pairwise_singleton _ _, fun a ha b hb => ?_⟩
    rw [List.mem_singleton] at hb
    subst hb
    rcases List.eq_nil_or_concat found with e | ⟨pre, x, e⟩
    · rw [e] at ha
      cases ha
    · rw [List.concat_eq_append] at e
      have gf := g x pre e
      subst e
      obtain ⟨gx, ex⟩ := h.good x (List.mem_append_right _ (List.mem_singleton.mpr rfl))
      unfold goesOn at gf
      cases exh : x.hi with
      | none =>
        rw [exh] at gf
        cases gf
      | some hx =>
        cases eyl : b.lo with
        | none =>
          rw [exh, eyl] at gf
          cases gf
        | some l =>
          rw [exh, eyl] at gf
          have q : ¬ l ≤ hx + p := of_decide_eq_false gf
          have xb : Lt p x b := .inr ⟨by omega, hx, l, exh, eyl, by omega⟩
          rcases List.mem_append.mp ha with ha | ha
          · have ax := (List.pairwise_append.mp h.pw).2.2 a ha x (List.mem_singleton.mpr rfl)
            obtain ⟨ga, ea⟩ := h.good a (List.mem_append_left _ ha)
            rcases ax with z | ⟨_, h1, l1, e1, e2, z⟩
            · omega
            · have := gx.le l1 hx e2 exh
              have hp : 0 < p := by have := gx.r0; have := gx.r1; omega
              exact .inr ⟨by omega, h1, l, e1, eyl, by omega⟩
          · rw [List.mem_singleton] at ha
            subst ha
            exact xb
  · rw [inRuns_append, inRuns_append, h.mem t]
/-- lists of runs of ascending residues, one behind the other -/
theorem canon_join : ∀ {ps : List (Int × List Run)}, (ps.map (·.1)).Pairwise (· < ·) → (∀ q ∈ ps, Canon p q.2 ∧ ∀ z ∈ q.2, z.r = q.1) → Canon p (ps.flatMap (·.2))
  | [], _, _ => ⟨(fun _ h => nomatch h), List.Pairwise.nil⟩
  | q :: ps, h, c => by
    rw [List.map_cons, List.pairwise_cons] at h
    have ih := canon_join h.2 fun q' hq => c q' (List.mem_cons_of_mem _ hq)
    obtain ⟨cq, rq⟩ := c q List.mem_cons_self
    rw [List.flatMap_cons]
    refine ⟨fun z hz => ?_, List.pairwise_append.mpr ⟨cq.pw, ih.pw, fun a ha b hb => ?_⟩⟩
    · rcases List.mem_append.mp hz with hz | hz
      · exact cq.good z hz
      · exact ih.good z hz
    · obtain ⟨q', hq', hb⟩ := List.mem_flatMap.mp hb
      have e1 := rq a ha
      have e2 := (c q' (List.mem_cons_of_mem _ hq')).2 b hb
      have := h.1 q'.1 (List.mem_map_of_mem hq')
      exact .inl (by omega)
theorem Grow.canon {found done : List Run} (h : Grow p r found done) : Canon p found := ⟨fun z hz => (h.good z hz).1, h.pw⟩
/-! ### the runs of spans -/
def residues (p : Int) (s : Sp3) : List Int := match s.res with
  | none => (List.range p.toNat).map fun (i : Nat) => (i : Int)
  | some r => [r]
def foundOf (p : Int) (s : Sp3) : List Run := (residues p s).filterMap fun one => runOf p one s.lo s.hi
/-- a span by p -/
def SpOk (p : Int) (s : Sp3) : Prop := ∀ r, s.res = some r → 0 ≤ r ∧ r < p
theorem residues_ok (hp : 0 < p) {s : Sp3} (h : SpOk p s) : ∀ one ∈ residues p s, 0 ≤ one ∧ one < p := by
  intro one h1
  unfold residues at h1
  cases e : s.res with
  | none =>
    rw [e] at h1
    obtain ⟨i, hi, rfl⟩ := List.mem_map.mp h1
    have := List.mem_range.mp hi
    omega
  | some r' =>
    rw [e] at h1
    rw [List.mem_singleton] at h1
    subst h1
    exact h _ e
theorem foundOf_good (hp : 0 < p) {s : Sp3} (h : SpOk p s) : ∀ z ∈ foundOf p s, Good p z := by
  intro z hz
  obtain ⟨one, h1, h2⟩ := List.mem_filterMap.mp hz
  obtain ⟨o0, o1⟩ := residues_ok hp h one h1
  exact (runOf_some o0 o1 h2).1
theorem foundOf_mem (hp : 0 < p) {s : Sp3} (h : SpOk p s) (t : Int) : inRuns p (foundOf p s) t ↔ inSpan p s t := by
  constructor
  · rintro ⟨z, hz, m⟩
    obtain ⟨one, h1, h2⟩ := List.mem_filterMap.mp hz
    obtain ⟨o0, o1⟩ := residues_ok hp h one h1
    have m' := ((runOf_some o0 o1 h2).2.2 t).mp m
    refine ⟨fun r' er => ?_, m'.2.1, m'.2.2⟩
    unfold residues at h1
    rw [er] at h1
    rw [List.mem_singleton] at h1
    rw [m'.1, h1]
  · rintro ⟨m1, m2, m3⟩
    have key : t % p ∈ residues p s := by
      unfold residues
      cases e : s.res with
      | none =>
        have h0 := Int.emod_nonneg t (Int.ne_of_gt hp)
        have h1 := Int.emod_lt_of_pos t hp
        exact List.mem_map.mpr ⟨(t % p).toNat, List.mem_range.mpr (by omega), by omega⟩
      | some r' => exact List.mem_singleton.mpr (m1 r' e)
    obtain ⟨o0, o1⟩ := residues_ok hp h _ key
    cases e : runOf p (t % p) s.lo s.hi with
    | none => exact (runOf_none o0 o1 e t ⟨rfl, m2, m3⟩).elim
    | some x => exact ⟨x, List.mem_filterMap.mpr ⟨_, key, e⟩, ((runOf_some o0 o1 e).2.2 t).mpr ⟨rfl, m2, m3⟩⟩
theorem found_all (hp : 0 < p) {ss : List Sp3} (h : ∀ s ∈ ss, SpOk p s) : (∀ z ∈ ss.flatMap (foundOf p), Good p z) ∧ ∀ t, inRuns p (ss.flatMap (foundOf p)) t ↔ inSpans p ss t := by
  refine ⟨fun z hz => ?_, fun t => ?_⟩
  · obtain ⟨s, hs, hz⟩ := List.mem_flatMap.mp hz
    exact foundOf_good hp (h s hs) z hz
  · constructor
    · rintro ⟨z, hz, m⟩
      obtain ⟨s, hs, hz⟩ := List.mem_flatMap.mp hz
      exact ⟨s, hs, (foundOf_mem hp (h s hs) t).mp ⟨z, hz, m⟩⟩
    · rintro ⟨s, hs, m⟩
      obtain ⟨z, hz, m⟩ := (foundOf_mem hp (h s hs) t).mpr m
      exact ⟨z, List.mem_flatMap.mpr ⟨s, hs, hz⟩, m⟩
end
end Rn
end

section
set_option maxHeartbeats 4000000
namespace EW
open PySem PySem.Spec PyProof.Rows L2
/-! ### spans and runs as values -/
def ob : Option Int → V
  | none => .non
  | some i => .int i
/-- a tuple of these -/
def Tp (K : W.Frag) (H : Hp) (v : V) (xs : List V) : Prop := ∃ a, v = .ref a ∧ SqT K H a xs
abbrev Sn (K : W.Frag) (H : Hp) (v : V) (s : Rn.Sp3) : Prop := Tp K H v [ob s.res, ob s.lo, ob s.hi]
abbrev Sns (K : W.Frag) (H : Hp) (vs : List V) (ss : List Rn.Sp3) : Prop := Paired (Sn K H) vs ss
abbrev Rns (K : W.Frag) (H : Hp) (vs : List V) (zs : List Rn.Run) : Prop := Paired (fun v z => Sn K H v z.span) vs zs
section
variable {K : W.Frag} {H H' : Hp} {v : V} {xs vs : List V} {a l : Addr}
theorem Tp.of (h : H a = some (.tup xs)) : Tp K H (.ref a) xs := ⟨a, rfl, SqT.of h⟩
theorem SqT.stay (h : SqT K H a xs) (t : ∀ b ys, H b = some (.tup ys) → H' b = some (.tup ys)) (f : ∀ b o u, H b = some (.frz o u) → H' b = some (.frz o u)) : SqT K H' a xs := by
  rcases h with (h | ⟨o, h⟩) | h
  · exact .inl (.inl (t _ _ h))
  · exact .inl (.inr ⟨o, f _ _ _ h⟩)
  · exact .inr h
theorem SqT.same (h : SqT K H a xs) (s : Same H H') : SqT K H' a xs := SqT.stay h (fun b ys e => s b _ e) fun b o u e => s b _ e
/-- all but lists stands -/
theorem SqT.kept {ys : List V} (h : SqT K H a xs) (hl : H l = some (.lst ys)) (k : Kept l H H') : SqT K H' a xs :=
  SqT.stay h (fun b zs e => k b _ (fun z => by rw [z, hl] at e; cases e) e) fun b o u e => k b _ (fun z => by rw [z, hl] at e; cases e) e
theorem Tp.same (h : Tp K H v xs) (s : Same H H') : Tp K H' v xs := let ⟨a, e, q⟩ := h; ⟨a, e, SqT.same q s⟩
theorem Tp.kept {ys : List V} (h : Tp K H v xs) (hl : H l = some (.lst ys)) (k : Kept l H H') : Tp K H' v xs := let ⟨a, e, q⟩ := h; ⟨a, e, SqT.kept q hl k⟩
theorem Sns.same {ss : List Rn.Sp3} (h : Sns K H vs ss) (s : Same H H') : Sns K H' vs ss := Paired.mono (fun _ _ q => Tp.same q s) h
theorem Sns.kept {ss : List Rn.Sp3} {ys : List V} (h : Sns K H vs ss) (hl : H l = some (.lst ys)) (k : Kept l H H') : Sns K H' vs ss := Paired.mono (fun _ _ q => Tp.kept q hl k) h
theorem Rns.same {zs : List Rn.Run} (h : Rns K H vs zs) (s : Same H H') : Rns K H' vs zs := Paired.mono (fun _ _ q => Tp.same q s) h
theorem Rns.kept {zs : List Rn.Run} {ys : List V} (h : Rns K H vs zs) (hl : H l = some (.lst ys)) (k : Kept l H H') : Rns K H' vs zs := Paired.mono (fun _ _ q => Tp.kept q hl k) h
theorem Rns.spans : ∀ {vs : List V} {zs : List Rn.Run}, Rns K H vs zs → Sns K H vs (zs.map Rn.Run.span)
  | _, _, .nil => .nil
  | _, _, .cons h t => .cons h (Rns.spans t)
theorem pr_append {α β : Type} {F : α → β → Prop} : ∀ {a c : List α} {b d : List β}, Paired F a b → Paired F c d → Paired F (a ++ c) (b ++ d)
  | _, _, _, _, .nil, r => r
  | _, _, _, _, .cons h t, r => .cons h (pr_append t r)
theorem pr_get {α β : Type} {F : α → β → Prop} : ∀ {a : List α} {b : List β} {i : Nat} {x : α}, Paired F a b → a[i]? = some x → ∃ y, b[i]? = some y ∧ F x y
  | _, _, _, _, .nil, e => by simp at e
  | _, _, 0, _, .cons h t, e => by
    simp at e
    subst e
    exact ⟨_, rfl, h⟩
  | _, _, i + 1, x, .cons h t, e => by
    obtain ⟨y, h1, h2⟩ := pr_get (i := i) (x := x) t (by simpa using e)
    exact ⟨y, by simpa using h1, h2⟩
theorem pr_take {α β : Type} {F : α → β → Prop} : ∀ {a : List α} {b : List β} (i : Nat), Paired F a b → Paired F (a.take i) (b.take i)
  | _, _, 0, _ => by
    rw [List.take_zero, List.take_zero]
    exact .nil
  | _, _, _ + 1, .nil => by
    rw [List.take_nil, List.take_nil]
    exact .nil
  | _, _, i + 1, .cons h t => by
    rw [List.take_succ_cons, List.take_succ_cons]
    exact .cons h (pr_take i t)
/-- a list or a tuple -/
def Sq (K : W.Frag) (H : Hp) (a : Addr) (xs : List V) : Prop := SqL K H a xs ∨ SqT K H a xs
theorem Sq.same (h : Sq K H a xs) (s : Same H H') : Sq K H' a xs := h.elim (fun h => .inl (s.seq h)) fun h => .inr (SqT.same h s)
end
/-! ### readings by either of two rules -/
section
variable {X : Cx} {K : W.Frag}
def iSeq (K : W.Frag) (tl : TE) : TI := fun σ H R => iList K tl σ H R ∨ iTup K tl σ H R
theorem pi_seq {tg l : Expr} {tl : TE} (hl : PE X l tl) : PI X tg l (iSeq X.K tl) := ⟨fun pins s σ H R I h => h.elim ((pi_list hl).run pins s σ H R I) ((pi_tup hl).run pins s σ H R I)⟩
theorem pi_seqK (h : X.K = K) {tg l : Expr} {tl : TE} (hl : PE X l tl) : PI X tg l (iSeq K tl) := by
  subst h
  exact pi_seq hl
theorem pi_listK (h : X.K = K) {tg l : Expr} {tl : TE} (hl : PE X l tl) : PI X tg l (iList K tl) := by
  subst h
  exact pi_list hl
theorem pi_tupK (h : X.K = K) {tg l : Expr} {tl : TE} (hl : PE X l tl) : PI X tg l (iTup K tl) := by
  subst h
  exact pi_tup hl
theorem call_isiE (K : W.Frag) (h : X.K = K) : CallR X (.builtin "isinstance") (rIsi K) := by
  subst h
  exact call_isi
theorem ix_tupK (K : W.Frag) (h : X.K = K) : IxR X (rIxT K) := by
  subst h
  exact ix_tup
theorem cr_anyK (K : W.Frag) (h : X.K = K) (hc : X.calm = true) : CallR X (.builtin "any") (rAny K) := by
  subst h
  exact cr_any hc
theorem cr_allK (K : W.Frag) (h : X.K = K) (hc : X.calm = true) : CallR X (.builtin "all") (rAll K) := by
  subst h
  exact cr_all hc
/-- tuple(l), sealed -/
theorem call_tupS (K : W.Frag) (h : X.K = K) : CallR X (.type "tuple") (fun xs H Q => ∃ p ys, xs = [.ref p] ∧ SqL K H p ys ∧ New H (fun _ => .tup ys) Q) := by
  subst h
  intro pins s σ H xs us Q I r h
  obtain ⟨p, ys, e, hq, q⟩ := h
  exact call_tuple_of pins s σ H xs us Q I r ⟨p, ys, e, .inl ⟨hq, fun l hl => q.at hl⟩⟩
end
theorem boot_any : bootBuiltins "any" = some (.builtin "any") := by decide +kernel
theorem boot_all : bootBuiltins "all" = some (.builtin "all") := by decide +kernel
theorem boot_sorted : bootBuiltins "sorted" = some (.builtin "sorted") := by decide +kernel
theorem boot_bool : bootBuiltins "bool" = some (.type "bool") := by decide +kernel
theorem boot_tuple : bootBuiltins "tuple" = some (.type "tuple") := by decide +kernel
theorem boot_set : bootBuiltins "set" = some (.type "set") := by decide +kernel
end EW
end

section
set_option maxHeartbeats 4000000
namespace EW
open PySem PySem.Spec PyProof.Rows L2
/-! ### runs as data -/
def od : Option Int → PyData
  | none => .none
  | some i => .int i
def runD (z : Rn.Run) : PyData := .tuple [.int z.r, od z.lo, od z.hi]
theorem od_dp {K : W.Frag} {H : Hp} (o : Option Int) : Dp K H (ob o) (od o) := by
  cases o with
  | none => exact .non
  | some i => exact .int i
theorem run_dp {K : W.Frag} {H : Hp} {v : V} {z : Rn.Run} (h : Sn K H v z.span) : Dp K H v (runD z) := by
  obtain ⟨a, rfl, q⟩ := h
  exact .tup q (.cons (.int z.r) (.cons (od_dp _) (.cons (od_dp _) .nil)))
theorem runs_dp {K : W.Frag} {H : Hp} : ∀ {vs : List V} {zs : List Rn.Run}, Rns K H vs zs → DpAll K H vs (zs.map runD)
  | _, _, .nil => .nil
  | _, _, .cons h t => .cons (run_dp h) (runs_dp t)
theorem od_lay (o : Option Int) : (od o).canLay0 = true := by cases o <;> rfl
theorem od_depth (o : Option Int) : (od o).depth = 0 := by cases o <;> simp [od, PyData.depth]
theorem run_lay (z : Rn.Run) : (runD z).canLay0 = true := by simp [runD, PyData.canLay0, PyData.canLayAll0, od_lay]
theorem runs_lay : ∀ zs : List Rn.Run, PyData.canLayAll0 (zs.map runD) = true
  | [] => by simp [PyData.canLayAll0]
  | z :: zs => by simp [PyData.canLayAll0, run_lay, runs_lay zs]
theorem run_depth (z : Rn.Run) : (runD z).depth = 1 := by simp [runD, PyData.depth, PyData.depthAll, od_depth]
theorem runs_depth : ∀ zs : List Rn.Run, PyData.depthAll (zs.map runD) ≤ 1
  | [] => by simp [PyData.depthAll]
  | z :: zs => by
    have h := runs_depth zs
    simp [PyData.depthAll, run_depth]
    omega
theorem shaped_list (zs : List Rn.Run) : SeqAt.shaped (.list (zs.map runD)) = true := by
  have h := runs_depth zs
  simp [SeqAt.shaped, PyData.canLay0, PyData.depth, runs_lay]
  omega
theorem shaped_tuple (zs : List Rn.Run) : SeqAt.shaped (.tuple (zs.map runD)) = true := by
  have h := runs_depth zs
  simp [SeqAt.shaped, PyData.canLay0, PyData.depth, runs_lay]
  omega
theorem od_eqv (a b : Option Int) : PyData.eqv (od a) (od b) = decide (a = b) := by
  cases a <;> cases b <;> simp [od, PyData.eqv]
  rfl
theorem run_eqv (x y : Rn.Run) : PyData.eqv (runD x) (runD y) = decide (x = y) := by
  obtain ⟨a, b, c⟩ := x
  obtain ⟨d, e, f⟩ := y
  simp only [runD, PyData.eqv, PyData.eqvAll, od_eqv, Bool.and_true]
  by_cases h : (⟨a, b, c⟩ : Rn.Run) = ⟨d, e, f⟩
  · rw [decide_eq_true h]
    injection h with h1 h2 h3
    simp [h1, h2, h3]
  · rw [decide_eq_false h]
    by_cases h1 : a = d
    · by_cases h2 : b = e
      · have h3 : c ≠ f := fun z => h (by rw [h1, h2, z])
        simp [h1, h2, h3]
      · simp [h2]
    · simp [h1]
theorem runs_eqv : ∀ xs ys : List Rn.Run, PyData.eqvAll (xs.map runD) (ys.map runD) = decide (xs = ys)
  | [], [] => by simp [PyData.eqvAll]
  | [], y :: ys => by simp [PyData.eqvAll]
  | x :: xs, [] => by simp [PyData.eqvAll]
  | x :: xs, y :: ys => by
    rw [List.map_cons, List.map_cons, PyData.eqvAll, run_eqv, runs_eqv xs ys]
    by_cases h1 : x = y
    · by_cases h2 : xs = ys
      · simp [h1, h2]
      · simp [h1, h2]
    · simp [h1]
theorem list_eqv (xs ys : List Rn.Run) : PyData.eqv (.list (xs.map runD)) (.list (ys.map runD)) = decide (xs = ys) := by
  rw [PyData.eqv]
  exact runs_eqv xs ys
theorem tuple_eqv (xs ys : List Rn.Run) : PyData.eqv (.tuple (xs.map runD)) (.tuple (ys.map runD)) = decide (xs = ys) := by
  rw [PyData.eqv]
  exact runs_eqv xs ys
end EW
end

section
set_option maxHeartbeats 4000000
namespace EW
open PySem PySem.Spec PyProof.Rows L2
theorem _root_.L2.Room.u1 {k : Nat} {A : Around} (r : Room k A) : A.units + 1 < cLine := by
  have := r.un
  omega
section
variable {X : Cx} {K : W.Frag} {H H' : Hp} {a d : Addr} {o : HO} {xs vs : List V} {v : V}
theorem SqT.keptO (h : SqT K H a xs) (hd : H d = some o) (n1 : ∀ ys, o ≠ .tup ys) (n2 : ∀ b u, o ≠ .frz b u) (k : Kept d H H') : SqT K H' a xs :=
  SqT.stay h (fun b zs e => k b _ (fun z => by rw [z, hd] at e; exact n1 _ (Option.some.inj e)) e) fun b p u e => k b _ (fun z => by rw [z, hd] at e; exact n2 _ _ (Option.some.inj e)) e
theorem SqT.keptD {kvs : List (Key × V)} (h : SqT K H a xs) (hd : H d = some (.dK kvs)) (k : Kept d H H') : SqT K H' a xs := SqT.keptO h hd (fun _ z => nomatch z) (fun _ _ z => nomatch z) k
theorem Rns.keptD {zs : List Rn.Run} {kvs : List (Key × V)} (h : Rns K H vs zs) (hd : H d = some (.dK kvs)) (k : Kept d H H') : Rns K H' vs zs :=
  Paired.mono (fun _ _ q => let ⟨a, e, t⟩ := q; ⟨a, e, SqT.keptD t hd k⟩) h
/-- {} -/
theorem pe_dnewS {pos : Pos} : PE X (.Dict [] [] pos) (fun σ H Q => New H (fun _ => .dK []) Q) :=
  PE.imp pe_dnewK fun σ H Q q p hp => q.at hp
/-- runs by their residues -/
structure Grp (K : W.Frag) (H : Hp) (kvs : List (Key × V)) (zs : List Rn.Run) : Prop where
  itg : ∀ q ∈ kvs, ∃ r : Int, q.1 = Sum.inl r
  nd : (kvs.map (·.1)).Nodup
  len : kvs.length ≤ zs.length
  no : ∀ r : Int, valV kvs (Sum.inl r : Key) = none → ∀ z ∈ zs, z.r ≠ r
  yes : ∀ (r : Int) (v : V), valV kvs (Sum.inl r : Key) = some v → (∃ (l : Addr) (ys : List V), v = .ref l ∧ H l = some (.lst ys) ∧ Rns K H ys (zs.filter fun z => decide (z.r = r))) ∧ ∃ z ∈ zs, z.r = r
theorem Grp.nil : Grp K H [] [] := ⟨(fun _ h => nomatch h), List.nodup_nil, Nat.le_refl _, (fun _ _ _ h => nomatch h), fun r v h => by cases h⟩
theorem Grp.same {kvs : List (Key × V)} {zs : List Rn.Run} (g : Grp K H kvs zs) (s : Same H H') : Grp K H' kvs zs := ⟨g.itg, g.nd, g.len, g.no, fun r v h => by
  obtain ⟨⟨l, ys, e, hl, R⟩, z⟩ := g.yes r v h
  exact ⟨⟨l, ys, e, s _ _ hl, Rns.same R s⟩, z⟩⟩
theorem Grp.keptD {kvs kvs' : List (Key × V)} {zs : List Rn.Run} (g : Grp K H kvs zs) (hd : H d = some (.dK kvs')) (k : Kept d H H') : Grp K H' kvs zs := ⟨g.itg, g.nd, g.len, g.no, fun r v h => by
  obtain ⟨⟨l, ys, e, hl, R⟩, z⟩ := g.yes r v h
  exact ⟨⟨l, ys, e, k _ _ (fun z => by rw [z, hd] at hl; cases hl) hl, Rns.keptD R hd k⟩, z⟩⟩
theorem put_keys {kvs : List (Key × V)} {k : Key} {v : V} (nd : (kvs.map (·.1)).Nodup) : ((putK kvs k v).map (·.1)).Nodup ∧ (putK kvs k v).length ≤ kvs.length + 1 ∧ ∀ q ∈ putK kvs k v, q.1 = k ∨ ∃ q' ∈ kvs, q'.1 = q.1 := by
  cases h : valV kvs k with
  | none =>
    rw [putK_new v h]
    refine ⟨?_, by rw [List.length_append]; exact Nat.le_refl _, fun q hq => ?_⟩
    · rw [List.map_append, List.nodup_append]
      refine ⟨nd, by simp, ?_⟩
      intro x hx y hy e
      have hy' : y = k := by simpa using hy
      rw [hy'] at e
      obtain ⟨q, hq, rfl⟩ := List.mem_map.mp hx
      have z := valV_any k kvs
      rw [h] at z
      have z2 := List.any_eq_false.mp z q hq
      exact z2 (decide_eq_true e)
    · rcases List.mem_append.mp hq with hq | hq
      · exact .inr ⟨q, hq, rfl⟩
      · exact .inl (by rw [List.mem_singleton.mp hq])
  | some u =>
    have z := valV_any k kvs
    rw [h] at z
    have e : putK kvs k v = kvs.map (fun kv => if kv.1 = k then (kv.1, v) else kv) := by
      unfold putK
      exact if_pos z
    have em : (putK kvs k v).map (·.1) = kvs.map (·.1) := by
      rw [e, List.map_map]
      refine List.map_congr_left fun q _ => ?_
      show (if q.1 = k then (q.1, v) else q).1 = q.1
      split <;> rfl
    refine ⟨by rw [em]; exact nd, by rw [e, List.length_map]; exact Nat.le_succ _, fun q hq => ?_⟩
    have hm : q.1 ∈ (putK kvs k v).map (·.1) := List.mem_map.mpr ⟨q, hq, rfl⟩
    rw [em] at hm
    obtain ⟨q', h1, h2⟩ := List.mem_map.mp hm
    exact .inr ⟨q', h1, h2⟩
theorem Grp.put {kvs : List (Key × V)} {zs : List Rn.Run} {y : Rn.Run} {l : Addr} {ys : List V} (g : Grp K H kvs zs) (hl : H l = some (.lst ys)) (R : Rns K H ys ((zs ++ [y]).filter fun z => decide (z.r = y.r))) : Grp K H (putK kvs (Sum.inl y.r) (.ref l)) (zs ++ [y]) := by
  obtain ⟨p1, p2, p3⟩ := put_keys (k := (Sum.inl y.r : Key)) (v := .ref l) g.nd
  have gl := g.len
  refine ⟨fun q hq => ?_, p1, by rw [List.length_append]; exact Nat.le_trans p2 (Nat.succ_le_succ gl), fun r hn z hz => ?_, fun r v hv => ?_⟩
  · rcases p3 q hq with e | ⟨q', h1, h2⟩
    · exact ⟨_, e⟩
    · rw [← h2]
      exact g.itg q' h1
  · rw [valV_put] at hn
    by_cases e : (Sum.inl r : Key) = Sum.inl y.r
    · rw [if_pos e] at hn
      cases hn
    · rw [if_neg e] at hn
      rcases List.mem_append.mp hz with hz | hz
      · exact g.no r hn z hz
      · rw [List.mem_singleton.mp hz]
        exact fun c => e (by rw [c])
  · rw [valV_put] at hv
    by_cases e : (Sum.inl r : Key) = Sum.inl y.r
    · rw [if_pos e] at hv
      cases hv
      obtain rfl : r = y.r := Sum.inl.inj e
      exact ⟨⟨l, ys, rfl, hl, R⟩, y, List.mem_append_right _ List.mem_cons_self, rfl⟩
    · rw [if_neg e] at hv
      obtain ⟨⟨l', ys', e1, e2, R'⟩, z, hz, ez⟩ := g.yes r v hv
      refine ⟨⟨l', ys', e1, e2, ?_⟩, z, List.mem_append_left _ hz, ez⟩
      have e3 : [y].filter (fun z => decide (z.r = r)) = [] := by
        rw [List.filter_cons, if_neg (by simpa using fun c => e (by rw [c]))]
        rfl
      rw [List.filter_append, e3, List.append_nil]
      exact R'
end
end EW
end

section
set_option maxHeartbeats 4000000
namespace EW
open PySem PySem.Spec PyProof.Rows L2
/-- a walk over a list, what is done at an item said as it is -/
theorem loop_list {K : W.Frag} {a : Addr} {xs : List V} {H0 : Hp} {Qd : Hp → Prop} {B : V → Hp → (Hp → Prop) → Prop} (Pv : Nat → Hp → Prop) (h0 : Pv 0 H0) (hl : ∀ i H, i ≤ xs.length → Pv i H → SqL K H a xs)
    (hs : ∀ i x H, xs[i]? = some x → Pv i H → B x H (Pv (i + 1))) (hd : ∀ H, Pv xs.length H → Qd H) :
    ∃ W : Nat → Nat → Hp → Prop, (∃ m, W 0 m H0) ∧ ∀ i m H, W i m H → ((Itl K a).stop i H ∧ Qd H) ∨ ((Itl K a).go i H ∧ ∃ Nx : Hp → Prop, (∀ H', Nx H' → ∃ m', m' < m ∧ W (i + 1) m' H') ∧ ∀ x H', (Itl K a).yld i H x H' → B x H' Nx) := by
  refine ⟨fun i m H => m = xs.length - i ∧ i ≤ xs.length ∧ Pv i H, ⟨xs.length, rfl, Nat.zero_le _, h0⟩, ?_⟩
  rintro i m H ⟨rfl, hi, p⟩
  have q := hl i H hi p
  rcases Nat.lt_or_ge i xs.length with hlt | hge
  · refine .inr ⟨⟨xs, xs[i], q, List.getElem?_eq_getElem hlt⟩, Pv (i + 1), fun H' p' => ⟨xs.length - (i + 1), by omega, rfl, hlt, p'⟩, fun x H' y => ?_⟩
    obtain ⟨rfl, y⟩ := y
    exact hs i x _ (y xs q) p
  · obtain rfl : i = xs.length := by omega
    exact .inl ⟨⟨xs, q, Nat.le_refl _⟩, hd H p⟩
theorem loop_tup {K : W.Frag} {a : Addr} {xs : List V} {H0 : Hp} {Qd : Hp → Prop} {B : V → Hp → (Hp → Prop) → Prop} (Pv : Nat → Hp → Prop) (h0 : Pv 0 H0) (hl : ∀ i H, i ≤ xs.length → Pv i H → SqT K H a xs)
    (hs : ∀ i x H, xs[i]? = some x → Pv i H → B x H (Pv (i + 1))) (hd : ∀ H, Pv xs.length H → Qd H) :
    ∃ W : Nat → Nat → Hp → Prop, (∃ m, W 0 m H0) ∧ ∀ i m H, W i m H → ((Itt K a).stop i H ∧ Qd H) ∨ ((Itt K a).go i H ∧ ∃ Nx : Hp → Prop, (∀ H', Nx H' → ∃ m', m' < m ∧ W (i + 1) m' H') ∧ ∀ x H', (Itt K a).yld i H x H' → B x H' Nx) := by
  refine ⟨fun i m H => m = xs.length - i ∧ i ≤ xs.length ∧ Pv i H, ⟨xs.length, rfl, Nat.zero_le _, h0⟩, ?_⟩
  rintro i m H ⟨rfl, hi, p⟩
  have q := hl i H hi p
  rcases Nat.lt_or_ge i xs.length with hlt | hge
  · refine .inr ⟨⟨xs, xs[i], q, List.getElem?_eq_getElem hlt⟩, Pv (i + 1), fun H' p' => ⟨xs.length - (i + 1), by omega, rfl, hlt, p'⟩, fun x H' y => ?_⟩
    obtain ⟨rfl, y⟩ := y
    exact hs i x _ (y xs q) p
  · obtain rfl : i = xs.length := by omega
    exact .inl ⟨⟨xs, q, Nat.le_refl _⟩, hd H p⟩
theorem loop_rg {lo : Int} {n : Nat} {H0 : Hp} {Qd : Hp → Prop} {B : V → Hp → (Hp → Prop) → Prop} (Pv : Nat → Hp → Prop) (h0 : Pv 0 H0)
    (hs : ∀ i H, i < n → Pv i H → B (.int (lo + i)) H (Pv (i + 1))) (hd : ∀ H, Pv n H → Qd H) :
    ∃ W : Nat → Nat → Hp → Prop, (∃ m, W 0 m H0) ∧ ∀ i m H, W i m H → ((Itr lo n).stop i H ∧ Qd H) ∨ ((Itr lo n).go i H ∧ ∃ Nx : Hp → Prop, (∀ H', Nx H' → ∃ m', m' < m ∧ W (i + 1) m' H') ∧ ∀ x H', (Itr lo n).yld i H x H' → B x H' Nx) := by
  refine ⟨fun i m H => m = n - i ∧ i ≤ n ∧ Pv i H, ⟨n, rfl, Nat.zero_le _, h0⟩, ?_⟩
  rintro i m H ⟨rfl, hi, p⟩
  rcases Nat.lt_or_ge i n with hlt | hge
  · refine .inr ⟨hlt, Pv (i + 1), fun H' p' => ⟨n - (i + 1), by omega, rfl, hlt, p'⟩, fun x H' y => ?_⟩
    obtain ⟨rfl, rfl⟩ := y
    exact hs i _ hlt p
  · obtain rfl : i = n := by omega
    exact .inl ⟨Nat.le_refl _, hd H p⟩
section
variable {X : Cx}
theorem boot_list : bootBuiltins "list" = some (.type "list") := by decide +kernel
/-- list(range(..)), sealed -/
theorem pe_listRg1S {a : Expr} {ta : TE} {p pos p' pos' : Pos} (hc : X.calm = true) (hg : Gl X "list") (hm : X.mg "list" = none) (hg' : Gl X "range") (hm' : X.mg "range" = none) (ha : PE X a ta) (na' : starEach [a] X.env = (false, eval a X.env) :: starEach [] X.env := by rfl)
    (na : starEach [.Call (.Name "range" p') [a] [] pos'] X.env = (false, eval (.Call (.Name "range" p') [a] [] pos') X.env) :: starEach [] X.env := by rfl) :
    PE X (.Call (.Name "list" p) [.Call (.Name "range" p') [a] [] pos'] [] pos) (fun σ H Q => ta σ H fun x H1 => ∃ n, x = .int n ∧ RgOk 0 n ∧ New H1 (fun _ => .lst (rgV 0 n)) Q) := by
  refine PE.imp (pe_listRg hc hg hm (prg_1 hg' hm' (PE.cl ha) na') na) fun σ H Q q => ⟨_, q, fun v H1 z => ?_⟩
  obtain ⟨n, e, ok, nw⟩ := z
  exact ⟨n, e, ok, fun q hq => nw.at hq⟩
theorem pe_listRg2S {a b : Expr} {ta tb : TE} {p pos p' pos' : Pos} (hc : X.calm = true) (hg : Gl X "list") (hm : X.mg "list" = none) (hg' : Gl X "range") (hm' : X.mg "range" = none) (ha : PE X a ta) (hb : PE X b tb) (na1 : starEach [a, b] X.env = (false, eval a X.env) :: starEach [b] X.env := by rfl) (nb : starEach [b] X.env = (false, eval b X.env) :: starEach [] X.env := by rfl) (hp : (backTo pos' (starEach [b] X.env)).any (·.1) = false := by rfl)
    (na : starEach [.Call (.Name "range" p') [a, b] [] pos'] X.env = (false, eval (.Call (.Name "range" p') [a, b] [] pos') X.env) :: starEach [] X.env := by rfl) :
    PE X (.Call (.Name "list" p) [.Call (.Name "range" p') [a, b] [] pos'] [] pos) (fun σ H Q => ta σ H fun x H1 => tb σ H1 fun y H2 => ∃ i j, x = .int i ∧ y = .int j ∧ RgOk i j ∧ New H2 (fun _ => .lst (rgV i j)) Q) := by
  refine PE.imp (pe_listRg hc hg hm (prg_2 hg' hm' (PE.cl ha) (PE.cl hb) na1 nb hp) na) fun σ H Q q => ⟨_, q, fun v H1 z => ⟨_, z, fun y H2 z => ?_⟩⟩
  obtain ⟨i, j, e, e', ok, nw⟩ := z
  exact ⟨i, j, e, e', ok, fun q hq => nw.at hq⟩
theorem cr_sortedIS (K : W.Frag) (h : X.K = K) : CallR X (.builtin "sorted") (fun vs H Q => ∃ (a : Addr) (ns : List Int), vs = [V.ref a] ∧ SqL K H a (ns.map V.int) ∧ ∀ ns' : List Int, ns'.Perm ns → ns'.Pairwise (· ≤ ·) → New H (fun _ => .lst (ns'.map V.int)) Q) := by
  subst h
  intro pins s σ H xs us Q I r h
  obtain ⟨a, ns, e, hS, q⟩ := h
  exact cr_sortedI pins s σ H xs us Q I r ⟨a, ns, e, hS, fun ns' p h1 h2 hp => (q ns' h1 h2).at hp⟩
theorem call_listDS (hc : X.calm = true) : CallR X (.type "list") (fun xs H Q => ∃ (a : Addr) (kvs : List (Key × V)), xs = [.ref a] ∧ H a = some (.dK kvs) ∧ New H (fun _ => .lst (kvs.map fun kv => kV kv.1)) Q) := by
  intro pins s σ H xs us Q I r h
  obtain ⟨a, kvs, e, hd, q⟩ := h
  exact call_listD hc pins s σ H xs us Q I r ⟨a, kvs, e, .inl hd, fun p hp => q.at hp⟩
theorem call_listS (K : W.Frag) (h : X.K = K) : CallR X (.type "list") (fun xs H Q => ∃ (p : Addr) (ys : List V), xs = [.ref p] ∧ Sq K H p ys ∧ New H (fun _ => .lst ys) Q) := by
  subst h
  intro pins s σ H xs us Q I r h
  obtain ⟨p, ys, e, hS, q⟩ := h
  exact call_list_of pins s σ H xs us Q I r ⟨p, ys, e, hS, fun l hl => q.at hl⟩
end
end EW
end

section
set_option maxHeartbeats 4000000
namespace EW
open PySem PySem.Spec PyProof.Rows L2
/-! ### set(l), sorted(s): ints, some thousands of them -/
section
variable {P : Program} {w : World} {A : Around} {E : Value → Shared → Prop} {s : Shared}
/-- an empty set as it is made -/
abbrev eset (w : World) : Obj := { cls := .type "set", dict := none, data := .set #[] 0 (.fresh 0 0 (!w.params.followText "set-order")) }
/-- what set.__init__ leaves behind -/
def Full (w : World) (s : Shared) (ns : List Int) (r : Value) (s₂ : Shared) : Prop := r = .none ∧ ∃ h' tk c, s₂ = { s with heap := h', toks := tk } ∧ SetR w h' s.heap.objs.size (fun j => decide (j ∈ ns)) c ∧ c ≤ ns.length ∧ ∀ b o, s.heap.get? b = some o → h'.get? b = some o
theorem ints_get {items : Array Value} {ns : List Int} (hit : IntsAre items.toList ns) (i : Nat) (v : Value) (hv : items[i]? = some v) : ∃ k t, ns[i]? = some k ∧ v = .int k t := by
  have hl := IntsAre.length hit
  rw [Array.length_toList] at hl
  have hi : i < ns.length := by rw [← hl]; exact (Array.getElem?_eq_some_iff.mp hv).1
  obtain ⟨t, e⟩ := IntsAre.int_at hit i v (by rw [Array.getElem?_toList]; exact hv)
  rw [List.getD_eq_getElem?_getD, List.getElem?_eq_getElem hi] at e
  exact ⟨ns[i], t, List.getElem?_eq_getElem hi, e⟩
theorem init_list {l : Addr} {items : Array Value} {ns : List Int} (hh : A.handled = none) (hl : s.heap.IsList l items) (hit : IntsAre items.toList ns) (hb : ns.length + 1 < scanBound) :
    codeAny (model P w) A (.call (.builtin "set.__init__") ⟨[.ref s.heap.objs.size, .ref l], []⟩) (wants (Full w s ns) E) { s with heap := s.heap.push (eset w) } := by
  have hsz : items.size = ns.length := by
    have q := IntsAre.length hit
    rw [Array.length_toList] at q
    exact q
  have hS : (s.heap.push (eset w)).get? s.heap.objs.size = some (eset w) := Heap.get?_push_size _ rfl
  refine codeAny_call_builtin F.called_set.init.plain F.entry_set_init (check_set_init_1 ⟨_, hS, rfl⟩ ?_)
  obtain ⟨o, ho, hc, n, hd⟩ := id hl
  obtain ⟨oc, od, dt, osl⟩ := o
  simp only at hc hd
  subst hc hd
  have ho' : (s.heap.push (eset w)).get? l = some { cls := .type "list", dict := od, data := .seq items n, slots := osl } := Heap.get?_push_of_some _ ho
  have hl' : (s.heap.push (eset w)).IsList l items := ⟨_, ho', rfl, n, rfl⟩
  have f1 := F.sub_list_set
  have f2 := F.sub_list_frozenset
  have f3 : (Value.type "list" == Value.type "dict") = false := by decide
  unfold Builtin.«set.__init__» noKeywords Builtin.Frozenset.updateFrom
  generalize hPI : pyIter = PI
  wp_walk
  subst hPI
  refine wpAny_pyIter_list hl' ?_
  refine wpAny_bind (wpAny_runValue ?_)
  have hlt : l < s.heap.objs.size := Heap.lt_size ho
  have h3 : A.in1.in1.handled = none := by simp [hh]
  have hz : (s.heap.push (eset w)).objs.size = s.heap.objs.size + 1 := Heap.size_push ..
  have ne1 : l ≠ (s.heap.push (eset w)).objs.size := by rw [hz]; exact Nat.ne_of_lt (Nat.lt_succ_of_lt hlt)
  have ne2 : s.heap.objs.size ∉ [(s.heap.push (eset w)).objs.size, l] := by
    rw [hz]
    simp only [List.mem_cons, List.not_mem_nil, or_false, not_or]
    exact ⟨Nat.ne_of_lt (Nat.lt_succ_self _), Nat.ne_of_gt hlt⟩
  refine set_update_ints ((Walks.list h3 _ l ne1 items).toS) s.heap.objs.size ne2 ns hsz hb (ints_get hit) (items.size - 0) 0 _ (by omega) (Nat.zero_le _) ?_ ?_ ?_
  · exact ⟨⟨_, Heap.get?_push_size _ rfl, rfl, rfl⟩, (hl'.push _)⟩
  · exact ⟨0, Nat.le_refl 0, setR_new_at (w := w) (Heap.get?_push_of_some _ hS)⟩
  intro s' c' hm hc' hS'
  obtain ⟨h', g2, d', tk', os'⟩ := s'
  obtain rfl : g2 = s.gens := hm.gens
  obtain rfl : d' = s.drawn := hm.drawn
  obtain rfl : os' = s.os := hm.os
  rw [hsz] at hc'
  refine wpAny_pure (wpAny_pure ⟨rfl, h', tk', c', rfl, hS', hc', fun b o e => ?_⟩)
  have hb0 : b < s.heap.objs.size := Heap.lt_size e
  refine hm.heap b o ?_ (Heap.get?_push_of_some _ (Heap.get?_push_of_some _ e))
  simp only [List.mem_cons, List.not_mem_nil, or_false, not_or]
  rw [hz]
  exact ⟨Nat.ne_of_lt hb0, Nat.ne_of_lt (Nat.lt_succ_of_lt hb0)⟩
theorem call_setL {l : Addr} {items : Array Value} {ns : List Int} {Q : Value → Shared → Prop} (hh : A.handled = none) (hl : s.heap.IsList l items) (hit : IntsAre items.toList ns) (hb : ns.length + 1 < scanBound)
    (h : ∀ (h' : Heap) (tk c : Nat), SetR w h' s.heap.objs.size (fun j => decide (j ∈ ns)) c → c ≤ ns.length → (∀ b o, s.heap.get? b = some o → h'.get? b = some o) → Q (.ref s.heap.objs.size) { s with heap := h', toks := tk }) :
    wpAny (model P w) A (call (.type "set") [.ref l]) Q E s := by
  have hct := F.typeCall_set_1 (.ref l)
  have h1 := F.called_set.notType
  have h2 := F.called_set.canCreate
  have h3 := F.called_set.made
  have h4 := F.called_set.sub
  obtain ⟨c0, tl, h5⟩ := F.called_set.mro
  refine wpAny_call (codeAny_of_tree ?_)
  show wpAny _ _ (callAny (.type "set") _) _ _ _
  refine wpAny_pure ⟨Code.quiet_builtin _ (by decide +kernel), codeAny_builtin F.entry_type_call ?_⟩
  rw [Around.under_plain (weight_type_call_type "set" [.ref l] []) rfl]
  repeat (any_goals (first | assumption | wp_step))
  refine codeAny_mono (code_set_led1 (.ref l) (E := E) (Q₁ := fun obj s₁ => obj = .ref s.heap.objs.size ∧ s₁ = { s with heap := s.heap.push (eset w) }) ⟨rfl, rfl⟩) fun r s₁ hr => ?_
  match r, hr with
  | .error e, hr => exact hr
  | .ok (.ret obj), hr =>
    obtain ⟨rfl, rfl⟩ := hr
    have hT : Shared.TypeIs { s with heap := s.heap.push (eset w) } (.ref s.heap.objs.size) "set" := ⟨_, Heap.get?_push_size _ rfl, rfl⟩
    have h6 := F.called_set.init.lookup
    have h7 := F.called_set.init.bind (.ref s.heap.objs.size)
    repeat (any_goals (first | assumption | wp_step))
    refine codeAny_mono (init_list (E := E) (by simp [hh]) hl hit hb) fun r₂ s₂ hr₂ => ?_
    match r₂, hr₂ with
    | .error e, hr₂ => exact hr₂
    | .ok (.ret r), hr₂ =>
      obtain ⟨rfl, h', tk, c', rfl, k1, k2, k3⟩ := hr₂
      repeat (any_goals (first | assumption | wp_step))
      exact h _ _ _ k1 k2 k3
    | .ok .next, hr₂ => exact hr₂.elim
    | .ok .brk, hr₂ => exact hr₂.elim
    | .ok .cont, hr₂ => exact hr₂.elim
  | .ok .next, hr => exact hr.elim
  | .ok .brk, hr => exact hr.elim
  | .ok .cont, hr => exact hr.elim
end
end EW
end

section
set_option maxHeartbeats 4000000
namespace EW
open PySem PySem.Spec PyProof.Rows L2
section
variable {P : Program} {w : World} {A : Around} {E : Value → Shared → Prop} {s : Shared} {a : Addr}
/-- sorted(s), any number of members: a new list of ints -/
theorem sorted_setA {S : Int → Bool} {n : Nat} {Q : Value → Shared → Prop} (R : SetR w s.heap a S n) (hh : A.handled = none)
    (hQ : ∀ (s' : Shared) (p : Addr) (out : List Value) (c : Nat) (ns : List Int), (∀ b o, s.heap.get? b = some o → s'.heap.get? b = some o) → s'.gens = s.gens → s'.os = s.os → s.heap.objs.size ≤ p → s'.heap.get? p = some (seqObj "list" out.toArray c) → IntsAre out ns → ns.length = n → Q (.ref p) s') :
    wpAny (model P w) A (call (.builtin "sorted") [.ref a]) Q E s := by
  obtain ⟨o, es, ep, t, ho, hex, hd, g, nd, hm, hb, hf, hn, hr, hl⟩ := R
  refine Calls.call_function_entry kind_sorted plain_sorted entry_sorted (args_sorted1 _) ?_
  unfold Builtin.«sorted»
  refine wpAny_bind (m := checkCount "sorted" 1 1 _) (wpAny_pure ?_)
  refine wpAny_bind (collect_set (A := A.in1) hh ⟨o, ho, hex.1, hd⟩ hf hb hr hl fun s1 vs k1 hz g1 o1 pm => ?_)
  have hvl : vs.length = n := by rw [pm.length_eq, List.length_map, Array.length_toList]; exact hn
  have hsc : scanBound ≤ sizeLine := by decide
  have hvz : vs.length ≤ sizeLine := by omega
  have hI : IntsAre vs (vs.map Builtin.Re.reRawOf) := ints_of vs fun v hv => by
    obtain ⟨e, he, q⟩ := List.mem_map.mp (pm.mem_iff.mp hv)
    obtain ⟨k, tk, z, _⟩ := g e he
    exact ⟨k, tk, q ▸ z⟩
  refine wpAny_bind (wpAny_newList ?_ hvz)
  have hoL : (s1.heap.push (seqObj "list" vs.toArray 0)).get? s1.heap.objs.size = some (seqObj "list" vs.toArray 0) := Heap.get?_push_size _ rfl
  refine wpAny_bind (wpAny_holding (wpAny_call_entry slot_list_sort ⟨_, hoL, rfl⟩ entry_list_sort (SrtO.list_sort_ord SrtO.swo_int hoL hvz (fun h2 => SrtO.ints_sortable hI h2) fun out b1 b2 => ⟨_, rfl, ?_⟩) (args_list_sort _)))
  obtain ⟨c, hc⟩ := sortedHeap_at (vs := vs) (out := out.toArray) hoL
  obtain ⟨i1, i2, _⟩ := SrtO.ints_out hI b1 b2
  refine wpAny_pure ⟨_, rfl, hQ _ s1.heap.objs.size out c _ (fun b u e => ?_) g1 o1 hz hc i1 ?_⟩
  · have q := k1 b u e
    have hlt := Heap.lt_size q
    show (sortedHeap (s1.heap.push (seqObj "list" vs.toArray 0)) s1.heap.objs.size vs out.toArray).get? b = some u
    rw [sortedHeap_old (Nat.ne_of_lt hlt) (by rw [size_push']; exact Nat.lt_succ_of_lt hlt)]
    exact Heap.get?_push_of_some _ q
  · rw [i2.length_eq, List.length_map]
    exact hvl
end
section
variable {X : Cx}
/-- set(l) -/
theorem cr_setL (hc : X.calm = true) : CallR X (.type "set") (fun vs H Q => ∃ (a : Addr) (ns : List Int), vs = [V.ref a] ∧ SqL X.K H a (ns.map V.int) ∧ ns.length + 1 < scanBound ∧ ∀ (p : Addr) (S : Int → Bool) (c : Nat) (H' : Hp), H p = none → Same H H' → H' p = some (SetO X.w p S c) → c ≤ ns.length → Q (.ref p) H') := by
  intro pins s σ H vs us Q I r h
  obtain ⟨a, ns, rfl, hS, hb, q⟩ := h
  obtain rfl := Vals.ref1 r
  obtain ⟨its, rv, hl, hz⟩ := I.list hS
  refine call_setL (I.ok.hd hc) hl.isList (show IntsAre its.toArray.toList ns from rv.ints) hb fun h' tk c R hcn kp => ?_
  have hf := I.hok.fresh (Nat.le_refl s.heap.objs.size)
  exact ⟨.ref _, upd H s.heap.objs.size (SetO X.w s.heap.objs.size (fun j => decide (j ∈ ns)) c), I.laid (t' := tk) kp (Nat.le_refl _) (setO_new R), rfl, q _ _ c _ hf (sameN hf) upd_same hcn⟩
/-- sorted(s) -/
theorem cr_sortedSetA (hc : X.calm = true) : CallR X (.builtin "sorted") (fun vs H Q => ∃ (a : Addr) (S : Int → Bool) (n : Nat), vs = [V.ref a] ∧ H a = some (SetO X.w a S n) ∧ ∀ ns : List Int, ns.length = n → New H (fun _ => .lst (ns.map V.int)) Q) := by
  intro pins s σ H vs us Q I r h
  obtain ⟨a, S, n, rfl, ha, q⟩ := h
  have R := setO_get I ha
  have hn := R
  obtain rfl := Vals.ref1 r
  refine sorted_setA R (I.ok.hd hc) fun s' p out c ns k g o hp hg hi hl => ?_
  have hlen : (ns.map V.int).length ≤ sizeLine := by
    obtain ⟨_, es, _, _, _, _, _, _, _, _, hb, _, hen, _⟩ := hn
    have hsc : scanBound ≤ sizeLine := by decide
    rw [List.length_map, hl]
    omega
  have hf : H p = none := I.hok.fresh hp
  have J : Inv X pins σ (upd H p (.lst (ns.map V.int))) { s with heap := s'.heap, gens := s'.gens, drawn := s'.drawn, toks := s'.toks } :=
    I.call (ch := []) (Un.laid k hp hf) (I.hok.laid k hp ⟨hlen, out, c, vals_of_ints hi, hg⟩) (by rw [g]; exact I.bare) (fun _ z => nomatch z)
  have e : s' = { s with heap := s'.heap, gens := s'.gens, drawn := s'.drawn, toks := s'.toks } := by
    cases s'
    cases s
    cases o
    rfl
  rw [e]
  exact ⟨.ref p, _, J, rfl, (q ns hl).at hf⟩
end
end EW
end

section
set_option maxHeartbeats 4000000
namespace EW
open PySem PySem.Spec PyProof.Rows L2
/-! ### slices, sealed -/
section
variable {X : Cx}
theorem sl_tupS (K : W.Frag) (h : X.K = K) : SlR X (fun x lo hi H Q => ∃ a xs, x = .ref a ∧ SqT K H a xs ∧ ¬ (HT.sIx xs.length 0 lo = 0 ∧ HT.sIx xs.length xs.length hi = xs.length) ∧ New H (fun _ => .tup (cutV xs lo hi)) Q) := by
  subst h
  intro pins s σ H x v vl vu lo hi sl Q I rx hs pl pu h
  obtain ⟨a, xs, e, hS, n, q⟩ := h
  exact sl_tup pins s σ H x v vl vu lo hi sl Q I rx hs pl pu ⟨a, xs, e, hS, n, fun p hp => q.at hp⟩
theorem sl_listS (K : W.Frag) (h : X.K = K) : SlR X (fun x lo hi H Q => ∃ a xs, x = .ref a ∧ SqL K H a xs ∧ New H (fun _ => .lst (cutV xs lo hi)) Q) := by
  subst h
  intro pins s σ H x v vl vu lo hi sl Q I rx hs pl pu h
  obtain ⟨a, xs, e, hS, q⟩ := h
  exact sl_list pins s σ H x v vl vu lo hi sl Q I rx hs pl pu ⟨a, xs, e, hS, fun p hp => q.at hp⟩
end
end EW
end

section

namespace Rn
variable {p : Int}
theorem join_mem {all : List Run} {gs : List (Int × List Run)} (hk : ∀ z ∈ all, z.r ∈ gs.map (·.1)) (hg : ∀ q ∈ gs, ∀ t, inRuns p q.2 t ↔ inRuns p (all.filter fun z => decide (z.r = q.1)) t) (t : Int) : inRuns p (gs.flatMap (·.2)) t ↔ inRuns p all t := by
  constructor
  · rintro ⟨z, hz, m⟩
    obtain ⟨q, hq, hz⟩ := List.mem_flatMap.mp hz
    obtain ⟨y, hy, m'⟩ := (hg q hq t).mp ⟨z, hz, m⟩
    exact ⟨y, (List.mem_filter.mp hy).1, m'⟩
  · rintro ⟨z, hz, m⟩
    obtain ⟨q, hq, e⟩ := List.mem_map.mp (hk z hz)
    obtain ⟨y, hy, m'⟩ := (hg q hq t).mpr ⟨z, List.mem_filter.mpr ⟨hz, decide_eq_true e.symm⟩, m⟩
    exact ⟨y, List.mem_flatMap.mpr ⟨q, hq, hy⟩, m'⟩
theorem len_parts (f : Run → Bool) : ∀ all : List Run, (all.filter f).length + (all.filter fun z => !f z).length = all.length
  | [] => rfl
  | z :: all => by
    have ih := len_parts f all
    rw [List.filter_cons, List.filter_cons]
    cases f z with
    | true =>
      simp
      omega
    | false =>
      simp
      omega
theorem join_len : ∀ {gs : List (Int × List Run)} {all : List Run}, (gs.map (·.1)).Nodup → (∀ q ∈ gs, q.2.length ≤ (all.filter fun z => decide (z.r = q.1)).length) → (gs.flatMap (·.2)).length ≤ all.length
  | [], _, _, _ => Nat.zero_le _
  | q :: gs, all, nd, h => by
    rw [List.map_cons, List.nodup_cons] at nd
    have h1 := h q List.mem_cons_self
    have ih := join_len (gs := gs) (all := all.filter fun z => !decide (z.r = q.1)) nd.2 fun q' hq' => by
      have h2 := h q' (List.mem_cons_of_mem _ hq')
      have ne : q'.1 ≠ q.1 := fun e => nd.1 (List.mem_map.mpr ⟨q', hq', e⟩)
      have e : (all.filter fun z => !decide (z.r = q.1)).filter (fun z => decide (z.r = q'.1)) = all.filter fun z => decide (z.r = q'.1) := by
        rw [List.filter_filter]
        refine List.filter_congr fun z _ => ?_
        by_cases c : z.r = q'.1
        · have c2 : z.r ≠ q.1 := fun x => ne (c.symm.trans x)
          simp [c, c2, ne]
        · simp [c]
      rw [e]
      exact h2
    have e2 : (all.filter fun z => decide (z.r = q.1)).length + (all.filter fun z => !decide (z.r = q.1)).length = all.length := by
      exact len_parts _ all
    rw [List.flatMap_cons, List.length_append]
    omega
theorem sorted_lt : ∀ {ns : List Int}, ns.Pairwise (· ≤ ·) → ns.Nodup → ns.Pairwise (· < ·)
  | [], _, _ => List.Pairwise.nil
  | n :: ns, h, nd => by
    rw [List.pairwise_cons] at h ⊢
    rw [List.nodup_cons] at nd
    refine ⟨fun m hm => ?_, sorted_lt h.2 nd.2⟩
    have h1 := h.1 m hm
    have h2 : n ≠ m := fun e => nd.1 (e ▸ hm)
    omega
end Rn
end

section

namespace Rn
variable {p r : Int}
/-- what lies between begin and a run's least time -/
def ahead (p r : Int) (b lo : Option Int) : List Sp3 := match lo with
  | none => []
  | some l => match b with
    | none => [⟨some r, none, some (l - p)⟩]
    | some c => if c < l then [⟨some r, some c, some (l - p)⟩] else []
/-- what lies between runs of one residue and behind them, from begin on -/
def outs (p r : Int) : Option Int → List Run → List Sp3
  | b, [] => [⟨some r, b, none⟩]
  | b, x :: xs => ahead p r b x.lo ++ match x.hi with
    | none => []
    | some h => outs p r (some (h + p)) xs
theorem ahead_res {b lo : Option Int} : ∀ s ∈ ahead p r b lo, s.res = some r := by
  intro s hs
  unfold ahead at hs
  cases lo with
  | none => cases hs
  | some l =>
    cases b with
    | none => exact (List.mem_singleton.mp hs) ▸ rfl
    | some c =>
      simp only at hs
      split at hs
      · exact (List.mem_singleton.mp hs) ▸ rfl
      · cases hs
theorem ahead_len {b lo : Option Int} : (ahead p r b lo).length ≤ 1 := by
  unfold ahead
  split
  · exact Nat.zero_le _
  · split
    · exact Nat.le_refl _
    · split
      · exact Nat.le_refl _
      · exact Nat.zero_le _
theorem outs_res : ∀ {xs : List Run} {b : Option Int}, ∀ s ∈ outs p r b xs, s.res = some r
  | [], b => fun s hs => by rw [outs, List.mem_singleton] at hs; rw [hs]
  | x :: xs, b => fun s hs => by
    rw [outs] at hs
    rcases List.mem_append.mp hs with hs | hs
    · exact ahead_res s hs
    · cases hh : x.hi with
      | none => rw [hh] at hs; cases hs
      | some h =>
        rw [hh] at hs
        exact outs_res s hs
theorem outs_len : ∀ {xs : List Run} {b : Option Int}, (outs p r b xs).length ≤ xs.length + 1
  | [], b => by rw [outs]; exact Nat.le_refl _
  | x :: xs, b => by
    rw [outs, List.length_append, List.length_cons]
    have h1 := ahead_len (p := p) (r := r) (b := b) (lo := x.lo)
    have h2 : (match x.hi with
      | none => ([] : List Sp3)
      | some h => outs p r (some (h + p)) xs).length ≤ xs.length + 1 := by
      split
      · exact Nat.zero_le _
      · exact outs_len
    omega
/-- begin fits the runs that follow -/
def Fits (p r : Int) (b : Option Int) (xs : List Run) : Prop := ∀ c, b = some c → c % p = r ∧ ∀ x ∈ xs, ∃ l, x.lo = some l ∧ c < l
theorem outs_mem (hp : 0 < p) (r0 : 0 ≤ r) (r1 : r < p) : ∀ {xs : List Run} {b : Option Int}, Canon p xs → (∀ x ∈ xs, x.r = r) → Fits p r b xs → ∀ t, t % p = r → (inSpans p (outs p r b xs) t ↔ geLo b t ∧ ¬ inRuns p xs t)
  | [], b, c, hr, hf, t, ht => by
    rw [outs]
    constructor
    · rintro ⟨s, hs, h1, h2, h3⟩
      rw [List.mem_singleton] at hs
      subst hs
      exact ⟨h2, fun ⟨x, hx, _⟩ => nomatch hx⟩
    · rintro ⟨h1, _⟩
      exact ⟨_, List.mem_singleton.mpr rfl, fun q e => by cases e; exact ht, h1, fun m e => nomatch e⟩
  | x :: xs, b, c, hr, hf, t, ht => by
    have gx := c.head
    have xr : x.r = r := hr x List.mem_cons_self
    have inx : inRun p x t ↔ geLo x.lo t ∧ leHi x.hi t := ⟨fun h => h.2, fun h => ⟨ht.trans xr.symm, h⟩⟩
    have tl : inRuns p (x :: xs) t ↔ inRun p x t ∨ inRuns p xs t := by
      constructor
      · rintro ⟨y, hy, m⟩
        rcases List.mem_cons.mp hy with rfl | hy
        · exact .inl m
        · exact .inr ⟨y, hy, m⟩
      · rintro (m | ⟨y, hy, m⟩)
        · exact ⟨x, List.mem_cons_self, m⟩
        · exact ⟨y, List.mem_cons_of_mem _ hy, m⟩
    rw [outs]
    -- the part ahead of x
    have hA : inSpans p (ahead p r b x.lo) t ↔ geLo b t ∧ ∃ l, x.lo = some l ∧ t < l := by
      unfold ahead
      cases hl : x.lo with
      | none =>
        constructor
        · rintro ⟨s, hs, _⟩
          cases hs
        · rintro ⟨_, l, e, _⟩
          cases e
      | some l =>
        have lm : l % p = t % p := (gx.lo l hl).trans (xr.trans ht.symm)
        have key : t ≤ l - p ↔ t < l := by
          constructor
          · intro h
            omega
          · intro h
            have := step_of hp lm.symm h
            omega
        cases b with
        | none =>
          constructor
          · rintro ⟨s, hs, h1, h2, h3⟩
            rw [List.mem_singleton] at hs
            subst hs
            exact ⟨h2, l, rfl, key.mp (h3 _ rfl)⟩
          · rintro ⟨h1, l', e, h2⟩
            cases e
            exact ⟨_, List.mem_singleton.mpr rfl, fun q e => by cases e; exact ht, h1, fun m e => by cases e; exact key.mpr h2⟩
        | some d =>
          obtain ⟨l', e, hlt⟩ := (hf d rfl).2 x List.mem_cons_self
          rw [hl] at e
          cases e
          simp only
          rw [if_pos hlt]
          constructor
          · rintro ⟨s, hs, h1, h2, h3⟩
            rw [List.mem_singleton] at hs
            subst hs
            exact ⟨h2, l, rfl, key.mp (h3 _ rfl)⟩
          · rintro ⟨h1, l', e, h2⟩
            cases e
            exact ⟨_, List.mem_singleton.mpr rfl, fun q e => by cases e; exact ht, h1, fun m e => by cases e; exact key.mpr h2⟩
    have app : ∀ {as bs : List Sp3}, inSpans p (as ++ bs) t ↔ inSpans p as t ∨ inSpans p bs t := by
      intro as bs
      constructor
      · rintro ⟨s, hs, m⟩
        rcases List.mem_append.mp hs with hs | hs
        · exact .inl ⟨s, hs, m⟩
        · exact .inr ⟨s, hs, m⟩
      · rintro (⟨s, hs, m⟩ | ⟨s, hs, m⟩)
        · exact ⟨s, List.mem_append_left _ hs, m⟩
        · exact ⟨s, List.mem_append_right _ hs, m⟩
    rw [app, hA, tl, inx]
    -- begin lies at or ahead of x
    have bx : ∀ l, x.lo = some l → l ≤ t → geLo b t := fun l hl h d e => by
      obtain ⟨l', e', hlt⟩ := (hf d e).2 x List.mem_cons_self
      rw [hl] at e'
      cases e'
      omega
    have bn : x.lo = none → b = none := fun hl => by
      cases b with
      | none => rfl
      | some d =>
        obtain ⟨l', e', _⟩ := (hf d rfl).2 x List.mem_cons_self
        rw [hl] at e'
        cases e'
    have notx : ¬ geLo x.lo t ↔ ∃ l, x.lo = some l ∧ t < l := by
      constructor
      · intro h
        cases hl : x.lo with
        | none => exact absurd (fun l e => by rw [hl] at e; cases e) h
        | some l =>
          rcases Int.lt_or_le t l with z | z
          · exact ⟨l, rfl, z⟩
          · exact absurd (fun l' e => by rw [hl] at e; cases e; exact z) h
      · rintro ⟨l, hl, h⟩ g
        have := g l hl
        omega
    cases hh : x.hi with
    | none =>
      have e0 : inSpans p ([] : List Sp3) t ↔ False := ⟨(fun ⟨s, hs, _⟩ => nomatch hs), False.elim⟩
      have nxs : inRuns p xs t → False := fun ⟨y, hy, m⟩ => later_none c hy m (ht.trans xr.symm) hh
      simp only
      rw [e0]
      constructor
      · rintro (⟨h1, l, hl, h2⟩ | h)
        · refine ⟨h1, ?_⟩
          rintro (⟨g, _⟩ | h)
          · have := g l hl
            omega
          · exact nxs h
        · exact h.elim
      · rintro ⟨h1, h2⟩
        refine .inl ⟨h1, notx.mp fun g => h2 (.inl ⟨g, fun m e => nomatch e⟩)⟩
    | some h =>
      have hm : h % p = r := (gx.hi h hh).trans xr
      have hf' : Fits p r (some (h + p)) xs := fun d e => by
        cases e
        refine ⟨by rw [Int.add_emod_right]; exact hm, fun y hy => ?_⟩
        rcases c.lt y hy with z | ⟨_, h', l, e1, e2, e3⟩
        · have := hr y (List.mem_cons_of_mem _ hy)
          omega
        · rw [hh] at e1
          cases e1
          exact ⟨l, e2, e3⟩
      have ih := outs_mem hp r0 r1 c.tail (fun y hy => hr y (List.mem_cons_of_mem _ hy)) hf' t ht
      simp only
      rw [ih]
      have key : h + p ≤ t ↔ h < t := by
        constructor
        · intro z
          omega
        · intro z
          exact step_of hp (hm.trans ht.symm) z
      have gl : geLo (some (h + p)) t ↔ h < t := by
        constructor
        · intro g
          exact key.mp (g _ rfl)
        · intro z d e
          cases e
          exact key.mpr z
      rw [gl]
      have le : leHi (some h) t ↔ t ≤ h := ⟨fun g => g _ rfl, fun z d e => by cases e; exact z⟩
      rw [le]
      have late : inRuns p xs t → h < t := fun ⟨y, hy, m⟩ => by
        have := later c hy m (ht.trans xr.symm) hh
        omega
      have lolh : ∀ l, x.lo = some l → l ≤ h := fun l hl => gx.le l h hl hh
      constructor
      · rintro (⟨h1, l, hl, h2⟩ | ⟨h1, h2⟩)
        · refine ⟨h1, ?_⟩
          rintro (⟨g, _⟩ | z)
          · have := g l hl
            omega
          · have := late z
            have := lolh l hl
            omega
        · refine ⟨?_, ?_⟩
          · cases hl : x.lo with
            | none =>
              rw [bn hl]
              exact fun _ e => nomatch e
            | some l =>
              have := lolh l hl
              exact bx l hl (by omega)
          · rintro (⟨_, z⟩ | z)
            · omega
            · exact h2 z
      · rintro ⟨h1, h2⟩
        rcases Int.lt_or_le h t with z | z
        · exact .inr ⟨z, fun q => h2 (.inr q)⟩
        · exact .inl ⟨h1, notx.mp fun g => h2 (.inl ⟨g, z⟩)⟩
end Rn
end

section
set_option maxHeartbeats 4000000
namespace EW
open PySem PySem.Spec PyProof.Rows L2
/-! ### instances with a period and runs -/
abbrev FS (p : Int) (l : Addr) : List (Str × V) := [("own_period", .int p), ("own_runs", .ref l)]
/-- the runs at l -/
def RunsAt (K : W.Frag) (H : Hp) (l : Addr) (p : Int) (zs : List Rn.Run) : Prop := ∃ ys, SqT K H l ys ∧ Rns K H ys zs ∧ Rn.Canon p zs ∧ zs.length ≤ 10000000
/-- an instance of the class at C with these runs -/
def Ob (K : W.Frag) (C : Addr) (H : Hp) (v : V) (p : Int) (zs : List Rn.Run) : Prop := ∃ a dx l, v = .ref a ∧ H a = some (.ins C dx (FS p l)) ∧ RunsAt K H l p zs ∧ 1 ≤ p ∧ p ≤ 400
section
variable {K : W.Frag} {C a l d : Addr} {H H' : Hp} {v : V} {p : Int} {zs : List Rn.Run}
theorem RunsAt.same (h : RunsAt K H l p zs) (s : Same H H') : RunsAt K H' l p zs := by
  obtain ⟨ys, h1, h2, h3⟩ := h
  exact ⟨ys, SqT.same h1 s, Rns.same h2 s, h3⟩
theorem RunsAt.kept {ys : List V} (h : RunsAt K H l p zs) (hd : H d = some (.lst ys)) (k : Kept d H H') : RunsAt K H' l p zs := by
  obtain ⟨ys, h1, h2, h3⟩ := h
  exact ⟨ys, SqT.kept h1 hd k, Rns.kept h2 hd k, h3⟩
theorem Rns.keptO {o : HO} {vs : List V} (h : Rns K H vs zs) (hd : H d = some o) (n1 : ∀ ys, o ≠ .tup ys) (n2 : ∀ b u, o ≠ .frz b u) (k : Kept d H H') : Rns K H' vs zs := Paired.mono (fun _ _ q => let ⟨a, e, t⟩ := q; ⟨a, e, SqT.keptO t hd n1 n2 k⟩) h
theorem RunsAt.keptI {x dx : Addr} {fs : List (Str × V)} (h : RunsAt K H l p zs) (hd : H x = some (.ins C dx fs)) (k : Kept x H H') : RunsAt K H' l p zs := by
  obtain ⟨ys, h1, h2, h3⟩ := h
  exact ⟨ys, SqT.keptO h1 hd (fun _ z => nomatch z) (fun _ _ z => nomatch z) k, Rns.keptO h2 hd (fun _ z => nomatch z) (fun _ _ z => nomatch z) k, h3⟩
theorem Ob.same (h : Ob K C H v p zs) (s : Same H H') : Ob K C H' v p zs := by
  obtain ⟨a, dx, l, e, h1, h2, h3⟩ := h
  exact ⟨a, dx, l, e, s _ _ h1, h2.same s, h3⟩
theorem Ob.kept {ys : List V} (h : Ob K C H v p zs) (hd : H d = some (.lst ys)) (k : Kept d H H') : Ob K C H' v p zs := by
  obtain ⟨a, dx, l, e, h1, h2, h3⟩ := h
  exact ⟨a, dx, l, e, k _ _ (fun z => by rw [z, hd] at h1; cases h1) h1, h2.kept hd k, h3⟩
theorem Ob.isC (h : Ob K C H v p zs) : IsC H C v := by
  obtain ⟨a, dx, l, e, h1, _⟩ := h
  exact ⟨a, dx, _, e, h1⟩
end
/-! ### what of the text a class must have -/
structure Kl (K : W.Frag) (mg : Str → Option Value) (x : Str) : Prop where
  g : mg x = some (.ref (He.ga K x))
  mkr : Mk K (He.ga K x) (He.ma K (He.ga K x) "__init__")
  cl : Cls K (He.ga K x)
  np : NoAttr K (He.ga K x) "own_period"
  nr : NoAttr K (He.ga K x) "own_runs"
  cls : W.findIn K (.ref (He.ga K x)) "__class__" = some (some (.builtin "object.__class__"))
  cg : W.specialIn K (.builtin "object.__class__") "__get__" = some (some (.builtin "getset_descriptor.__get__"))
  ct : W.takesIn K (.builtin "object.__class__") = some true
  ob : W.mroIn K (He.ga K x) (.type "object") = some true
  sf : W.selfFirst K (He.ga K x) = true
theorem Kl.ty {K : W.Frag} {mg : Str → Option Value} {x : Str} {H : Hp} {a dx : Addr} {fs : List (Str × V)} (k : Kl K mg x) (e : H a = some (.ins (He.ga K x) dx fs)) : TyX K H (.ref a) (.ref (He.ga K x)) := .base (.ins e k.cl k.cls k.cg k.ct k.ob)
section
variable {X : Cx} {K : W.Frag} {k : Nat} {f C : Addr} {fd : FuncData} {ps : List Str} {sp : Sp} {x : Str} {p pos : Pos} {e o : Expr} {es : List Expr} {t : TA} {ta : TE}
theorem fnR_of {P : Program} {w : World} {mg : Str → Option Value} {base : Heap} {CX : CXT} {dvs : List V} {ds : List Value} (F : FnOk P w K mg base CX k f fd ps sp) (hb : Binds K fd ps ds) (hd : Vals dvs ds) : FnR P w K mg base CX k f (fun vs H Q E => sp (vs ++ dvs) H Q E) := by
  intro A outer s H us vs Q E hr e0 r h
  have r2 := r.append hd
  have KX : K.In s.heap := e0.mod.kin.keeps fun b o e => (e0.bs b o e).1
  have hl : (us ++ ds).length = ps.length := by rw [← r2.length]; exact F.len _ _ _ _ h
  exact F.run A outer s H ⟨us, []⟩ (us ++ ds) (vs ++ dvs) Q E hr e0 (hb s us KX hl) r2 h
theorem pe_fldK (K : W.Frag) (h : X.K = K) {f : Str} (he : PE X e ta) (hb : attributeBase e f X.env (eval e X.env) = eval e X.env := by rfl) : PE X (.Attribute e f pos) (tFld K ta f) := by
  subst h
  exact pe_fld he hb
/-- cls(e, ..), cls a local name that holds the class at C -/
theorem pe_makeL {i : Nat} {E : XK} {CX : CXT} (M : Mk X.K C f) (F : FnR X.prog X.w X.K X.mg X.base CX k f sp) (hr : Room (k + 1) X.A) (hN : X.N[i]? = some x) (hv : Vis X.env.scope x) (hx : Passes CX X E) (ha : PA X (e :: es) t)
    (hdb : (x == ("__debug__" : Str)) = false := by decide) (hcd : (x == ("__classdict__" : Str)) = false := by decide)
    (he : starEach (e :: es) X.env = (false, eval e X.env) :: starEach es X.env := by rfl) (hpl : (backTo pos (starEach es X.env)).any (·.1) = false := by rfl) : PE X (.Call (.Name x p) (e :: es) [] pos) (fun σ H Q => σ[i]? = some (some (.ref C)) ∧ StX.tMakeR C sp E t σ H Q) := by
  refine ⟨fun pins s σ H Q I h => ?_⟩
  obtain ⟨hs, ht⟩ := h
  refine wpAny_Call_Name_kw (thn ((pe_var (pos := p) hN hv hdb hcd).run pins s σ H (fun v H1 => v = .ref C ∧ H1 = H) I ⟨.ref C, hs, rfl, rfl⟩) fun u s1 z => ?_)
  obtain ⟨v, H1, I1, r1, rfl, rfl⟩ := z
  cases r1
  refine W.callWith_K (h₀ := X.base) I.ok.mod.kin M.kp (thn (ha.run pos pins s1 σ _ _ I1 ht) fun us s2 z => ?_) he hpl
  obtain ⟨vs, H2, I2, r, q⟩ := z
  exact ⟨I2.kIn, StX.run_makeR M F hr hx I2 r q⟩
end
/-- the promise of an __init__ that keeps its two values -/
def spRInit (C : Addr) : Sp := fun vs H Q _ => ∃ (x dx : Addr) (u v : V), vs = [.ref x, u, v] ∧ H x = some (.ins C dx []) ∧ ∀ H', Kept x H H' → H' x = some (.ins C dx [("own_period", u), ("own_runs", v)]) → Q .non H'
section
variable {X : Cx} {k : Nat} {C f : Addr} {fd : FuncData} {ps : List Str} {x : Str} {p pos : Pos} {e : Expr} {es : List Expr} {t : TA}
theorem pe_mk2 (M : Mk X.K C f) (F : FnOk X.prog X.w X.K X.mg X.base CX0 k f fd ps (spRInit C)) (hb : Binds X.K fd ps []) (hr : Room (k + 1) X.A) (hg : Gl X x) (hm : X.mg x = some (.ref C)) (ha : PA X (e :: es) t)
    (hdb : (x == ("__debug__" : Str)) = false := by decide) (he : starEach (e :: es) X.env = (false, eval e X.env) :: starEach es X.env := by rfl) (hpl : (backTo pos (starEach es X.env)).any (·.1) = false := by rfl) :
    PE X (.Call (.Name x p) (e :: es) [] pos) (fun σ H Q => t σ H fun vs H1 => ∃ u v, vs = [u, v] ∧ ∀ (a dx : Addr) (H' : Hp), H1 a = none → Same H1 H' → H' a = some (.ins C dx [("own_period", u), ("own_runs", v)]) → Q (.ref a) H') := by
  refine PE.imp (pe_make M F hr hg hm hb .nil pass0 (PA.cl ha) hdb he hpl) fun σ H Q q => ⟨_, q, fun vs H1 z => ?_⟩
  obtain ⟨u, v, rfl, z⟩ := z
  intro a dx n1 n2 ne
  refine ⟨a, dx, u, v, rfl, upd_same, fun H' kp e => ⟨rfl, z a dx H' n1 (fun b o h => ?_) e⟩⟩
  have h1 : b ≠ a := fun z => by rw [z, n1] at h; cases h
  have h2 : b ≠ dx := fun z => by rw [z, n2] at h; cases h
  exact kp b o h1 (by rw [upd_ne h1, upd_ne h2]; exact h)
end
end EW
end

section
set_option maxHeartbeats 4000000
namespace EW
open PySem PySem.Spec PyProof.Rows L2
/-! ### methods, properties, classmethods by what of them is known -/
structure Mtk (P : Program) (w : World) (K : W.Frag) (mg : Str → Option Value) (base : Heap) (k : Nat) (C : Addr) (m : Str) (ps : List Str) (ds : List Value) (dvs : List V) (sp : Sp) : Prop where
  ex : ∃ f fd, FnOk P w K mg base CX0 k f fd ps sp ∧ Binds K fd ps ds ∧ Vals dvs ds ∧ Meth K C m f
structure Prp (P : Program) (w : World) (K : W.Frag) (mg : Str → Option Value) (base : Heap) (k : Nat) (C : Addr) (f : Str) (sp : Sp) : Prop where
  ex : ∃ p g fd, PropOf K C f p g ∧ FnOk P w K mg base CX0 k g fd ["self"] sp ∧ Binds K fd ["self"] []
structure CMt (P : Program) (w : World) (K : W.Frag) (mg : Str → Option Value) (base : Heap) (k : Nat) (C : Addr) (m : Str) (sp : Sp) : Prop where
  ex : ∃ mc p g, ClX.CRead K C mc ∧ ClX.CMet K C mc m p g ∧ FnR P w K mg base CX0 k g sp
section
variable {X : Cx} {k : Nat} {C : Addr} {m f : Str} {ps : List Str} {ds : List Value} {dvs : List V} {sp : Sp} {o e : Expr} {es : List Expr} {ta : TE} {t : TA} {pos apos : Pos}
theorem pe_mtk {pl : Sem Bool} (he : PE X o ta) (c : Cls X.K C) (M : Mtk X.prog X.w X.K X.mg X.base k C m ps ds dvs sp) (hr : Room k X.A) (ha : PA X (e :: es) t)
    (hst : starEach (e :: es) X.env = (false, eval e X.env) :: starEach es X.env := by rfl) (hpl : (backTo pos (starEach es X.env)).any (·.1) = false := by rfl)
    (ht : eval (.Call (.Attribute o m apos) (e :: es) [] pos) X.env = (do
      let ov ← eval o X.env
      standAt apos.atName
      let (f, first) ← holding [ov] (getMethod ov m pl)
      callWith pos f first (backTo pos (starEach (e :: es) X.env)) (backToKw pos (keywordEach [] X.env))) := by rfl) :
    PE X (.Call (.Attribute o m apos) (e :: es) [] pos) (tMeth C m sp dvs E0 ta t) := by
  obtain ⟨f, fd, F, b, hd, hm⟩ := M.ex
  exact pe_meth he c hm F hr b hd pass0 ha hst hpl ht
theorem pe_mtk0 {pl : Sem Bool} (he : PE X o ta) (c : Cls X.K C) (M : Mtk X.prog X.w X.K X.mg X.base k C m ps ds dvs sp) (hr : Room k X.A)
    (ht : eval (.Call (.Attribute o m apos) [] [] pos) X.env = (do
      let ov ← eval o X.env
      standAt apos.atName
      let (f, first) ← holding [ov] (getMethod ov m pl)
      callWith pos f first (backTo pos (starEach [] X.env)) (backToKw pos (keywordEach [] X.env))) := by rfl) :
    PE X (.Call (.Attribute o m apos) [] [] pos) (tMeth C m sp dvs E0 ta tNil) := by
  obtain ⟨f, fd, F, b, hd, hm⟩ := M.ex
  exact pe_meth0 he c hm F hr b hd pass0 ht
theorem pe_prp (he : PE X e ta) (c : Cls X.K C) (R : Prp X.prog X.w X.K X.mg X.base k C f sp) (hr : Room (k + 1) X.A) (hab : attributeBase e f X.env (eval e X.env) = eval e X.env := by rfl) : PE X (.Attribute e f pos) (tProp C sp [] E0 ta) := by
  obtain ⟨p, g, fd, h1, F, b⟩ := R.ex
  exact pe_prop he c h1 F hr b .nil pass0 hab
theorem pe_cmt {pl : Sem Bool} (he : PE X o ta) (M : CMt X.prog X.w X.K X.mg X.base k C m sp) (hr : Room k X.A) (ha : PA X (e :: es) t)
    (hst : starEach (e :: es) X.env = (false, eval e X.env) :: starEach es X.env := by rfl) (hpl : (backTo pos (starEach es X.env)).any (·.1) = false := by rfl)
    (ht : eval (.Call (.Attribute o m apos) (e :: es) [] pos) X.env = (do
      let ov ← eval o X.env
      standAt apos.atName
      let (f, first) ← holding [ov] (getMethod ov m pl)
      callWith pos f first (backTo pos (starEach (e :: es) X.env)) (backToKw pos (keywordEach [] X.env))) := by rfl) :
    PE X (.Call (.Attribute o m apos) (e :: es) [] pos) (ClX.tCMeth C sp E0 ta t) := by
  obtain ⟨mc, p, g, h1, h2, F⟩ := M.ex
  exact ClX.pe_cmeth he h1 h2 F hr pass0 ha hst hpl ht
/-- a list some times, sealed -/
def rRepS : R2 := fun x y H Q => ∃ l k xs, x = .ref l ∧ y = .int k ∧ H l = some (.lst xs) ∧ -(2 ^ 63) ≤ k ∧ k < 2 ^ 63 ∧ xs.length * k.toNat ≤ sizeLine ∧ New H (fun _ => .lst (List.replicate k.toNat xs).flatten) Q
theorem op_repS : OpR X (binaryOp .Mult) rRepS := by
  intro pins s σ H x y v u Q I rx ry h
  obtain ⟨l, k, xs, h1, h2, h3, h4, h5, h6, h7⟩ := h
  exact op_rep pins s σ H x y v u Q I rx ry ⟨l, k, xs, h1, h2, h3, h4, h5, h6, fun _ hp => h7.at hp⟩
/-- is True, is False -/
def tIsB (ta : TE) (b : Bool) : TE := fun σ H Q => ta σ H fun x H1 => ∃ c, x = .bl c ∧ Q (.bl (decide (c = b))) H1
theorem is_bool {M : Model} {A : Around} {E : Value → Shared → Prop} {Q : Value → Shared → Prop} {s : Shared} {c b : Bool} (h : Q (.bool (decide (c = b))) s) : wpAny M A (compareOp .Is (.bool c) (.bool b)) Q E s := by
  cases c <;> cases b <;> exact wpAny_pure h
theorem pc_isB {a : Expr} {b : Bool} {j pos'} (ha : PE X a ta) : PC X .Is a (.Constant (.bool b) j pos') (tIsB ta b) := by
  refine ⟨fun pins s σ H Q I h => ?_⟩
  refine thn (ha.run pins s σ H _ I h) fun v s1 ⟨x, H1, I1, r1, c, ex, q1⟩ => ?_
  subst ex
  cases r1
  exact Constant_bool (is_bool ⟨.bl _, H1, I1, rfl, q1⟩)
end
end EW
end

section
set_option maxHeartbeats 4000000
namespace EW
open PySem PySem.Spec PyProof.Rows L2
section
variable {K : W.Frag} {h : Heap} {mg : Str → Option Value}
theorem klB_ok (X : K.In h) (G : h.Ns mainGlobals mg) {x : Str} (c : klB K x = true) : Kl K mg x := by
  obtain ⟨c1, c⟩ := He.ba c
  obtain ⟨c2, c⟩ := He.ba c
  obtain ⟨c3, c⟩ := He.ba c
  obtain ⟨c4, c⟩ := He.ba c
  obtain ⟨c5, c⟩ := He.ba c
  obtain ⟨c6, c⟩ := He.ba c
  obtain ⟨c7, c⟩ := He.ba c
  obtain ⟨c8, c⟩ := He.ba c
  obtain ⟨c9, c10⟩ := He.ba c
  exact ⟨He.glo_ok X G c1, He.mkr_ok c2, He.cls_ok c3, He.noat_ok c4, He.noat_ok c5, He.eqO_ok c6, He.eqO_ok c7, of_decide_eq_true c8, of_decide_eq_true c9, c10⟩
theorem propB_ok {C : Addr} {f : Str} (c : propB K C f = true) : PropOf K C f (He.ma K C f) (He5.wf K C "property" f) := by
  obtain ⟨c1, c⟩ := He.ba c
  obtain ⟨c2, c⟩ := He.ba c
  obtain ⟨c3, c4⟩ := He.ba c
  refine ⟨He.eqO_ok c1, He.eqO_ok c2, of_decide_eq_true c3, ?_⟩
  unfold He5.wf
  split at c4
  · rename_i f r e
    exact ⟨r, by rw [e]⟩
  · cases c4
theorem creadB_ok {C : Addr} (c : creadB K C = true) : ClX.CRead K C (.type "type") := by
  obtain ⟨c1, c2⟩ := He.ba c
  exact ⟨c1, He.eqO_ok c2⟩
theorem cmetB_ok {C : Addr} {m : Str} (c : cmetB K C m = true) : ClX.CMet K C (.type "type") m (He.ma K C m) (He5.wf K C "classmethod" m) := by
  obtain ⟨c1, c2⟩ := He.ba c
  exact He5.cmet_of c1 c2
theorem kitB1_ok {t u : Value} {b : Bool} (c : kitB1 K t u b = true) : W.kitOne K t u = some b := of_decide_eq_true c
theorem findB_ok {C : Addr} {m : Str} {id : String} (c : findB K C m id = true) : W.findIn K (.ref C) m = some (some (.builtin id)) := He.eqO_ok c
end
end EW
end

section
set_option maxHeartbeats 4000000
/-! EwAny: a module's tuple of two Nones. -/
namespace EW
open PySem PySem.Spec PyProof.Rows L2
theorem twoNonB_ok {K : W.Frag} {x : Str} (c : twoNonB K x = true) (H : Hp) : SqT K H (He.ga K x) [.non, .non] := by
  unfold twoNonB at c
  cases e : K.lookup (He.ga K x) with
  | none =>
    rw [e] at c
    cases c
  | some o =>
    rw [e] at c
    obtain ⟨c1, c2⟩ := He.ba c
    obtain ⟨cl, di, da, sl⟩ := o
    have e1 : cl = .type "tuple" := of_decide_eq_true c1
    dsimp only at c2
    cases da with
    | seq its n =>
      have c2 : its.toList = [.none, .none] := of_decide_eq_true c2
      refine .inr ⟨_, its, n, e, e1, rfl, ?_, ?_⟩
      · have : its.size = 2 := by rw [← Array.length_toList, c2]; rfl
        rw [this]
        decide
      · rw [c2]
        exact .cons rfl (.cons rfl .nil)
    | _ => cases c2
theorem threeNonB_ok {K : W.Frag} {x : Str} (c : threeNonB K x = true) (H : Hp) : SqT K H (He.ga K x) [.non, .non, .non] := by
  unfold threeNonB at c
  cases e : K.lookup (He.ga K x) with
  | none =>
    rw [e] at c
    cases c
  | some o =>
    rw [e] at c
    obtain ⟨c1, c2⟩ := He.ba c
    obtain ⟨cl, di, da, sl⟩ := o
    have e1 : cl = .type "tuple" := of_decide_eq_true c1
    dsimp only at c2
    cases da with
    | seq its n =>
      have c2 : its.toList = [.none, .none, .none] := of_decide_eq_true c2
      refine .inr ⟨_, its, n, e, e1, rfl, ?_, ?_⟩
      · have : its.size = 3 := by rw [← Array.length_toList, c2]; rfl
        rw [this]
        decide
      · rw [c2]
        exact .cons rfl (.cons rfl (.cons rfl .nil))
    | _ => cases c2
end EW
end

section
set_option maxHeartbeats 4000000
namespace EW
open PySem PySem.Spec PyProof.Rows L2
/-! ### data that stand while the heap grows; written data -/
mutual
theorem dp_same {K : W.Frag} {H H' : Hp} (s : Same H H') : ∀ (d : PyData) (v : V), Dp K H v d → Dp K H' v d
  | .none, _, h => by
    cases h
    exact .non
  | .bool b, _, h => by
    cases h
    exact .bl b
  | .int i, _, h => by
    cases h
    exact .int i
  | .str x, _, h => by
    cases h
    exact .str x
  | .list ds, _, h => by
    cases h with
    | lst hs ha => exact .lst (s.seq hs) (dpAll_same s ds _ ha)
  | .tuple ds, _, h => by
    cases h with
    | tup hs ha =>
      refine .tup ?_ (dpAll_same s ds _ ha)
      rcases hs with (h | ⟨o, h⟩) | h
      · exact .inl (.inl (s _ _ h))
      · exact .inl (.inr ⟨o, s _ _ h⟩)
      · exact .inr h
  | .dict _, _, h => by cases h
theorem dpAll_same {K : W.Frag} {H H' : Hp} (s : Same H H') : ∀ (ds : List PyData) (vs : List V), DpAll K H vs ds → DpAll K H' vs ds
  | [], _, h => by
    cases h
    exact .nil
  | d :: ds, _, h => by
    cases h with
    | cons h1 h2 => exact .cons (dp_same s d _ h1) (dpAll_same s ds _ h2)
end
theorem dpAll_len {K : W.Frag} {H : Hp} : ∀ (ds : List PyData) (vs : List V), DpAll K H vs ds → vs.length = ds.length
  | [], _, h => by
    cases h
    rfl
  | d :: ds, _, h => by
    cases h with
    | cons h1 h2 => rw [List.length_cons, List.length_cons, dpAll_len ds _ h2]
section
variable {X : Cx} {K : W.Frag} {e : Expr} {es : List Expr} {d : PyData} {ds : List PyData} {pos : Pos}
def tLit (K : W.Frag) (d : PyData) : TE := fun _ H Q => ∀ v H', Same H H' → Dp K H' v d → Q v H'
def tLits (K : W.Frag) (ds : List PyData) : TA := fun _ H Q => ∀ vs H', Same H H' → DpAll K H' vs ds → Q vs H'
theorem PA.imp {t t' : TA} (h : PA X es t) (i : ∀ σ H Q, t' σ H Q → t σ H Q) : PA X es t' := ⟨fun ps pins s σ H Q I q => h.run ps pins s σ H Q I (i _ _ _ q)⟩
theorem pl_int {i : Int} {k} : PE X (.Constant (.int i) k pos) (tLit K (.int i)) := PE.imp pe_int fun σ H Q q => q _ H (Same.refl H) (.int i)
theorem pl_non {k} : PE X (.Constant .none k pos) (tLit K .none) := PE.imp pe_non fun σ H Q q => q _ H (Same.refl H) .non
theorem pl_bl {b : Bool} {k} : PE X (.Constant (.bool b) k pos) (tLit K (.bool b)) := PE.imp pe_bl fun σ H Q q => q _ H (Same.refl H) (.bl b)
theorem pl_str {z : Str} {k} : PE X (.Constant (.str z) k pos) (tLit K (.str z)) := PE.imp pe_str fun σ H Q q => q _ H (Same.refl H) (.str z)
theorem pl_neg {i : Int} (h : PE X e (tLit K (.int i))) : PE X (.UnaryOp .USub e pos) (tLit K (.int (-i))) := PE.imp (pe_un un_neg h) fun σ H Q q v H' s dv => by
  cases dv
  exact ⟨_, rfl, q _ H' s (.int (-i))⟩
theorem pls_nil : PA X [] (tLits K []) := PA.imp pa_nil fun σ H Q q => q [] H (Same.refl H) .nil
theorem pls_cons (h : PE X e (tLit K d)) (t : PA X es (tLits K ds)) (hs : starEach (e :: es) X.env = (false, eval e X.env) :: starEach es X.env := by rfl) : PA X (e :: es) (tLits K (d :: ds)) := PA.imp (pa_cons h t hs) fun σ H Q q v H1 s1 d1 vs H2 s2 d2 => q (v :: vs) H2 (Same.trans s1 s2) (.cons (dp_same s2 _ _ d1) d2)
theorem pl_tup {n : Nat} (hl : ds.length ≤ sizeLine) (t : PA X es (tLits K ds)) : PE X (.Tuple es n pos) (tLit K (.tuple ds)) := PE.imp (pe_tupS t) fun σ H Q q vs H1 s1 d1 => ⟨by rw [dpAll_len _ _ d1]; exact hl, fun p H2 n2 s2 e2 => q _ H2 (Same.trans s1 s2) (.tup (SqT.of e2) (dpAll_same s2 _ _ d1))⟩
theorem pl_lst (hl : ds.length ≤ sizeLine) (t : PA X es (tLits K ds)) : PE X (.List es pos) (tLit K (.list ds)) := PE.imp (pe_lstS t) fun σ H Q q vs H1 s1 d1 => ⟨by rw [dpAll_len _ _ d1]; exact hl, fun p H2 n2 s2 e2 => q _ H2 (Same.trans s1 s2) (.lst (SqL.of e2) (dpAll_same s2 _ _ d1))⟩
end
end EW
end

section
set_option maxHeartbeats 4000000
namespace EW
open PySem PySem.Spec PyProof.Rows L2
/-! ### spans as data -/
def spanD (s : Rn.Sp3) : PyData := .tuple [od s.res, od s.lo, od s.hi]
section
variable {K : W.Frag} {H H' : Hp} {v : V} {Q : VK} {X : Cx}
theorem span_dp {s : Rn.Sp3} (h : Sn K H v s) : Dp K H v (spanD s) := by
  obtain ⟨a, rfl, q⟩ := h
  exact .tup q (.cons (od_dp _) (.cons (od_dp _) (.cons (od_dp _) .nil)))
theorem spans_dp : ∀ {vs : List V} {ss : List Rn.Sp3}, Sns K H vs ss → DpAll K H vs (ss.map spanD)
  | _, _, .nil => .nil
  | _, _, .cons h t => .cons (span_dp h) (spans_dp t)
theorem span_lay (s : Rn.Sp3) : (spanD s).canLay0 = true := by simp [spanD, PyData.canLay0, PyData.canLayAll0, od_lay]
theorem spans_lay : ∀ ss : List Rn.Sp3, PyData.canLayAll0 (ss.map spanD) = true
  | [] => by simp [PyData.canLayAll0]
  | z :: zs => by simp [PyData.canLayAll0, span_lay, spans_lay zs]
theorem span_depth (z : Rn.Sp3) : (spanD z).depth = 1 := by simp [spanD, PyData.depth, PyData.depthAll, od_depth]
theorem spans_depth : ∀ zs : List Rn.Sp3, PyData.depthAll (zs.map spanD) ≤ 1
  | [] => by simp [PyData.depthAll]
  | z :: zs => by
    have h := spans_depth zs
    simp [PyData.depthAll, span_depth]
    omega
theorem spans_shaped (zs : List Rn.Sp3) : SeqAt.shaped (.list (zs.map spanD)) = true := by
  have h := spans_depth zs
  simp [SeqAt.shaped, PyData.canLay0, PyData.depth, spans_lay]
  omega
theorem sn_of_dp (s : Rn.Sp3) (h : Dp K H v (.tuple [od s.res, od s.lo, od s.hi])) : Sn K H v s := by
  have ob_of : ∀ {w : V} {o : Option Int}, Dp K H w (od o) → w = ob o := fun {w o} h => by
    cases o with
    | none => cases h; rfl
    | some i => cases h; rfl
  cases h with
  | tup hs ha =>
    cases ha with
    | cons h1 ha =>
      cases ha with
      | cons h2 ha =>
        cases ha with
        | cons h3 ha =>
          cases ha
          rw [ob_of h1, ob_of h2, ob_of h3] at hs
          exact ⟨_, rfl, hs⟩
theorem ints_dp : ∀ ns : List Int, DpAll K H (ns.map V.int) (ns.map PyData.int)
  | [] => .nil
  | b :: bs => .cons (.int b) (ints_dp bs)
theorem ints_lay : ∀ bs : List Int, PyData.canLayAll0 (bs.map PyData.int) = true
  | [] => by simp [PyData.canLayAll0]
  | b :: bs => by simp [PyData.canLayAll0, PyData.canLay0, ints_lay bs]
theorem ints_depth : ∀ bs : List Int, PyData.depthAll (bs.map PyData.int) = 0
  | [] => by simp [PyData.depthAll]
  | b :: bs => by simp [PyData.depthAll, PyData.depth, ints_depth bs]
theorem shaped_ints (bs : List Int) : SeqAt.shaped (.list (bs.map PyData.int)) = true := by
  simp [SeqAt.shaped, PyData.canLay0, PyData.depth, ints_lay, ints_depth]
theorem cr_minK {X : Cx} (K : W.Frag) (h : X.K = K) (hc : X.calm = true) : CallR X (.builtin "min") (rMin K) := by
  subst h
  exact cr_min hc
theorem nil_shaped : SeqAt.shaped (.list []) = true := by simp [SeqAt.shaped, PyData.canLay0, PyData.canLayAll0, PyData.depth, PyData.depthAll]
theorem list_nil_eqv (ds : List PyData) : PyData.eqv (.list ds) (.list []) = ds.isEmpty := by
  rw [PyData.eqv]
  cases ds <;> simp [PyData.eqvAll]
/-- a list against [] -/
theorem neNil {x y : V} {ds : List PyData} (hx : Dp K H x (.list ds)) (hs : SeqAt.shaped (.list ds) = true) (hy : Dp K H y (.list [])) (k : Q (.bl (!ds.isEmpty)) H) : rNeD K x y H Q :=
  ⟨_, _, hx, hy, hs, nil_shaped, by rw [list_nil_eqv]; exact k⟩
theorem eqNil {x y : V} {ds : List PyData} (hx : Dp K H x (.list ds)) (hs : SeqAt.shaped (.list ds) = true) (hy : Dp K H y (.list [])) (k : Q (.bl ds.isEmpty) H) : rEqD K x y H Q :=
  ⟨_, _, hx, hy, hs, nil_shaped, by rw [list_nil_eqv]; exact k⟩
theorem seqIx {j n : Nat} (h : j < n) : seqIndex? (j : Int) n = some j := by
  unfold seqIndex?
  have h1 : ¬ ((j : Int) < 0) := by omega
  have h2 : ¬ ((j : Int) ≥ (n : Int)) := by omega
  simp [h1, h]
end
end EW
end

section
set_option maxHeartbeats 4000000
/-! EwPrs: lists of pairs (lo, hi) of bounds, as values and as data. -/
namespace EW
open PySem PySem.Spec PyProof.Rows L2
abbrev OO := Option Int × Option Int
abbrev Prs (K : W.Frag) (H : Hp) (vs : List V) (ys : List OO) : Prop := Paired (fun v y => Tp K H v [ob y.1, ob y.2]) vs ys
def pairD (y : OO) : PyData := .tuple [od y.1, od y.2]
section
variable {K : W.Frag} {H H' : Hp} {v : V} {vs xs : List V} {l : Addr}
theorem Prs.same {ys : List OO} (h : Prs K H vs ys) (s : Same H H') : Prs K H' vs ys := Paired.mono (fun _ _ q => Tp.same q s) h
theorem Prs.kept {ys : List OO} (h : Prs K H vs ys) (hl : H l = some (.lst xs)) (k : Kept l H H') : Prs K H' vs ys := Paired.mono (fun _ _ q => Tp.kept q hl k) h
theorem prs_dp : ∀ {vs : List V} {ys : List OO}, Prs K H vs ys → DpAll K H vs (ys.map pairD)
  | _, _, .nil => .nil
  | _, _, .cons ⟨_, e, q⟩ t => .cons (e ▸ .tup q (.cons (od_dp _) (.cons (od_dp _) .nil))) (prs_dp t)
end
theorem pair_lay (y : OO) : (pairD y).canLay0 = true := by simp [pairD, PyData.canLay0, PyData.canLayAll0, od_lay]
theorem pairs_lay : ∀ ys : List OO, PyData.canLayAll0 (ys.map pairD) = true
  | [] => by simp [PyData.canLayAll0]
  | z :: zs => by simp [PyData.canLayAll0, pair_lay, pairs_lay zs]
theorem pair_depth (y : OO) : (pairD y).depth = 1 := by simp [pairD, PyData.depth, PyData.depthAll, od_depth]
theorem pairs_depth : ∀ ys : List OO, PyData.depthAll (ys.map pairD) ≤ 1
  | [] => by simp [PyData.depthAll]
  | z :: zs => by
    have h := pairs_depth zs
    simp [PyData.depthAll, pair_depth]
    omega
theorem pair_shaped (y : OO) : SeqAt.shaped (pairD y) = true := by
  simp [SeqAt.shaped, pair_lay, pair_depth]
theorem pairs_shaped (ys : List OO) : SeqAt.shaped (.list (ys.map pairD)) = true := by
  have h := pairs_depth ys
  simp [SeqAt.shaped, PyData.canLay0, PyData.depth, pairs_lay]
  omega
theorem pair_eqv (x y : OO) : PyData.eqv (pairD x) (pairD y) = decide (x = y) := by
  obtain ⟨a, b⟩ := x
  obtain ⟨c, d⟩ := y
  simp only [pairD, PyData.eqv, PyData.eqvAll, od_eqv, Bool.and_true]
  by_cases h1 : a = c <;> by_cases h2 : b = d <;> simp [h1, h2]
theorem pairs_eqvAll : ∀ xs ys : List OO, PyData.eqvAll (xs.map pairD) (ys.map pairD) = decide (xs = ys)
  | [], [] => by simp [PyData.eqvAll]
  | [], y :: ys => by simp [PyData.eqvAll]
  | x :: xs, [] => by simp [PyData.eqvAll]
  | x :: xs, y :: ys => by
    rw [List.map_cons, List.map_cons, PyData.eqvAll, pair_eqv, pairs_eqvAll xs ys]
    by_cases h1 : x = y
    · by_cases h2 : xs = ys
      · simp [h1, h2]
      · simp [h1, h2]
    · simp [h1]
theorem pairs_eqv (xs ys : List OO) : PyData.eqv (.list (xs.map pairD)) (.list (ys.map pairD)) = decide (xs = ys) := by
  rw [PyData.eqv]
  exact pairs_eqvAll xs ys
end EW
end

section
set_option maxHeartbeats 4000000
/-! EwZone: zones; what the zone functions compute; moved zones. -/
namespace Zn
open EW (OO)
structure Z where
  vs : List PySem.Str
  ss : List Rn.Sp3
  g : OO
abbrev Q3 := OO × OO × OO
def grt (a b : Option Int) : Option Int := match a, b with
  | none, b => b
  | some u, none => some u
  | some u, some v => some (if v > u then v else u)
def lst (a b : Option Int) : Option Int := match a, b with
  | none, b => b
  | some u, none => some u
  | some u, some v => some (if v < u then v else u)
def pls (a b : Option Int) : Option Int := match a, b with
  | some u, some v => some (u + v)
  | _, _ => none
def mns (a b : Option Int) : Option Int := match a, b with
  | some u, some v => some (u - v)
  | _, _ => none
def rnd (p : Int) (r : Option Int) (q : OO) : OO := match r with
  | none => q
  | some r => (q.1.map (Rn.upTo p r), q.2.map (Rn.downTo p r))
def emp : OO → Bool
  | (some a, some b) => decide (b < a)
  | _ => false
def gres (p : Int) (a b : Option Int) : Option Int := match a, b with
  | some u, some v => some ((v - u) % p)
  | _, _ => none
def closed (f s g : OO) : Q3 :=
  ((grt f.1 (mns s.1 g.2), lst f.2 (mns s.2 g.1)), (grt s.1 (pls f.1 g.1), lst s.2 (pls f.2 g.2)), (grt g.1 (mns s.1 f.2), lst g.2 (mns s.2 f.1)))
def anyE (q : Q3) : Bool := emp q.1 || emp q.2.1 || emp q.2.2
def rnd3 (p : Int) (r : Option Int × Option Int × Option Int) (q : Q3) : Q3 := (rnd p r.1 q.1, rnd p r.2.1 q.2.1, rnd p r.2.2 q.2.2)
def step (p : Int) (r : Option Int × Option Int × Option Int) (q : Q3) : Option Q3 :=
  let a := rnd3 p r q
  if anyE a = true then none else
    let b := closed a.1 a.2.1 a.2.2
    if anyE b = true then none else some b
def tight (p : Int) (s t : Rn.Sp3) (g : OO) : Option (Rn.Sp3 × Rn.Sp3 × OO) :=
  ((step p (s.res, t.res, gres p s.res t.res) ((s.lo, s.hi), (t.lo, t.hi), g)).bind (step p (s.res, t.res, gres p s.res t.res))).map fun q => (⟨s.res, q.1.1, q.1.2⟩, ⟨t.res, q.2.1.1, q.2.1.2⟩, q.2.2)
def rndS (p : Int) (s : Rn.Sp3) : Rn.Sp3 := ⟨s.res, (rnd p s.res (s.lo, s.hi)).1, (rnd p s.res (s.lo, s.hi)).2⟩
def empS (s : Rn.Sp3) : Bool := emp (s.lo, s.hi)
def norm (p : Int) (z : Z) : Option Z := match z.ss with
  | [s, t] => (tight p s t z.g).map fun q => ⟨z.vs, [q.1, q.2.1], q.2.2⟩
  | ss => if (ss.map (rndS p)).any empS = true then none else some ⟨z.vs, ss.map (rndS p), (none, none)⟩
/-! ### moved -/
def sh (m : Int) (o : Option Int) : Option Int := o.map (· + m)
def shP (m : Int) (q : OO) : OO := (sh m q.1, sh m q.2)
def shS (p m : Int) (s : Rn.Sp3) : Rn.Sp3 := ⟨s.res.map fun r => (r + m) % p, sh m s.lo, sh m s.hi⟩
def moved (p : Int) (z : Z) (i : Nat) (m : Int) : Z := ⟨z.vs, match z.ss[i]? with
  | some s => z.ss.set i (shS p m s)
  | none => z.ss, shP (if i = 1 then m else -m) z.g⟩
section
variable {p m a b : Int} {q f s g : OO} {r r' : Option Int}
theorem sh_zero (o : Option Int) : sh 0 o = o := by cases o <;> simp [sh]
theorem shP_zero (q : OO) : shP 0 q = q := by
  obtain ⟨x, y⟩ := q
  simp [shP, sh_zero]
theorem grt_sh (x y : Option Int) : grt (sh m x) (sh m y) = sh m (grt x y) := by
  cases x <;> cases y <;> simp [grt, sh]
  split <;> rfl
theorem lst_sh (x y : Option Int) : lst (sh m x) (sh m y) = sh m (lst x y) := by
  cases x <;> cases y <;> simp [lst, sh]
  split <;> rfl
theorem pls_sh (x y : Option Int) : pls (sh a x) (sh b y) = sh (a + b) (pls x y) := by
  cases x <;> cases y <;> simp [pls, sh]
  omega
theorem mns_sh (x y : Option Int) : mns (sh a x) (sh b y) = sh (a - b) (mns x y) := by
  cases x <;> cases y <;> simp [mns, sh]
  omega
theorem closed_sh : closed (shP a f) (shP b s) (shP (b - a) g) = (shP a (closed f s g).1, shP b (closed f s g).2.1, shP (b - a) (closed f s g).2.2) := by
  unfold closed shP
  simp only [mns_sh, pls_sh, show b - (b - a) = a by omega, show a + (b - a) = b by omega, grt_sh, lst_sh]
theorem emp_sh : emp (shP m q) = emp q := by
  obtain ⟨x, y⟩ := q
  cases x <;> cases y <;> simp [emp, shP, sh]
/-- a residue moved along -/
def Mv (p m : Int) : Option Int → Option Int → Prop
  | none, none => True
  | some r, some r' => r' % p = (r + m) % p
  | _, _ => False
theorem mod_sub (x y p : Int) : (x % p - y) % p = (x - y) % p := by rw [Int.sub_emod, Int.emod_emod, ← Int.sub_emod]
theorem sub_mod (x y p : Int) : (x - y % p) % p = (x - y) % p := by rw [Int.sub_emod, Int.emod_emod, ← Int.sub_emod]
theorem rnd_sh (h : Mv p m r r') : rnd p r' (shP m q) = shP m (rnd p r q) := by
  obtain ⟨x, y⟩ := q
  cases r with
  | none =>
    cases r' with
    | none => rfl
    | some _ => exact h.elim
  | some r =>
    cases r' with
    | none => exact h.elim
    | some r' =>
      have h : r' % p = (r + m) % p := h
      have u : ∀ l : Int, Rn.upTo p r' (l + m) = Rn.upTo p r l + m := fun l => by
        unfold Rn.upTo
        rw [← mod_sub, h, mod_sub, show r + m - (l + m) = r - l by omega]
        omega
      have d : ∀ l : Int, Rn.downTo p r' (l + m) = Rn.downTo p r l + m := fun l => by
        unfold Rn.downTo
        rw [← sub_mod, h, sub_mod, show l + m - (r + m) = l - r by omega]
        omega
      cases x <;> cases y <;> simp [rnd, shP, sh, u, d]
theorem anyE_sh {f s g : OO} : anyE (shP a f, shP b s, shP m g) = anyE (f, s, g) := by simp only [anyE, emp_sh]
theorem step_sh {r1 r2 r3 q1 q2 q3 : Option Int} {x : Q3} (h1 : Mv p a r1 q1) (h2 : Mv p b r2 q2) (h3 : Mv p (b - a) r3 q3) :
    step p (q1, q2, q3) (shP a x.1, shP b x.2.1, shP (b - a) x.2.2) = (step p (r1, r2, r3) x).map fun y => (shP a y.1, shP b y.2.1, shP (b - a) y.2.2) := by
  unfold step rnd3
  dsimp only
  rw [rnd_sh h1, rnd_sh h2, rnd_sh h3, anyE_sh, closed_sh, anyE_sh]
  by_cases c : anyE (rnd p r1 x.1, rnd p r2 x.2.1, rnd p r3 x.2.2) = true
  · rw [if_pos c, if_pos c]
    rfl
  · rw [if_neg c, if_neg c]
    by_cases d : anyE (closed (rnd p r1 x.1) (rnd p r2 x.2.1) (rnd p r3 x.2.2)) = true
    · rw [if_pos d, if_pos d]
      rfl
    · rw [if_neg d, if_neg d]
      rfl
theorem gres_mv {r1 r2 q1 q2 : Option Int} (h1 : Mv p a r1 q1) (h2 : Mv p b r2 q2) : Mv p (b - a) (gres p r1 r2) (gres p q1 q2) := by
  cases r1 <;> cases q1 <;> cases r2 <;> cases q2 <;> try exact h1.elim
  all_goals try exact h2.elim
  all_goals try trivial
  rename_i x y z w
  have h1 : y % p = (x + a) % p := h1
  have h2 : w % p = (z + b) % p := h2
  show (w - y) % p % p = ((z - x) % p + (b - a)) % p
  rw [Int.emod_emod, Int.emod_add_emod, ← sub_mod, h1, sub_mod, ← mod_sub, h2, mod_sub]
  congr 1
  omega
theorem tight_sh {s t s' t' : Rn.Sp3} (h1 : Mv p a s.res s'.res) (h2 : Mv p b t.res t'.res) (l1 : s'.lo = sh a s.lo) (l2 : s'.hi = sh a s.hi) (l3 : t'.lo = sh b t.lo) (l4 : t'.hi = sh b t.hi) :
    tight p s' t' (shP (b - a) g) = (tight p s t g).map fun q => (⟨s'.res, sh a q.1.lo, sh a q.1.hi⟩, ⟨t'.res, sh b q.2.1.lo, sh b q.2.1.hi⟩, shP (b - a) q.2.2) := by
  have h3 := gres_mv h1 h2
  have e1 := step_sh (x := ((s.lo, s.hi), (t.lo, t.hi), g)) h1 h2 h3
  unfold tight
  rw [l1, l2, l3, l4]
  have e1 : step p (s'.res, t'.res, gres p s'.res t'.res) ((sh a s.lo, sh a s.hi), (sh b t.lo, sh b t.hi), shP (b - a) g) = _ := e1
  rw [e1]
  cases step p (s.res, t.res, gres p s.res t.res) ((s.lo, s.hi), (t.lo, t.hi), g) with
  | none => rfl
  | some y =>
    show Option.map _ (step p (s'.res, t'.res, gres p s'.res t'.res) (shP a y.1, shP b y.2.1, shP (b - a) y.2.2)) = _
    rw [step_sh (x := y) h1 h2 h3]
    show _ = Option.map _ (Option.map _ (step p (s.res, t.res, gres p s.res t.res) y))
    cases step p (s.res, t.res, gres p s.res t.res) y with
    | none => rfl
    | some w => rfl
theorem mv_self : Mv p 0 r r := by
  cases r with
  | none => trivial
  | some r => show r % p = (r + 0) % p; rw [Int.add_zero]
theorem mv_sh : Mv p m r (r.map fun r => (r + m) % p) := by
  cases r with
  | none => trivial
  | some r => show (r + m) % p % p = _; rw [Int.emod_emod]
theorem rndS_sh {s : Rn.Sp3} : rndS p (shS p m s) = shS p m (rndS p s) := by
  obtain ⟨r, l, h⟩ := s
  have e := rnd_sh (q := (l, h)) (mv_sh (p := p) (m := m) (r := r))
  unfold rndS shS
  dsimp only
  have e : rnd p (r.map fun r => (r + m) % p) (sh m l, sh m h) = _ := e
  rw [e]
  rfl
theorem empS_sh {s : Rn.Sp3} : empS (shS p m s) = empS s := emp_sh (q := (s.lo, s.hi))
end
/-- the normal zone moves along -/
theorem norm_moved {p m : Int} {z : Z} {i : Nat} (hz : z.ss.length ≤ 2) (hi : i < z.ss.length) : norm p (moved p z i m) = (norm p z).map fun y => moved p y i m := by
  obtain ⟨vs, ss, g⟩ := z
  match ss, hz, hi with
  | [s], _, hi =>
    have hi : i < 1 := hi
    obtain rfl : i = 0 := by omega
    show (if ([rndS p (shS p m s)].any empS) = true then none else some (⟨vs, [rndS p (shS p m s)], (none, none)⟩ : Z)) = Option.map _ (if ([rndS p s].any empS) = true then none else some (⟨vs, [rndS p s], (none, none)⟩ : Z))
    rw [rndS_sh]
    simp only [List.any_cons, List.any_nil, Bool.or_false, empS_sh]
    split
    · rfl
    · rfl
  | [s, t], _, hi =>
    have hi : i < 2 := hi
    by_cases c : i = 0
    · subst c
      have q := tight_sh (p := p) (a := m) (b := 0) (g := g) (s := s) (t := t) (s' := shS p m s) (t' := t) mv_sh mv_self rfl rfl (sh_zero _).symm (sh_zero _).symm
      rw [show (0 : Int) - m = -m by omega] at q
      show Option.map _ (tight p (shS p m s) t (shP (-m) g)) = Option.map _ (Option.map _ (tight p s t g))
      rw [q]
      cases e : tight p s t g with
      | none => rfl
      | some w =>
        have r1 : w.1.res = s.res ∧ w.2.1.res = t.res := by
          unfold tight at e
          obtain ⟨y, _, rfl⟩ := Option.map_eq_some_iff.mp e
          exact ⟨rfl, rfl⟩
        obtain ⟨⟨a1, a2, a3⟩, ⟨b1, b2, b3⟩, c⟩ := w
        obtain ⟨rfl, rfl⟩ := r1
        show some (⟨vs, [_, ⟨_, sh 0 b2, sh 0 b3⟩], _⟩ : Z) = _
        rw [sh_zero, sh_zero]
        rfl
    · obtain rfl : i = 1 := by omega
      have q := tight_sh (p := p) (a := 0) (b := m) (g := g) (s := s) (t := t) (s' := s) (t' := shS p m t) mv_self mv_sh (sh_zero _).symm (sh_zero _).symm rfl rfl
      rw [show m - (0 : Int) = m by omega] at q
      show Option.map _ (tight p s (shS p m t) (shP m g)) = Option.map _ (Option.map _ (tight p s t g))
      rw [q]
      cases e : tight p s t g with
      | none => rfl
      | some w =>
        have r1 : w.1.res = s.res ∧ w.2.1.res = t.res := by
          unfold tight at e
          obtain ⟨y, _, rfl⟩ := Option.map_eq_some_iff.mp e
          exact ⟨rfl, rfl⟩
        obtain ⟨⟨a1, a2, a3⟩, ⟨b1, b2, b3⟩, c⟩ := w
        obtain ⟨rfl, rfl⟩ := r1
        show some (⟨vs, [⟨_, sh 0 a2, sh 0 a3⟩, _], _⟩ : Z) = _
        rw [sh_zero, sh_zero]
        rfl
end Zn
end

section
set_option maxHeartbeats 4000000
/-! EwTight: the normal zone: same times, itself its normal zone, none just if there are no times. -/
namespace Zn
open EW (OO)
def Lw (o : Option Int) (x : Int) : Prop := ∀ i, o = some i → i ≤ x
def Up (o : Option Int) (x : Int) : Prop := ∀ i, o = some i → x ≤ i
def Bt (q : OO) (x : Int) : Prop := Lw q.1 x ∧ Up q.2 x
/-- of a remainder -/
def Cl (p : Int) (r : Option Int) (x : Int) : Prop := ∀ i, r = some i → x % p = i
def Res (p : Int) (r : Option Int) : Prop := ∀ i, r = some i → 0 ≤ i ∧ i < p
def M3 (p : Int) (r1 r2 : Option Int) (q : Q3) (x y : Int) : Prop := Cl p r1 x ∧ Cl p r2 y ∧ Bt q.1 x ∧ Bt q.2.1 y ∧ Bt q.2.2 (y - x)
abbrev clo (q : Q3) : Q3 := closed q.1 q.2.1 q.2.2
section
variable {p x y : Int} {a b o r r1 r2 : Option Int} {q f s g : OO}
theorem lw_none : Lw none x := fun _ h => nomatch h
theorem up_none : Up none x := fun _ h => nomatch h
theorem lw_some {i : Int} : Lw (some i) x ↔ i ≤ x := ⟨fun h => h i rfl, fun h j e => by cases e; exact h⟩
theorem up_some {i : Int} : Up (some i) x ↔ x ≤ i := ⟨fun h => h i rfl, fun h j e => by cases e; exact h⟩
theorem lw_grt : Lw (grt a b) x ↔ Lw a x ∧ Lw b x := by
  cases a <;> cases b <;> simp only [grt, lw_some, iff_true_intro lw_none, true_and, and_true]
  split <;> omega
theorem up_lst : Up (lst a b) x ↔ Up a x ∧ Up b x := by
  cases a <;> cases b <;> simp only [lst, up_some, iff_true_intro up_none, true_and, and_true]
  split <;> omega
theorem bt_rnd (hp : 0 < p) (hr : Res p r) (hx : Cl p r x) : Bt (rnd p r q) x ↔ Bt q x := by
  cases r with
  | none => exact Iff.rfl
  | some r =>
    obtain ⟨h0, h1⟩ := hr r rfl
    have hx := hx r rfl
    obtain ⟨l, h⟩ := q
    unfold Bt rnd
    refine and_congr ?_ ?_
    · cases l with
      | none => exact Iff.rfl
      | some l => exact lw_some.trans ((Rn.upTo_iff h0 h1 hx l).trans lw_some.symm)
    · cases h with
      | none => exact Iff.rfl
      | some h => exact up_some.trans ((Rn.downTo_iff h0 h1 hx h).trans up_some.symm)
theorem bt_emp (h : emp q = true) : ¬ Bt q x := by
  obtain ⟨l, h'⟩ := q
  rintro ⟨h1, h2⟩
  cases l with
  | none => cases h
  | some l =>
    cases h' with
    | none => cases h
    | some u =>
      have h := of_decide_eq_true h
      have := h1 l rfl
      have := h2 u rfl
      omega
theorem bt_closed : (Bt (closed f s g).1 x ∧ Bt (closed f s g).2.1 y ∧ Bt (closed f s g).2.2 (y - x)) ↔ (Bt f x ∧ Bt s y ∧ Bt g (y - x)) := by
  have hm : ∀ {a b : Option Int} {u v w : Int}, Lw a u → Up b v → w = u - v → Lw (mns a b) w := fun {a b u v w} h1 h2 e i hi => by
    cases a with
    | none => cases hi
    | some a =>
      cases b with
      | none => cases hi
      | some b =>
        have := h1 a rfl
        have := h2 b rfl
        cases hi
        omega
  have hm2 : ∀ {a b : Option Int} {u v w : Int}, Up a u → Lw b v → w = u - v → Up (mns a b) w := fun {a b u v w} h1 h2 e i hi => by
    cases a with
    | none => cases hi
    | some a =>
      cases b with
      | none => cases hi
      | some b =>
        have := h1 a rfl
        have := h2 b rfl
        cases hi
        omega
  have hq : ∀ {a b : Option Int} {u v w : Int}, Lw a u → Lw b v → w = u + v → Lw (pls a b) w := fun {a b u v w} h1 h2 e i hi => by
    cases a with
    | none => cases hi
    | some a =>
      cases b with
      | none => cases hi
      | some b =>
        have := h1 a rfl
        have := h2 b rfl
        cases hi
        omega
  have hq2 : ∀ {a b : Option Int} {u v w : Int}, Up a u → Up b v → w = u + v → Up (pls a b) w := fun {a b u v w} h1 h2 e i hi => by
    cases a with
    | none => cases hi
    | some a =>
      cases b with
      | none => cases hi
      | some b =>
        have := h1 a rfl
        have := h2 b rfl
        cases hi
        omega
  unfold closed Bt
  dsimp only
  simp only [lw_grt, up_lst]
  constructor
  · rintro ⟨⟨⟨h1, _⟩, h2, _⟩, ⟨⟨h3, _⟩, h4, _⟩, ⟨h5, _⟩, h6, _⟩
    exact ⟨⟨h1, h2⟩, ⟨h3, h4⟩, h5, h6⟩
  · rintro ⟨⟨h1, h2⟩, ⟨h3, h4⟩, h5, h6⟩
    exact ⟨⟨⟨h1, hm h3 h6 (by omega)⟩, h2, hm2 h4 h5 (by omega)⟩, ⟨⟨h3, hq h1 h5 (by omega)⟩, h4, hq2 h2 h6 (by omega)⟩, ⟨h5, hm h3 h2 (by omega)⟩, h6, hm2 h4 h1 (by omega)⟩
end
/-! ### the same times -/
theorem cl_gres {p x y : Int} {r1 r2 : Option Int} (h1 : Cl p r1 x) (h2 : Cl p r2 y) : Cl p (gres p r1 r2) (y - x) := by
  cases r1 with
  | none => exact fun _ h => nomatch h
  | some r1 =>
    cases r2 with
    | none => exact fun _ h => nomatch h
    | some r2 =>
      intro i hi
      cases hi
      have := h1 r1 rfl
      have := h2 r2 rfl
      subst_vars
      rw [Int.sub_emod]
theorem res_gres {p : Int} {r1 r2 : Option Int} (hp : 0 < p) : Res p (gres p r1 r2) := by
  cases r1 with
  | none => exact fun _ h => nomatch h
  | some r1 =>
    cases r2 with
    | none => exact fun _ h => nomatch h
    | some r2 =>
      intro i hi
      cases hi
      exact ⟨Int.emod_nonneg _ (by omega), Int.emod_lt_of_pos _ hp⟩
section
variable {p x y : Int} {r1 r2 : Option Int} {q q' : Q3}
theorem m3_rnd (hp : 0 < p) (h1 : Res p r1) (h2 : Res p r2) : M3 p r1 r2 (rnd3 p (r1, r2, gres p r1 r2) q) x y ↔ M3 p r1 r2 q x y := by
  unfold M3
  refine and_congr_right fun c1 => and_congr_right fun c2 => ?_
  exact and_congr (bt_rnd hp h1 c1) (and_congr (bt_rnd hp h2 c2) (bt_rnd hp (res_gres hp) (cl_gres c1 c2)))
theorem m3_clo : M3 p r1 r2 (clo q) x y ↔ M3 p r1 r2 q x y := by
  unfold M3
  exact and_congr_right fun c1 => and_congr_right fun c2 => bt_closed
theorem m3_any (h : anyE q = true) : ¬ M3 p r1 r2 q x y := by
  rintro ⟨_, _, h1, h2, h3⟩
  unfold anyE at h
  rcases Bool.or_eq_true_iff.mp h with h | h
  · rcases Bool.or_eq_true_iff.mp h with h | h
    · exact bt_emp h h1
    · exact bt_emp h h2
  · exact bt_emp h h3
theorem step_eq (p : Int) (r : Option Int × Option Int × Option Int) (q : Q3) : step p r q = if anyE (rnd3 p r q) = true then none else if anyE (clo (rnd3 p r q)) = true then none else some (clo (rnd3 p r q)) := rfl
theorem m3_step (hp : 0 < p) (h1 : Res p r1) (h2 : Res p r2) (h : step p (r1, r2, gres p r1 r2) q = some q') : M3 p r1 r2 q' x y ↔ M3 p r1 r2 q x y := by
  rw [step_eq] at h
  split at h
  · cases h
  · split at h
    · cases h
    · cases h
      exact m3_clo.trans (m3_rnd hp h1 h2)
theorem m3_none (hp : 0 < p) (h1 : Res p r1) (h2 : Res p r2) (h : step p (r1, r2, gres p r1 r2) q = none) : ¬ M3 p r1 r2 q x y := fun m => by
  rw [step_eq] at h
  have m1 := (m3_rnd hp h1 h2).mpr m
  split at h
  · next c => exact m3_any c m1
  · split at h
    · next c => exact m3_any c (m3_clo.mpr m1)
    · cases h
end
/-! ### closed again -/
theorem emp_of {a b c d : Option Int} (h : emp (grt a b, lst c d) = false) : emp (a, c) = false ∧ emp (a, d) = false ∧ emp (b, c) = false ∧ emp (b, d) = false := by
  cases a <;> cases b <;> cases c <;> cases d <;> simp only [grt, lst, emp, decide_eq_false_iff_not] at h ⊢ <;> (try (refine ⟨?_, ?_, ?_, ?_⟩)) <;> (try trivial) <;> (try omega)
theorem clo_clo {q : Q3} (h : anyE q = false) (h' : anyE (clo q) = false) : clo (clo q) = clo q := by
  obtain ⟨⟨f1, f2⟩, ⟨s1, s2⟩, g1, g2⟩ := q
  simp only [anyE, Bool.or_eq_false_iff] at h h'
  obtain ⟨⟨hf, hs⟩, hg⟩ := h
  obtain ⟨⟨hf', hs'⟩, hg'⟩ := h'
  simp only [clo, closed] at hf' hs' hg' ⊢
  obtain ⟨_, a1, a2, _⟩ := emp_of hf'
  obtain ⟨_, b1, b2, _⟩ := emp_of hs'
  clear hf' hs' hg'
  have e1 : grt (grt f1 (mns s1 g2)) (mns (grt s1 (pls f1 g1)) (lst g2 (mns s2 f1))) = grt f1 (mns s1 g2) := by
    clear a1 a2 b1 hf
    cases f1 <;> cases s1 <;> cases g2 <;> cases g1 <;> cases s2 <;> simp only [grt, lst, mns, pls, emp, Option.some.injEq, decide_eq_false_iff_not] at hs hg b2 ⊢ <;> (try rfl) <;> (try omega)
  have e2 : lst (lst f2 (mns s2 g1)) (mns (lst s2 (pls f2 g2)) (grt g1 (mns s1 f2))) = lst f2 (mns s2 g1) := by
    clear a1 a2 b2 hf e1
    cases f2 <;> cases s2 <;> cases g1 <;> cases g2 <;> cases s1 <;> simp only [grt, lst, mns, pls, emp, Option.some.injEq, decide_eq_false_iff_not] at hs hg b1 ⊢ <;> (try rfl) <;> (try omega)
  have e3 : grt (grt s1 (pls f1 g1)) (pls (grt f1 (mns s1 g2)) (grt g1 (mns s1 f2))) = grt s1 (pls f1 g1) := by
    clear a1 b1 b2 hs e1 e2
    cases f1 <;> cases s1 <;> cases g2 <;> cases g1 <;> cases f2 <;> simp only [grt, lst, mns, pls, emp, Option.some.injEq, decide_eq_false_iff_not] at hf hg a2 ⊢ <;> (try rfl) <;> (try omega)
  have e4 : lst (lst s2 (pls f2 g2)) (pls (lst f2 (mns s2 g1)) (lst g2 (mns s2 f1))) = lst s2 (pls f2 g2) := by
    clear a2 b1 b2 hs e1 e2 e3
    cases f2 <;> cases s2 <;> cases g1 <;> cases g2 <;> cases f1 <;> simp only [grt, lst, mns, pls, emp, Option.some.injEq, decide_eq_false_iff_not] at hf hg a1 ⊢ <;> (try rfl) <;> (try omega)
  have e5 : grt (grt g1 (mns s1 f2)) (mns (grt s1 (pls f1 g1)) (lst f2 (mns s2 g1))) = grt g1 (mns s1 f2) := by
    clear a1 a2 b1 hg e1 e2 e3 e4
    cases f2 <;> cases s2 <;> cases s1 <;> cases g1 <;> cases f1 <;> simp only [grt, lst, mns, pls, emp, Option.some.injEq, decide_eq_false_iff_not] at hf hs b2 ⊢ <;> (try rfl) <;> (try omega)
  have e6 : lst (lst g2 (mns s2 f1)) (mns (lst s2 (pls f2 g2)) (grt f1 (mns s1 g2))) = lst g2 (mns s2 f1) := by
    clear a1 a2 b2 hg e1 e2 e3 e4 e5
    cases f2 <;> cases s2 <;> cases s1 <;> cases g2 <;> cases f1 <;> simp only [grt, lst, mns, pls, emp, Option.some.injEq, decide_eq_false_iff_not] at hf hs b1 ⊢ <;> (try rfl) <;> (try omega)
  rw [e1, e2, e3, e4, e5, e6]
end Zn
end

section
set_option maxHeartbeats 4000000
/-! EwTight2: what two steps leave stands; times in it. -/
namespace Zn
open EW (OO)
/-- nothing is left to do -/
structure Stb (p : Int) (r : Option Int × Option Int × Option Int) (q : Q3) : Prop where
  e : anyE q = false
  r : rnd3 p r q = q
  c : clo q = q
theorem Stb.step {p : Int} {r : Option Int × Option Int × Option Int} {q : Q3} (h : Stb p r q) : step p r q = some q := by
  rw [step_eq, h.r, h.e, h.c, h.e]
  rfl
theorem step_some {p : Int} {r : Option Int × Option Int × Option Int} {q q' : Q3} (h : step p r q = some q') : anyE (rnd3 p r q) = false ∧ q' = clo (rnd3 p r q) ∧ anyE q' = false ∧ clo q' = q' := by
  rw [step_eq] at h
  split at h
  · cases h
  · next c =>
    have c := Bool.eq_false_iff.mpr c
    split at h
    · cases h
    · next c' =>
      have c' := Bool.eq_false_iff.mpr c'
      cases h
      exact ⟨c, rfl, c', clo_clo c c'⟩
/-- bounds of a remainder -/
def Ofc (p r : Int) (o : Option Int) : Prop := ∀ i, o = some i → i % p = r
section
variable {p r a b : Int} {o o' : Option Int} {q : OO}
theorem ofc_grt (h : Ofc p r o) (h' : Ofc p r o') : Ofc p r (grt o o') := by
  cases o with
  | none => exact h'
  | some u =>
    cases o' with
    | none => exact h
    | some v =>
      intro i hi
      cases hi
      split
      · exact h' _ rfl
      · exact h _ rfl
theorem ofc_lst (h : Ofc p r o) (h' : Ofc p r o') : Ofc p r (lst o o') := by
  cases o with
  | none => exact h'
  | some u =>
    cases o' with
    | none => exact h
    | some v =>
      intro i hi
      cases hi
      split
      · exact h' _ rfl
      · exact h _ rfl
theorem ofc_mns (h : Ofc p a o) (h' : Ofc p b o') : Ofc p ((a - b) % p) (mns o o') := by
  cases o with
  | none => exact fun _ z => nomatch z
  | some u =>
    cases o' with
    | none => exact fun _ z => nomatch z
    | some v =>
      intro i hi
      cases hi
      rw [← h u rfl, ← h' v rfl, ← Int.sub_emod]
theorem ofc_pls (h : Ofc p a o) (h' : Ofc p b o') : Ofc p ((a + b) % p) (pls o o') := by
  cases o with
  | none => exact fun _ z => nomatch z
  | some u =>
    cases o' with
    | none => exact fun _ z => nomatch z
    | some v =>
      intro i hi
      cases hi
      rw [← h u rfl, ← h' v rfl, ← Int.add_emod]
theorem upTo_self {i : Int} (h : i % p = r) : Rn.upTo p r i = i := by
  unfold Rn.upTo
  rw [← h, Int.sub_emod, Int.emod_emod, Int.sub_self, Int.zero_emod, Int.add_zero]
theorem downTo_self {i : Int} (h : i % p = r) : Rn.downTo p r i = i := by
  unfold Rn.downTo
  rw [← h, Int.sub_emod, Int.emod_emod, Int.sub_self, Int.zero_emod, Int.sub_zero]
theorem rnd_self (h : Ofc p r q.1) (h' : Ofc p r q.2) : rnd p (some r) q = q := by
  obtain ⟨u, v⟩ := q
  refine Prod.ext ?_ ?_
  · show u.map (Rn.upTo p r) = u
    cases u with
    | none => rfl
    | some u => exact congrArg some (upTo_self (h u rfl))
  · show v.map (Rn.downTo p r) = v
    cases v with
    | none => rfl
    | some v => exact congrArg some (downTo_self (h' v rfl))
theorem ofc_rnd (h0 : 0 ≤ r) (h1 : r < p) : Ofc p r (rnd p (some r) q).1 ∧ Ofc p r (rnd p (some r) q).2 := by
  obtain ⟨u, v⟩ := q
  refine ⟨fun i hi => ?_, fun i hi => ?_⟩
  · obtain ⟨x, _, rfl⟩ := Option.map_eq_some_iff.mp hi
    exact Rn.upTo_mod h0 h1 x
  · obtain ⟨x, _, rfl⟩ := Option.map_eq_some_iff.mp hi
    exact Rn.downTo_mod h0 h1 x
end
/-- a rounded lower bound stays the greater one, a rounded upper bound the lesser one -/
theorem grt_keep {p r : Int} (hp : 0 < p) {o m : Option Int} (h : grt o m = o) : grt (o.map (Rn.upTo p r)) m = o.map (Rn.upTo p r) := by
  cases o with
  | none => exact h
  | some o =>
    cases m with
    | none => rfl
    | some m =>
      have e := Option.some.inj h
      have := (Rn.upTo_le (p := p) (r := r) hp o).1
      show some (if m > Rn.upTo p r o then m else Rn.upTo p r o) = some _
      have : m ≤ o := by
        split at e <;> omega
      rw [if_neg (by omega)]
theorem lst_keep {p r : Int} (hp : 0 < p) {o m : Option Int} (h : lst o m = o) : lst (o.map (Rn.downTo p r)) m = o.map (Rn.downTo p r) := by
  cases o with
  | none => exact h
  | some o =>
    cases m with
    | none => rfl
    | some m =>
      have e := Option.some.inj h
      have := (Rn.downTo_le (p := p) (r := r) hp o).1
      show some (if m < Rn.downTo p r o then m else Rn.downTo p r o) = some _
      have : o ≤ m := by
        split at e <;> omega
      rw [if_neg (by omega)]
theorem two_steps {p : Int} {r1 r2 : Option Int} {q q' : Q3} (hp : 0 < p) (h1 : Res p r1) (h2 : Res p r2) (h : (step p (r1, r2, gres p r1 r2) q).bind (step p (r1, r2, gres p r1 r2)) = some q') : Stb p (r1, r2, gres p r1 r2) q' := by
  obtain ⟨q1, e1, e2⟩ := Option.bind_eq_some_iff.mp h
  obtain ⟨a1, a2, a3, a4⟩ := step_some e1
  obtain ⟨b1, b2, b3, b4⟩ := step_some e2
  refine ⟨b3, ?_, b4⟩
  cases r1 with
  | none =>
    cases r2 with
    | none => rfl
    | some r2 =>
      obtain ⟨l, u⟩ := h2 r2 rfl
      show (q'.1, rnd p (some r2) q'.2.1, q'.2.2) = q'
      have k : q'.2.1 = rnd p (some r2) q1.2.1 := by
        rw [b2]
        have c1 : grt q1.2.1.1 (pls q1.1.1 q1.2.2.1) = q1.2.1.1 := congrArg (fun z : Q3 => z.2.1.1) a4
        have c2 : lst q1.2.1.2 (pls q1.1.2 q1.2.2.2) = q1.2.1.2 := congrArg (fun z : Q3 => z.2.1.2) a4
        show (grt (q1.2.1.1.map _) (pls q1.1.1 q1.2.2.1), lst (q1.2.1.2.map _) (pls q1.1.2 q1.2.2.2)) = _
        rw [grt_keep hp c1, lst_keep hp c2]
        rfl
      obtain ⟨o1, o2⟩ := ofc_rnd (q := q1.2.1) l u
      rw [← k] at o1 o2
      rw [rnd_self o1 o2]
  | some r1 =>
    obtain ⟨l, u⟩ := h1 r1 rfl
    cases r2 with
    | none =>
      show (rnd p (some r1) q'.1, q'.2.1, q'.2.2) = q'
      have k : q'.1 = rnd p (some r1) q1.1 := by
        rw [b2]
        have c1 : grt q1.1.1 (mns q1.2.1.1 q1.2.2.2) = q1.1.1 := congrArg (fun z : Q3 => z.1.1) a4
        have c2 : lst q1.1.2 (mns q1.2.1.2 q1.2.2.1) = q1.1.2 := congrArg (fun z : Q3 => z.1.2) a4
        show (grt (q1.1.1.map _) (mns q1.2.1.1 q1.2.2.2), lst (q1.1.2.map _) (mns q1.2.1.2 q1.2.2.1)) = _
        rw [grt_keep hp c1, lst_keep hp c2]
        rfl
      obtain ⟨o1, o2⟩ := ofc_rnd (q := q1.1) l u
      rw [← k] at o1 o2
      rw [rnd_self o1 o2]
    | some r2 =>
      obtain ⟨l2, u2⟩ := h2 r2 rfl
      have l3 : 0 ≤ (r2 - r1) % p := Int.emod_nonneg _ (by omega)
      have u3 : (r2 - r1) % p < p := Int.emod_lt_of_pos _ hp
      have m1 : (r2 - (r2 - r1) % p) % p = r1 := by
        rw [Int.sub_emod, Int.emod_emod, ← Int.sub_emod, show r2 - (r2 - r1) = r1 by omega, Int.emod_eq_of_lt l u]
      have m2 : (r1 + (r2 - r1) % p) % p = r2 := by
        rw [Int.add_emod, Int.emod_emod, ← Int.add_emod, show r1 + (r2 - r1) = r2 by omega, Int.emod_eq_of_lt l2 u2]
      have fix : ∀ z : Q3, rnd3 p (some r1, some r2, some ((r2 - r1) % p)) (clo (rnd3 p (some r1, some r2, some ((r2 - r1) % p)) z)) = clo (rnd3 p (some r1, some r2, some ((r2 - r1) % p)) z) := fun z => by
        obtain ⟨f, s, g⟩ := z
        obtain ⟨f1, f2⟩ := ofc_rnd (q := f) l u
        obtain ⟨s1, s2⟩ := ofc_rnd (q := s) l2 u2
        obtain ⟨g1, g2⟩ := ofc_rnd (q := g) l3 u3
        show (rnd p (some r1) _, rnd p (some r2) _, rnd p (some ((r2 - r1) % p)) _) = _
        have i1 := ofc_mns s1 g2
        have i2 := ofc_mns s2 g1
        have i3 := ofc_pls f1 g1
        have i4 := ofc_pls f2 g2
        have i5 := ofc_mns s1 f2
        have i6 := ofc_mns s2 f1
        rw [m1] at i1 i2
        rw [m2] at i3 i4
        rw [rnd_self (ofc_grt f1 i1) (ofc_lst f2 i2), rnd_self (ofc_grt s1 i3) (ofc_lst s2 i4), rnd_self (ofc_grt g1 i5) (ofc_lst g2 i6)]
      rw [b2]
      exact fix q1
end Zn
end

section
set_option maxHeartbeats 4000000
/-! EwTight3: times of a normal zone; times near the known bounds. -/
namespace Zn
open EW (OO)
section
variable {p : Int} {r : Option Int} {q : OO}
theorem ofc_self {r0 : Int} (h0 : 0 ≤ r0) (h1 : r0 < p) (h : rnd p (some r0) q = q) : Ofc p r0 q.1 ∧ Ofc p r0 q.2 := by
  have := ofc_rnd (q := q) h0 h1
  rwa [h] at this
theorem pick {L U : Option Int} (he : emp (L, U) = false) (hr : Res p r) (hc : ∀ r0, r = some r0 → Ofc p r0 L ∧ Ofc p r0 U) : ∃ t, Lw L t ∧ Up U t ∧ Cl p r t := by
  cases L with
  | some a =>
    refine ⟨a, lw_some.mpr (Int.le_refl _), fun i hi => ?_, fun i hi => (hc i hi).1 a rfl⟩
    cases hi
    simp only [emp, decide_eq_false_iff_not] at he
    omega
  | none =>
    cases U with
    | some b => exact ⟨b, lw_none, up_some.mpr (Int.le_refl _), fun i hi => (hc i hi).2 b rfl⟩
    | none =>
      cases r with
      | none => exact ⟨0, lw_none, up_none, fun _ h => nomatch h⟩
      | some r =>
        obtain ⟨h0, h1⟩ := hr r rfl
        refine ⟨r, lw_none, up_none, fun i hi => ?_⟩
        cases hi
        exact Int.emod_eq_of_lt h0 h1
theorem first_of (he : emp q = false) (hr : Res p r) (hc : rnd p r q = q) : ∃ x, Bt q x ∧ Cl p r x ∧ (q.1 = some x ∨ (q.1 = none ∧ q.2 = some x) ∨ (q.1 = none ∧ q.2 = none)) := by
  obtain ⟨l, u⟩ := q
  have hc' : ∀ r0, r = some r0 → Ofc p r0 l ∧ Ofc p r0 u := fun r0 e => by
    subst e
    obtain ⟨h0, h1⟩ := hr r0 rfl
    exact ofc_self (q := (l, u)) h0 h1 hc
  cases l with
  | some a =>
    refine ⟨a, ⟨lw_some.mpr (Int.le_refl _), fun i hi => ?_⟩, fun i hi => (hc' i hi).1 a rfl, .inl rfl⟩
    have hi : u = some i := hi
    subst hi
    simp only [emp, decide_eq_false_iff_not] at he
    omega
  | none =>
    cases u with
    | some b => exact ⟨b, ⟨lw_none, up_some.mpr (Int.le_refl _)⟩, fun i hi => (hc' i hi).2 b rfl, .inr (.inl ⟨rfl, rfl⟩)⟩
    | none =>
      obtain ⟨t, _, _, h⟩ := pick (p := p) (L := none) (U := none) rfl hr hc'
      exact ⟨t, ⟨lw_none, up_none⟩, h, .inr (.inr ⟨rfl, rfl⟩)⟩
end
theorem lw_pls {x y : Int} {o : Option Int} : Lw (pls (some x) o) y ↔ Lw o (y - x) := by
  cases o with
  | none => exact iff_of_true lw_none lw_none
  | some o =>
    show Lw (some (x + o)) y ↔ _
    rw [lw_some, lw_some]
    omega
theorem up_pls {x y : Int} {o : Option Int} : Up (pls (some x) o) y ↔ Up o (y - x) := by
  cases o with
  | none => exact iff_of_true up_none up_none
  | some o =>
    show Up (some (x + o)) y ↔ _
    rw [up_some, up_some]
    omega
theorem lw_mns {x y : Int} {o : Option Int} : Lw (mns (some y) o) x ↔ Up o (y - x) := by
  cases o with
  | none => exact iff_of_true lw_none up_none
  | some o =>
    show Lw (some (y - o)) x ↔ _
    rw [lw_some, up_some]
    omega
theorem up_mns {x y : Int} {o : Option Int} : Up (mns (some y) o) x ↔ Lw o (y - x) := by
  cases o with
  | none => exact iff_of_true up_none lw_none
  | some o =>
    show Up (some (y - o)) x ↔ _
    rw [up_some, lw_some]
    omega
theorem ofc_some {p x r : Int} (h : x % p = r) : Ofc p r (some x) := fun i hi => by
  cases hi
  exact h
theorem stb_has {p : Int} {r1 r2 : Option Int} {q : Q3} (hp : 0 < p) (h1 : Res p r1) (h2 : Res p r2) (h : Stb p (r1, r2, gres p r1 r2) q) : ∃ x y, M3 p r1 r2 q x y := by
  obtain ⟨⟨f1, f2⟩, ⟨s1, s2⟩, g1, g2⟩ := q
  obtain ⟨he, hr, hc⟩ := h
  simp only [anyE, Bool.or_eq_false_iff] at he
  obtain ⟨⟨ef, es⟩, eg⟩ := he
  have rf : rnd p r1 (f1, f2) = (f1, f2) := congrArg (fun z : Q3 => z.1) hr
  have rs : rnd p r2 (s1, s2) = (s1, s2) := congrArg (fun z : Q3 => z.2.1) hr
  have rg : rnd p (gres p r1 r2) (g1, g2) = (g1, g2) := congrArg (fun z : Q3 => z.2.2) hr
  have c1 : grt f1 (mns s1 g2) = f1 := congrArg (fun z : Q3 => z.1.1) hc
  have c2 : lst f2 (mns s2 g1) = f2 := congrArg (fun z : Q3 => z.1.2) hc
  have c3 : grt s1 (pls f1 g1) = s1 := congrArg (fun z : Q3 => z.2.1.1) hc
  have c4 : lst s2 (pls f2 g2) = s2 := congrArg (fun z : Q3 => z.2.1.2) hc
  clear hc hr
  by_cases w : r1 = none ∧ r2 ≠ none
  · -- the second one first
    obtain ⟨w1, w2⟩ := w
    subst w1
    obtain ⟨y, by1, cy, yy⟩ := first_of es h2 rs
    have le : emp (grt f1 (mns (some y) g2), lst f2 (mns (some y) g1)) = false := by
      clear by1 cy rs rf rg h2
      rcases yy with yy | ⟨y1, y2⟩ | ⟨y1, y2⟩
      · simp only at yy
        subst yy
        cases f1 <;> cases f2 <;> cases g1 <;> cases g2 <;> cases s2 <;> simp [grt, lst, mns, pls, emp] at * <;> omega
      · simp only at y1 y2
        subst y1
        subst y2
        cases f1 <;> cases f2 <;> cases g1 <;> cases g2 <;> simp [grt, lst, mns, pls, emp] at * <;> omega
      · simp only at y1 y2
        subst y1
        subst y2
        cases f1 <;> cases f2 <;> cases g1 <;> cases g2 <;> simp [grt, lst, mns, pls, emp] at * <;> omega
    obtain ⟨x, lx, ux, cx⟩ := pick (p := p) (r := none) le (fun _ z => nomatch z) (fun _ z => nomatch z)
    rw [lw_grt, lw_mns] at lx
    rw [up_lst, up_mns] at ux
    exact ⟨x, y, cx, cy, ⟨lx.1, ux.1⟩, by1, ux.2, lx.2⟩
  · obtain ⟨x, bx, cx, xx⟩ := first_of ef h1 rf
    have le : emp (grt s1 (pls (some x) g1), lst s2 (pls (some x) g2)) = false := by
      clear bx cx rs rf rg h2 h1 w
      rcases xx with xx | ⟨y1, y2⟩ | ⟨y1, y2⟩
      · simp only at xx
        subst xx
        cases s1 <;> cases f2 <;> cases g1 <;> cases g2 <;> cases s2 <;> simp [grt, lst, mns, pls, emp] at * <;> omega
      · simp only at y1 y2
        subst y1
        subst y2
        cases s1 <;> cases s2 <;> cases g1 <;> cases g2 <;> simp [grt, lst, mns, pls, emp] at * <;> omega
      · simp only at y1 y2
        subst y1
        subst y2
        cases s1 <;> cases s2 <;> cases g1 <;> cases g2 <;> simp [grt, lst, mns, pls, emp] at * <;> omega
    obtain ⟨y, ly, uy, cy⟩ := pick (p := p) (r := r2) le h2 (fun r0 e => by
      subst e
      obtain ⟨l2, u2⟩ := h2 r0 rfl
      cases r1 with
      | none => exact absurd ⟨rfl, by simp⟩ w
      | some r1 =>
        obtain ⟨l1, u1⟩ := h1 r1 rfl
        obtain ⟨o1, o2⟩ := ofc_self l2 u2 rs
        obtain ⟨o3, o4⟩ := ofc_self (Int.emod_nonneg _ (by omega)) (Int.emod_lt_of_pos _ hp) rg
        have ox := ofc_some (cx r1 rfl)
        have m2 : (r1 + (r0 - r1) % p) % p = r0 := by
          rw [Int.add_emod, Int.emod_emod, ← Int.add_emod, show r1 + (r0 - r1) = r0 by omega, Int.emod_eq_of_lt l2 u2]
        have i3 := ofc_pls ox o3
        have i4 := ofc_pls ox o4
        rw [m2] at i3 i4
        exact ⟨ofc_grt o1 i3, ofc_lst o2 i4⟩)
    rw [lw_grt, lw_pls] at ly
    rw [up_lst, up_pls] at uy
    exact ⟨x, y, cx, cy, bx, ⟨ly.1, uy.1⟩, ly.2, uy.2⟩
/-- the times of a zone -/
def InT (p : Int) (z : Z) (ts : List Int) : Prop := match z.ss, ts with
  | [s, t], [x, y] => M3 p s.res t.res ((s.lo, s.hi), (t.lo, t.hi), z.g) x y
  | [s], [x] => Cl p s.res x ∧ Bt (s.lo, s.hi) x
  | [], [] => True
  | _, _ => False
theorem in_two {p : Int} {vs : List PySem.Str} {s t : Rn.Sp3} {g : OO} {ts : List Int} : InT p ⟨vs, [s, t], g⟩ ts ↔ ∃ x y, ts = [x, y] ∧ M3 p s.res t.res ((s.lo, s.hi), (t.lo, t.hi), g) x y := by
  match ts with
  | [x, y] => exact ⟨fun h => ⟨x, y, rfl, h⟩, fun ⟨_, _, e, h⟩ => by cases e; exact h⟩
  | [] => exact ⟨False.elim, fun ⟨_, _, e, _⟩ => nomatch e⟩
  | [_] => exact ⟨False.elim, fun ⟨_, _, e, _⟩ => nomatch e⟩
  | _ :: _ :: _ :: _ => exact ⟨False.elim, fun ⟨_, _, e, _⟩ => nomatch e⟩
theorem in_one {p : Int} {vs : List PySem.Str} {s : Rn.Sp3} {g : OO} {ts : List Int} : InT p ⟨vs, [s], g⟩ ts ↔ ∃ x, ts = [x] ∧ Cl p s.res x ∧ Bt (s.lo, s.hi) x := by
  match ts with
  | [x] => exact ⟨fun h => ⟨x, rfl, h⟩, fun ⟨_, e, h⟩ => by cases e; exact h⟩
  | [] => exact ⟨False.elim, fun ⟨_, e, _⟩ => nomatch e⟩
  | _ :: _ :: _ => exact ⟨False.elim, fun ⟨_, e, _⟩ => nomatch e⟩
/-- all that is wanted of the normal zone -/
structure IsNorm (p : Int) (z y : Z) : Prop where
  vs : y.vs = z.vs
  res : y.ss.map (·.res) = z.ss.map (·.res)
  rows : ∀ ts, InT p y ts ↔ InT p z ts
  self : norm p y = some y
  some : ∃ ts, InT p z ts
theorem norm_spec {p : Int} {z : Z} (hp : 0 < p) (h2 : z.ss.length ≤ 2) (hr : ∀ s ∈ z.ss, Res p s.res) : (norm p z = none → ∀ ts, ¬ InT p z ts) ∧ ∀ y, norm p z = some y → IsNorm p z y := by
  obtain ⟨vs, ss, g⟩ := z
  match ss, h2, hr with
  | [], _, _ =>
    refine ⟨fun h => (by cases h), fun y hy => ?_⟩
    cases hy
    exact ⟨rfl, rfl, fun ts => (by cases ts <;> exact Iff.rfl), rfl, [], True.intro⟩
  | [s], _, hr =>
    have hs := hr s (List.mem_singleton.mpr rfl)
    have e : norm p ⟨vs, [s], g⟩ = if (empS (rndS p s) || false) = true then none else some ⟨vs, [rndS p s], (none, none)⟩ := rfl
    have hi : ∀ {ts}, InT p ⟨vs, [rndS p s], (none, none)⟩ ts ↔ InT p ⟨vs, [s], g⟩ ts := fun {ts} => by
      rw [in_one, in_one]
      refine exists_congr fun x => and_congr_right fun _ => and_congr_right fun c => ?_
      exact bt_rnd hp hs c
    cases c : empS (rndS p s) with
    | true =>
      rw [c] at e
      refine ⟨fun _ ts h => ?_, fun y hy => by rw [e] at hy; cases hy⟩
      obtain ⟨x, _, _, hx⟩ := in_one.mp (hi.mpr h)
      exact bt_emp c hx
    | false =>
      rw [c] at e
      refine ⟨fun h => (by rw [e] at h; cases h), fun y hy => ?_⟩
      rw [e] at hy
      cases hy
      have rr : rnd p s.res (rnd p s.res (s.lo, s.hi)) = rnd p s.res (s.lo, s.hi) := by
        cases q : s.res with
        | none => rfl
        | some r =>
          obtain ⟨h0, h1⟩ := hs r q
          obtain ⟨o1, o2⟩ := ofc_rnd (q := (s.lo, s.hi)) h0 h1
          exact rnd_self o1 o2
      have rs : rndS p (rndS p s) = rndS p s := by
        show (⟨s.res, (rnd p s.res (rnd p s.res (s.lo, s.hi))).1, (rnd p s.res (rnd p s.res (s.lo, s.hi))).2⟩ : Rn.Sp3) = _
        rw [rr]
        rfl
      refine ⟨rfl, rfl, fun ts => hi, ?_, ?_⟩
      · show (if (empS (rndS p (rndS p s)) || false) = true then none else some (⟨vs, [rndS p (rndS p s)], (none, none)⟩ : Z)) = _
        rw [rs, c]
        rfl
      · obtain ⟨x, bx, cx, _⟩ := first_of (p := p) (r := s.res) (q := rnd p s.res (s.lo, s.hi)) c hs rr
        exact ⟨[x], hi.mp (in_one.mpr ⟨x, rfl, cx, bx⟩)⟩
  | [s, t], _, hr =>
    have hs := hr s (by simp)
    have ht := hr t (by simp)
    have e : norm p ⟨vs, [s, t], g⟩ = (((step p (s.res, t.res, gres p s.res t.res) ((s.lo, s.hi), (t.lo, t.hi), g)).bind (step p (s.res, t.res, gres p s.res t.res))).map fun q => ((⟨s.res, q.1.1, q.1.2⟩, ⟨t.res, q.2.1.1, q.2.1.2⟩, q.2.2) : Rn.Sp3 × Rn.Sp3 × OO)).map fun q => (⟨vs, [q.1, q.2.1], q.2.2⟩ : Z) := rfl
    cases e1 : step p (s.res, t.res, gres p s.res t.res) ((s.lo, s.hi), (t.lo, t.hi), g) with
    | none =>
      rw [e1] at e
      refine ⟨fun _ ts h => ?_, fun y hy => by rw [e] at hy; cases hy⟩
      obtain ⟨x, y, _, m⟩ := in_two.mp h
      exact m3_none hp hs ht e1 m
    | some q1 =>
      cases e2 : step p (s.res, t.res, gres p s.res t.res) q1 with
      | none =>
        rw [e1, Option.bind_some, e2] at e
        refine ⟨fun _ ts h => ?_, fun y hy => by rw [e] at hy; cases hy⟩
        obtain ⟨x, y, _, m⟩ := in_two.mp h
        exact m3_none hp hs ht e2 ((m3_step hp hs ht e1).mpr m)
      | some q2 =>
        rw [e1, Option.bind_some, e2] at e
        refine ⟨fun h => (by rw [e] at h; cases h), fun y hy => ?_⟩
        rw [e] at hy
        cases hy
        have st := two_steps hp hs ht (by rw [e1, Option.bind_some, e2])
        have hi : ∀ {ts}, InT p ⟨vs, [⟨s.res, q2.1.1, q2.1.2⟩, ⟨t.res, q2.2.1.1, q2.2.1.2⟩], q2.2.2⟩ ts ↔ InT p ⟨vs, [s, t], g⟩ ts := fun {ts} => by
          rw [in_two, in_two]
          refine exists_congr fun x => exists_congr fun y => and_congr_right fun _ => ?_
          exact (m3_step hp hs ht e2).trans (m3_step hp hs ht e1)
        refine ⟨rfl, rfl, fun ts => hi, ?_, ?_⟩
        · show ((((step p (s.res, t.res, gres p s.res t.res) q2).bind (step p (s.res, t.res, gres p s.res t.res))).map _).map _) = _
          rw [st.step, Option.bind_some, st.step]
          rfl
        · obtain ⟨x, y, m⟩ := stb_has hp hs ht st
          exact ⟨[x, y], hi.mp (in_two.mpr ⟨x, y, rfl, m⟩)⟩
end Zn
end

section
set_option maxHeartbeats 4000000
/-! EwNear: a zone with times has one near a known bound. -/
namespace Zn
open EW (OO)
def bnds (q : OO) : List Int := q.1.toList ++ q.2.toList
theorem lo_bnds {q : OO} {i : Int} (h : q.1 = some i) : i ∈ bnds q := by
  unfold bnds
  rw [h]
  simp
theorem hi_bnds {q : OO} {i : Int} (h : q.2 = some i) : i ∈ bnds q := by
  unfold bnds
  rw [h]
  simp
/-- the bounds that are known of a zone -/
def known (z : Z) : List Int := 0 :: ((z.ss.map fun s => bnds (s.lo, s.hi)).flatten ++ match z.ss with
  | [s, t] => (bnds z.g).flatMap fun u => (bnds (s.lo, s.hi)).map (fun b => u + b) ++ (bnds (t.lo, t.hi)).map fun b => b - u
  | _ => [])
theorem near1 {p : Int} (hp : 0 < p) {L U : Option Int} {x : Int} (hl : Lw L x) (hu : Up U x) :
    ∃ x', x' % p = x % p ∧ Lw L x' ∧ Up U x' ∧ ((∃ a, L = some a ∧ a ≤ x' ∧ x' < a + p) ∨ (∃ b, U = some b ∧ b - p < x' ∧ x' ≤ b) ∨ (0 ≤ x' ∧ x' < p)) := by
  have h0 : 0 ≤ x % p := Int.emod_nonneg _ (by omega)
  have h1 : x % p < p := Int.emod_lt_of_pos _ hp
  cases L with
  | some a =>
    have q := Rn.upTo_le (p := p) (r := x % p) hp a
    have w := (Rn.upTo_iff h0 h1 rfl a).mpr (hl a rfl)
    refine ⟨Rn.upTo p (x % p) a, Rn.upTo_mod h0 h1 a, lw_some.mpr q.1, fun i hi => ?_, .inl ⟨a, rfl, q.1, q.2⟩⟩
    have := hu i hi
    omega
  | none =>
    cases U with
    | some b =>
      have q := Rn.downTo_le (p := p) (r := x % p) hp b
      exact ⟨Rn.downTo p (x % p) b, Rn.downTo_mod h0 h1 b, lw_none, up_some.mpr q.1, .inr (.inl ⟨b, rfl, q.2, q.1⟩)⟩
    | none => exact ⟨x % p, Int.emod_emod _ _, lw_none, up_none, .inr (.inr ⟨h0, h1⟩)⟩
theorem grt_or {a b : Option Int} {c : Int} (h : grt a b = some c) : a = some c ∨ b = some c := by
  cases a with
  | none => exact .inr h
  | some a =>
    cases b with
    | none => exact .inl h
    | some b =>
      have h := Option.some.inj h
      split at h
      · exact .inr (congrArg some h)
      · exact .inl (congrArg some h)
theorem lst_or {a b : Option Int} {c : Int} (h : lst a b = some c) : a = some c ∨ b = some c := by
  cases a with
  | none => exact .inr h
  | some a =>
    cases b with
    | none => exact .inl h
    | some b =>
      have h := Option.some.inj h
      split at h
      · exact .inr (congrArg some h)
      · exact .inl (congrArg some h)
theorem cl_shift {p x x' y : Int} {r : Option Int} (h : Cl p r y) (e : x' % p = x % p) : Cl p r (y + (x' - x)) := fun i hi => by
  rw [← h i hi]
  have e2 : (x' - x) % p = 0 := by rw [Int.sub_emod, e, Int.sub_self, Int.zero_emod]
  rw [Int.add_emod, e2, Int.add_zero, Int.emod_emod]
theorem mns_some {a b : Option Int} {c : Int} (h : mns a b = some c) : ∃ u v, a = some u ∧ b = some v ∧ c = u - v := by
  cases a with
  | none => cases h
  | some a =>
    cases b with
    | none => cases h
    | some b => exact ⟨a, b, rfl, rfl, (Option.some.inj h).symm⟩
/-- with the second time near a bound, the first one can be had near a known bound -/
theorem near2 {p : Int} (hp : 0 < p) {r1 r2 : Option Int} {f s g : OO} {x y b : Int} (m : M3 p r1 r2 (f, s, g) x y) (hb : b ∈ bnds s) (y1 : b - p < y) (y2 : y < b + p) :
    ∃ x', M3 p r1 r2 (f, s, g) x' y ∧ ((∃ k ∈ bnds f, k - 2 * p ≤ x' ∧ x' ≤ k + 2 * p) ∨ (∃ u ∈ bnds g, (b - u) - 2 * p ≤ x' ∧ x' ≤ (b - u) + 2 * p) ∨ (0 ≤ x' ∧ x' < p)) := by
  obtain ⟨c1, c2, ⟨f1, f2⟩, hs, g1, g2⟩ := m
  obtain ⟨x', e, lx, ux, near⟩ := near1 hp (x := x) (L := grt f.1 (mns (some y) g.2)) (U := lst f.2 (mns (some y) g.1)) (lw_grt.mpr ⟨f1, lw_mns.mpr g2⟩) (up_lst.mpr ⟨f2, up_mns.mpr g1⟩)
  rw [lw_grt, lw_mns] at lx
  rw [up_lst, up_mns] at ux
  refine ⟨x', ⟨fun i hi => by rw [e]; exact c1 i hi, c2, ⟨lx.1, ux.1⟩, hs, ux.2, lx.2⟩, ?_⟩
  rcases near with ⟨a, h, n1, n2⟩ | ⟨a, h, n1, n2⟩ | h
  · rcases grt_or h with h | h
    · exact .inl ⟨a, lo_bnds h, by omega, by omega⟩
    · obtain ⟨u, v, hu, hv, rfl⟩ := mns_some h
      cases hu
      exact .inr (.inl ⟨v, hi_bnds hv, by omega, by omega⟩)
  · rcases lst_or h with h | h
    · exact .inl ⟨a, hi_bnds h, by omega, by omega⟩
    · obtain ⟨u, v, hu, hv, rfl⟩ := mns_some h
      cases hu
      exact .inr (.inl ⟨v, lo_bnds hv, by omega, by omega⟩)
  · exact .inr (.inr h)
theorem near3 {p : Int} (hp : 0 < p) {r1 r2 : Option Int} {f s g : OO} {x y : Int} (m : M3 p r1 r2 (f, s, g) x y) :
    ∃ x' y', M3 p r1 r2 (f, s, g) x' y' ∧ ((∃ k ∈ bnds f, k - 2 * p ≤ x' ∧ x' ≤ k + 2 * p) ∨ (∃ b ∈ bnds s, ∃ u ∈ bnds g, (b - u) - 2 * p ≤ x' ∧ x' ≤ (b - u) + 2 * p) ∨ (0 ≤ x' ∧ x' < p)) := by
  obtain ⟨c1, c2, ⟨f1, f2⟩, ⟨s1, s2⟩, hg⟩ := m
  have q1 : Lw (mns s.1 (some (y - x))) x := fun i hi => by
    obtain ⟨u, v, hu, hv, rfl⟩ := mns_some hi
    cases hv
    have := s1 u hu
    omega
  have q2 : Up (mns s.2 (some (y - x))) x := fun i hi => by
    obtain ⟨u, v, hu, hv, rfl⟩ := mns_some hi
    cases hv
    have := s2 u hu
    omega
  obtain ⟨x', e, lx, ux, near⟩ := near1 hp (x := x) (L := grt f.1 (mns s.1 (some (y - x)))) (U := lst f.2 (mns s.2 (some (y - x)))) (lw_grt.mpr ⟨f1, q1⟩) (up_lst.mpr ⟨f2, q2⟩)
  · rw [lw_grt] at lx
    rw [up_lst] at ux
    have m' : M3 p r1 r2 (f, s, g) x' (x' + (y - x)) := by
      refine ⟨fun i hi => by rw [e]; exact c1 i hi, by have := cl_shift c2 e; rwa [show y + (x' - x) = x' + (y - x) by omega] at this, ⟨lx.1, ux.1⟩, ⟨fun i hi => ?_, fun i hi => ?_⟩, by rwa [show x' + (y - x) - x' = y - x by omega]⟩
      · have hi : s.1 = some i := hi
        have := lx.2 (i - (y - x)) (by rw [hi]; rfl)
        omega
      · have hi : s.2 = some i := hi
        have := ux.2 (i - (y - x)) (by rw [hi]; rfl)
        omega
    have go : ∀ {b : Int}, b ∈ bnds s → b - p < x' + (y - x) → x' + (y - x) < b + p → ∃ x' y', M3 p r1 r2 (f, s, g) x' y' ∧ ((∃ k ∈ bnds f, k - 2 * p ≤ x' ∧ x' ≤ k + 2 * p) ∨ (∃ b ∈ bnds s, ∃ u ∈ bnds g, (b - u) - 2 * p ≤ x' ∧ x' ≤ (b - u) + 2 * p) ∨ (0 ≤ x' ∧ x' < p)) := fun {b} hb n1 n2 => by
      obtain ⟨x2, m2, h⟩ := near2 hp m' hb n1 n2
      refine ⟨x2, _, m2, ?_⟩
      rcases h with h | h | h
      · exact .inl h
      · exact .inr (.inl ⟨b, hb, h⟩)
      · exact .inr (.inr h)
    rcases near with ⟨a, h, n1, n2⟩ | ⟨a, h, n1, n2⟩ | h
    · rcases grt_or h with h | h
      · exact ⟨x', _, m', .inl ⟨a, lo_bnds h, by omega, by omega⟩⟩
      · obtain ⟨u, v, hu, hv, rfl⟩ := mns_some h
        cases hv
        exact go (lo_bnds hu) (by omega) (by omega)
    · rcases lst_or h with h | h
      · exact ⟨x', _, m', .inl ⟨a, hi_bnds h, by omega, by omega⟩⟩
      · obtain ⟨u, v, hu, hv, rfl⟩ := mns_some h
        cases hv
        exact go (hi_bnds hu) (by omega) (by omega)
    · exact ⟨x', _, m', .inr (.inr h)⟩
/-- the first time of some times of the zone lies near a known bound -/
theorem near_known {p : Int} (hp : 0 < p) {z : Z} {ts : List Int} (h2 : z.ss.length ≤ 2) (h1 : 1 ≤ z.ss.length) (h : InT p z ts) : ∃ x r k, InT p z (x :: r) ∧ k ∈ known z ∧ k - 2 * p ≤ x ∧ x ≤ k + 2 * p := by
  obtain ⟨vs, ss, g⟩ := z
  match ss, h2, h1, h with
  | [s], _, _, h =>
    obtain ⟨x, rfl, c, b1, b2⟩ := in_one.mp h
    obtain ⟨x', e, lx, ux, near⟩ := near1 hp b1 b2
    have m : InT p ⟨vs, [s], g⟩ [x'] := in_one.mpr ⟨x', rfl, fun i hi => by rw [e]; exact c i hi, lx, ux⟩
    rcases near with ⟨a, h, n1, n2⟩ | ⟨a, h, n1, n2⟩ | h
    · exact ⟨x', [], a, m, by simp [known, bnds]; exact .inr (.inl h), by omega, by omega⟩
    · exact ⟨x', [], a, m, by simp [known, bnds]; exact .inr (.inr h), by omega, by omega⟩
    · exact ⟨x', [], 0, m, by simp [known], by omega, by omega⟩
  | [s, t], _, _, h =>
    obtain ⟨x, y, rfl, m⟩ := in_two.mp h
    obtain ⟨x', y', m', near⟩ := near3 hp m
    have m2 : InT p ⟨vs, [s, t], g⟩ [x', y'] := in_two.mpr ⟨x', y', rfl, m'⟩
    rcases near with ⟨k, hk, n⟩ | ⟨b, hb, u, hu, n⟩ | h
    · refine ⟨x', [y'], k, m2, ?_, n⟩
      simp only [known, List.mem_cons, List.mem_append, List.map_cons, List.flatten_cons]
      exact .inr (.inl (.inl hk))
    · refine ⟨x', [y'], b - u, m2, ?_, n⟩
      simp only [known, List.mem_cons, List.mem_append, List.mem_flatMap, List.mem_map]
      exact .inr (.inr ⟨u, hu, .inr ⟨b, hb, rfl⟩⟩)
    · exact ⟨x', [y'], 0, m2, by simp [known], by omega, by omega⟩
end Zn
end

section
set_option maxHeartbeats 4000000
/-! EwMeet: common rows of two zones. -/
namespace Zn
open EW (OO)
def jres (a b : Option Int) : Option Int := match a with
  | none => b
  | some u => some u
def jfine (a b : Option Int) : Bool := match a, b with
  | some u, some v => decide (u = v)
  | _, _ => true
def jsp (s t : Rn.Sp3) : Rn.Sp3 := ⟨jres s.res t.res, grt s.lo t.lo, lst s.hi t.hi⟩
def fine (z w : Z) : Bool := (List.zipWith (fun s t : Rn.Sp3 => jfine s.res t.res) z.ss w.ss).all id
def joinZ (z w : Z) : Z := ⟨z.vs, List.zipWith jsp z.ss w.ss, (grt z.g.1 w.g.1, lst z.g.2 w.g.2)⟩
def meet (z w : Z) : Option Z := if z.vs = w.vs ∧ fine z w = true then some (joinZ z w) else none
def met (p : Int) (z w : Z) : Option Z := (meet z w).bind (norm p)
theorem cl_join {p : Int} {a b : Option Int} {x : Int} : (jfine a b = true ∧ Cl p (jres a b) x) ↔ (Cl p a x ∧ Cl p b x) := by
  cases a with
  | none => exact ⟨fun h => ⟨(fun _ z => nomatch z), h.2⟩, fun h => ⟨rfl, h.2⟩⟩
  | some u =>
    cases b with
    | none => exact ⟨fun h => ⟨h.2, (fun _ z => nomatch z)⟩, fun h => ⟨rfl, h.1⟩⟩
    | some v =>
      constructor
      · rintro ⟨h1, h2⟩
        have h1 : u = v := of_decide_eq_true h1
        subst h1
        exact ⟨h2, h2⟩
      · rintro ⟨h1, h2⟩
        have e1 := h1 u rfl
        have e2 := h2 v rfl
        exact ⟨decide_eq_true (by omega), h1⟩
theorem bt_join {a b : OO} {x : Int} : Bt (grt a.1 b.1, lst a.2 b.2) x ↔ Bt a x ∧ Bt b x := by
  unfold Bt
  rw [lw_grt, up_lst]
  exact ⟨fun ⟨⟨h1, h2⟩, h3, h4⟩ => ⟨⟨h1, h3⟩, h2, h4⟩, fun ⟨⟨h1, h3⟩, h2, h4⟩ => ⟨⟨h1, h2⟩, h3, h4⟩⟩
theorem in_join {p : Int} {z w : Z} {ts : List Int} (hl : z.ss.length = w.ss.length) (h2 : z.ss.length ≤ 2) : (fine z w = true ∧ InT p (joinZ z w) ts) ↔ (InT p z ts ∧ InT p w ts) := by
  obtain ⟨vs, ss, g⟩ := z
  obtain ⟨vs', ss', g'⟩ := w
  match ss, ss', hl, h2 with
  | [], [], _, _ => cases ts <;> simp [fine, joinZ, InT]
  | [s], [t], _, _ =>
    show (fine _ _ = true ∧ InT p ⟨vs, [jsp s t], _⟩ ts) ↔ _
    rw [in_one, in_one, in_one]
    constructor
    · rintro ⟨hf, x, rfl, c, b⟩
      have hf : jfine s.res t.res = true := by simpa [fine] using hf
      obtain ⟨c1, c2⟩ := cl_join.mp ⟨hf, c⟩
      obtain ⟨b1, b2⟩ := (bt_join (a := (s.lo, s.hi)) (b := (t.lo, t.hi))).mp b
      exact ⟨⟨x, rfl, c1, b1⟩, x, rfl, c2, b2⟩
    · rintro ⟨⟨x, rfl, c1, b1⟩, y, e, c2, b2⟩
      cases e
      obtain ⟨hf, c⟩ := cl_join.mpr ⟨c1, c2⟩
      exact ⟨by simpa [fine] using hf, x, rfl, c, (bt_join (a := (s.lo, s.hi)) (b := (t.lo, t.hi))).mpr ⟨b1, b2⟩⟩
  | [s, s2], [t, t2], _, _ =>
    show (fine _ _ = true ∧ InT p ⟨vs, [jsp s t, jsp s2 t2], _⟩ ts) ↔ _
    rw [in_two, in_two, in_two]
    constructor
    · rintro ⟨hf, x, y, rfl, c, c', b, b', d⟩
      have hf : jfine s.res t.res = true ∧ jfine s2.res t2.res = true := by simpa [fine] using hf
      obtain ⟨c1, c2⟩ := cl_join.mp ⟨hf.1, c⟩
      obtain ⟨c3, c4⟩ := cl_join.mp ⟨hf.2, c'⟩
      obtain ⟨b1, b2⟩ := (bt_join (a := (s.lo, s.hi)) (b := (t.lo, t.hi))).mp b
      obtain ⟨b3, b4⟩ := (bt_join (a := (s2.lo, s2.hi)) (b := (t2.lo, t2.hi))).mp b'
      obtain ⟨d1, d2⟩ := bt_join.mp d
      exact ⟨⟨x, y, rfl, c1, c3, b1, b3, d1⟩, x, y, rfl, c2, c4, b2, b4, d2⟩
    · rintro ⟨⟨x, y, rfl, c1, c3, b1, b3, d1⟩, x', y', e, c2, c4, b2, b4, d2⟩
      cases e
      obtain ⟨hf, c⟩ := cl_join.mpr ⟨c1, c2⟩
      obtain ⟨hf', c'⟩ := cl_join.mpr ⟨c3, c4⟩
      exact ⟨by simp [fine, hf, hf'], x, y, rfl, c, c', (bt_join (a := (s.lo, s.hi)) (b := (t.lo, t.hi))).mpr ⟨b1, b2⟩, (bt_join (a := (s2.lo, s2.hi)) (b := (t2.lo, t2.hi))).mpr ⟨b3, b4⟩, bt_join.mpr ⟨d1, d2⟩⟩
/-! ### in both orders -/
theorem grt_comm (a b : Option Int) : grt a b = grt b a := by
  cases a <;> cases b <;> simp only [grt, Option.some.injEq]
  split <;> split <;> omega
theorem lst_comm (a b : Option Int) : lst a b = lst b a := by
  cases a <;> cases b <;> simp only [lst, Option.some.injEq]
  split <;> split <;> omega
theorem grt_same (a : Option Int) : grt a a = a := by
  cases a <;> simp [grt]
theorem lst_same (a : Option Int) : lst a a = a := by
  cases a <;> simp [lst]
theorem jfine_comm (a b : Option Int) : jfine a b = jfine b a := by
  cases a <;> cases b <;> simp only [jfine]
  exact decide_eq_decide.mpr eq_comm
theorem jres_comm {a b : Option Int} (h : jfine a b = true) : jres a b = jres b a := by
  cases a <;> cases b <;> simp_all [jfine, jres]
theorem jsp_comm {s t : Rn.Sp3} (h : jfine s.res t.res = true) : jsp s t = jsp t s := by
  unfold jsp
  rw [jres_comm h, grt_comm, lst_comm]
theorem fine_comm (z w : Z) : fine z w = fine w z := by
  unfold fine
  congr 1
  rw [List.zipWith_comm]
  congr 1
  funext s t
  exact jfine_comm _ _
theorem joins_comm : ∀ {a b : List Rn.Sp3}, (List.zipWith (fun s t : Rn.Sp3 => jfine s.res t.res) a b).all id = true → List.zipWith jsp a b = List.zipWith jsp b a
  | [], _, _ => by simp
  | _ :: _, [], _ => by simp
  | s :: a, t :: b, h => by
    simp only [List.zipWith_cons_cons, List.all_cons, Bool.and_eq_true] at h ⊢
    rw [jsp_comm h.1, joins_comm h.2]
theorem meet_comm (z w : Z) : meet z w = meet w z := by
  unfold meet
  rw [fine_comm w z]
  by_cases h : z.vs = w.vs ∧ fine z w = true
  · rw [if_pos h, if_pos ⟨h.1.symm, h.2⟩]
    unfold joinZ
    rw [joins_comm h.2, h.1, grt_comm, lst_comm]
  · rw [if_neg h, if_neg fun q => h ⟨q.1.symm, q.2⟩]
theorem met_comm (p : Int) (z w : Z) : met p z w = met p w z := by
  unfold met
  rw [meet_comm]
theorem jfine_self (a : Option Int) : jfine a a = true := by
  cases a <;> simp [jfine]
theorem jsp_self (s : Rn.Sp3) : jsp s s = s := by
  unfold jsp
  rw [grt_same, lst_same]
  obtain ⟨r, l, h⟩ := s
  cases r <;> rfl
theorem joins_self : ∀ a : List Rn.Sp3, List.zipWith jsp a a = a ∧ (List.zipWith (fun s t : Rn.Sp3 => jfine s.res t.res) a a).all id = true
  | [] => ⟨rfl, rfl⟩
  | s :: a => by
    obtain ⟨h1, h2⟩ := joins_self a
    refine ⟨?_, ?_⟩
    · rw [List.zipWith_cons_cons, jsp_self, h1]
    · rw [List.zipWith_cons_cons, List.all_cons, h2, jfine_self]
      rfl
theorem meet_self (z : Z) : meet z z = some z := by
  unfold meet
  rw [if_pos ⟨rfl, (joins_self z.ss).2⟩]
  unfold joinZ
  rw [(joins_self z.ss).1, grt_same, lst_same]
theorem met_self (p : Int) (z : Z) : met p z z = norm p z := by
  unfold met
  rw [meet_self]
  rfl
/-- a span in the place of another -/
def setSp (z : Z) (i : Nat) (s : Rn.Sp3) : Z := ⟨z.vs, z.ss.set i s, z.g⟩
def narrow (z : Z) (i : Nat) (q : OO) : Z := match z.ss[i]? with
  | some s => setSp z i ⟨s.res, grt s.lo q.1, lst s.hi q.2⟩
  | none => z
end Zn
end

section

namespace Rn
variable {p : Int}
theorem spans_runs {zs : List Run} {t : Int} : inSpans p (zs.map Run.span) t ↔ inRuns p zs t := by
  constructor
  · rintro ⟨s, hs, h1, h2, h3⟩
    obtain ⟨z, hz, rfl⟩ := List.mem_map.mp hs
    exact ⟨z, hz, h1 _ rfl, h2, h3⟩
  · rintro ⟨z, hz, h1, h2, h3⟩
    exact ⟨z.span, List.mem_map.mpr ⟨z, hz, rfl⟩, fun r e => by cases e; exact h1, h2, h3⟩
theorem spans_append {as bs : List Sp3} {t : Int} : inSpans p (as ++ bs) t ↔ inSpans p as t ∨ inSpans p bs t := by
  constructor
  · rintro ⟨s, hs, m⟩
    rcases List.mem_append.mp hs with hs | hs
    · exact .inl ⟨s, hs, m⟩
    · exact .inr ⟨s, hs, m⟩
  · rintro (⟨s, hs, m⟩ | ⟨s, hs, m⟩)
    · exact ⟨s, List.mem_append_left _ hs, m⟩
    · exact ⟨s, List.mem_append_right _ hs, m⟩
/-- spans with a residue make at most one run each -/
theorem found_le : ∀ {ss : List Sp3}, (∀ s ∈ ss, ∃ r, s.res = some r) → (ss.flatMap (foundOf p)).length ≤ ss.length
  | [], _ => Nat.zero_le _
  | s :: ss, h => by
    have h1 := found_le (ss := ss) fun s' hs' => h s' (List.mem_cons_of_mem _ hs')
    obtain ⟨r, hr⟩ := h s List.mem_cons_self
    have h2 : (foundOf p s).length ≤ 1 := by
      refine Nat.le_trans (List.length_filterMap_le _ _) ?_
      unfold residues
      rw [hr]
      exact Nat.le_refl _
    rw [List.flatMap_cons, List.length_append, List.length_cons]
    omega
theorem runs_res {zs : List Run} : ∀ s ∈ zs.map Run.span, ∃ r, s.res = some r := fun s hs => by
  obtain ⟨z, _, rfl⟩ := List.mem_map.mp hs
  exact ⟨z.r, rfl⟩
theorem runs_spok {zs : List Run} (h : ∀ z ∈ zs, Good p z) : ∀ s ∈ zs.map Run.span, SpOk p s := fun s hs => by
  obtain ⟨z, hz, rfl⟩ := List.mem_map.mp hs
  intro r e
  cases e
  exact ⟨(h z hz).r0, (h z hz).r1⟩
/-- the spans outside, residue by residue -/
def outAll (p : Int) (n : Nat) (zs : List Run) : List Sp3 := (List.range n).flatMap fun (k : Nat) => outs p (k : Int) none (zs.filter fun z => decide (z.r = (k : Int)))
theorem outAll_res {n : Nat} {zs : List Run} : ∀ s ∈ outAll p n zs, ∃ k : Nat, k < n ∧ s.res = some (k : Int) := fun s hs => by
  obtain ⟨k, hk, hs⟩ := List.mem_flatMap.mp hs
  exact ⟨k, List.mem_range.mp hk, outs_res s hs⟩
theorem outAll_succ {n : Nat} {zs : List Run} : outAll p (n + 1) zs = outAll p n zs ++ outs p (n : Int) none (zs.filter fun z => decide (z.r = (n : Int))) := by
  unfold outAll
  rw [List.range_succ, List.flatMap_append, List.flatMap_cons, List.flatMap_nil, List.append_nil]
theorem canon_filter {zs : List Run} (c : Canon p zs) (f : Run → Bool) : Canon p (zs.filter f) := ⟨fun z hz => c.good z (List.mem_filter.mp hz).1, List.Pairwise.sublist List.filter_sublist c.pw⟩
theorem outAll_len : ∀ {n : Nat} {zs : List Run}, (outAll p n zs).length ≤ (zs.filter fun z => decide (z.r < (n : Int) ∧ 0 ≤ z.r)).length + n
  | 0, zs => Nat.zero_le _
  | n + 1, zs => by
    have ih := outAll_len (n := n) (zs := zs)
    have h1 := outs_len (p := p) (r := (n : Int)) (xs := zs.filter fun z => decide (z.r = (n : Int))) (b := none)
    have h2 : (zs.filter fun z => decide (z.r < (n : Int) ∧ 0 ≤ z.r)).length + (zs.filter fun z => decide (z.r = (n : Int))).length ≤ (zs.filter fun z => decide (z.r < ((n + 1 : Nat) : Int) ∧ 0 ≤ z.r)).length := by
      clear ih h1
      induction zs with
      | nil => exact Nat.le_refl _
      | cons z zs ih =>
        simp only [List.filter_cons]
        by_cases c1 : z.r < (n : Int) ∧ 0 ≤ z.r
        · have c2 : ¬ z.r = (n : Int) := by omega
          have c3 : z.r < ((n + 1 : Nat) : Int) ∧ 0 ≤ z.r := by omega
          rw [if_pos (decide_eq_true c1), if_neg (by simpa using c2), if_pos (decide_eq_true c3)]
          simp only [List.length_cons]
          omega
        · by_cases c2 : z.r = (n : Int)
          · have c3 : z.r < ((n + 1 : Nat) : Int) ∧ 0 ≤ z.r := by omega
            rw [if_neg (by simpa using c1), if_pos (decide_eq_true c2), if_pos (decide_eq_true c3)]
            simp only [List.length_cons]
            omega
          · have c3 : ¬ (z.r < ((n + 1 : Nat) : Int) ∧ 0 ≤ z.r) := by omega
            rw [if_neg (by simpa using c1), if_neg (by simpa using c2), if_neg (by simpa using c3)]
            exact ih
    rw [outAll_succ, List.length_append]
    omega
theorem outAll_len' {n : Nat} {zs : List Run} : (outAll p n zs).length ≤ zs.length + n := Nat.le_trans outAll_len (Nat.add_le_add_right (List.length_filter_le _ _) _)
theorem outAll_mem (hp : 0 < p) {zs : List Run} (c : Canon p zs) (t : Int) : inSpans p (outAll p p.toNat zs) t ↔ ¬ inRuns p zs t := by
  have m0 := Int.emod_nonneg t (Int.ne_of_gt hp)
  have m1 := Int.emod_lt_of_pos t hp
  obtain ⟨k, hk⟩ : ∃ k : Nat, t % p = (k : Int) := ⟨(t % p).toNat, by omega⟩
  have hkn : k < p.toNat := by omega
  have key := outs_mem (p := p) (r := (k : Int)) hp (by omega) (by omega) (b := none) (canon_filter c fun z => decide (z.r = (k : Int))) (fun x hx => of_decide_eq_true (List.mem_filter.mp hx).2) (fun d e => by cases e) t hk
  have g0 : geLo none t := fun _ e => nomatch e
  have fl : inRuns p (zs.filter fun z => decide (z.r = (k : Int))) t ↔ inRuns p zs t := by
    constructor
    · rintro ⟨z, hz, m⟩
      exact ⟨z, (List.mem_filter.mp hz).1, m⟩
    · rintro ⟨z, hz, m⟩
      exact ⟨z, List.mem_filter.mpr ⟨hz, decide_eq_true (m.1.symm.trans hk)⟩, m⟩
  rw [fl] at key
  constructor
  · rintro ⟨s, hs, m⟩
    obtain ⟨j, hj, hs⟩ := List.mem_flatMap.mp hs
    have e := outs_res s hs
    have e2 := m.1 _ e
    have ejk : j = k := by omega
    subst ejk
    exact (key.mp ⟨s, hs, m⟩).2
  · intro h
    obtain ⟨s, hs, m⟩ := key.mpr ⟨g0, h⟩
    exact ⟨s, List.mem_flatMap.mpr ⟨k, List.mem_range.mpr hkn, hs⟩, m⟩
end Rn
end

section

namespace Rn
/-! ### written runs -/
def loB (p : Int) (x : Run) : Bool := match x.lo with
  | none => true
  | some l => decide (l % p = x.r)
def hiB (p : Int) (x : Run) : Bool := match x.hi with
  | none => true
  | some l => decide (l % p = x.r)
def lhB (x : Run) : Bool := match x.lo, x.hi with
  | some l, some m => decide (l ≤ m)
  | _, _ => true
def goodB (p : Int) (x : Run) : Bool := decide (0 ≤ x.r) && (decide (x.r < p) && (loB p x && (hiB p x && lhB x)))
theorem goodB_ok {p : Int} {x : Run} (h : goodB p x = true) : Good p x := by
  unfold goodB at h
  simp only [Bool.and_eq_true, decide_eq_true_eq] at h
  obtain ⟨h1, h2, h3, h4, h5⟩ := h
  refine ⟨h1, h2, fun l e => ?_, fun l e => ?_, fun l m e f => ?_⟩
  · unfold loB at h3
    rw [e] at h3
    exact of_decide_eq_true h3
  · unfold hiB at h4
    rw [e] at h4
    exact of_decide_eq_true h4
  · unfold lhB at h5
    rw [e, f] at h5
    exact of_decide_eq_true h5
def ltB (p : Int) (x y : Run) : Bool := decide (x.r < y.r) || (decide (x.r = y.r) && (match x.hi, y.lo with
  | some h, some l => decide (h + p < l)
  | _, _ => false))
theorem ltB_ok {p : Int} {x y : Run} (h : ltB p x y = true) : Lt p x y := by
  unfold ltB at h
  rw [Bool.or_eq_true, Bool.and_eq_true] at h
  rcases h with h | ⟨h1, h2⟩
  · exact .inl (of_decide_eq_true h)
  · refine .inr ⟨of_decide_eq_true h1, ?_⟩
    split at h2
    · rename_i a b e f
      exact ⟨a, b, e, f, of_decide_eq_true h2⟩
    · cases h2
def canonB (p : Int) : List Run → Bool
  | [] => true
  | x :: xs => goodB p x && (xs.all (ltB p x) && canonB p xs)
theorem canonB_ok {p : Int} : ∀ {xs : List Run}, canonB p xs = true → Canon p xs
  | [], _ => ⟨(fun _ h => nomatch h), .nil⟩
  | x :: xs, h => by
    unfold canonB at h
    rw [Bool.and_eq_true, Bool.and_eq_true] at h
    obtain ⟨h1, h2, h3⟩ := h
    have c := canonB_ok h3
    refine ⟨fun y hy => ?_, List.pairwise_cons.mpr ⟨fun y hy => ltB_ok (List.all_eq_true.mp h2 y hy), c.pw⟩⟩
    rcases List.mem_cons.mp hy with rfl | hy
    · exact goodB_ok h1
    · exact c.good y hy
section
variable {p t : Int}
theorem geN : geLo none t ↔ True := ⟨fun _ => trivial, fun _ _ h => nomatch h⟩
theorem geS {l : Int} : geLo (some l) t ↔ l ≤ t := ⟨fun h => h l rfl, fun h m e => by cases e; exact h⟩
theorem leN : leHi none t ↔ True := ⟨fun _ => trivial, fun _ _ h => nomatch h⟩
theorem leS {l : Int} : leHi (some l) t ↔ t ≤ l := ⟨fun h => h l rfl, fun h m e => by cases e; exact h⟩
theorem runs_nil : inRuns p [] t ↔ False := ⟨(fun ⟨_, h, _⟩ => nomatch h), False.elim⟩
theorem runs_cons {x : Run} {xs : List Run} : inRuns p (x :: xs) t ↔ inRun p x t ∨ inRuns p xs t := by
  constructor
  · rintro ⟨y, hy, h⟩
    rcases List.mem_cons.mp hy with rfl | hy
    · exact .inl h
    · exact .inr ⟨y, hy, h⟩
  · rintro (h | ⟨y, hy, h⟩)
    · exact ⟨x, List.mem_cons_self, h⟩
    · exact ⟨y, List.mem_cons_of_mem _ hy, h⟩
theorem spans_nil : inSpans p [] t ↔ False := ⟨(fun ⟨_, h, _⟩ => nomatch h), False.elim⟩
theorem spans_cons {x : Sp3} {xs : List Sp3} : inSpans p (x :: xs) t ↔ inSpan p x t ∨ inSpans p xs t := by
  constructor
  · rintro ⟨y, hy, h⟩
    rcases List.mem_cons.mp hy with rfl | hy
    · exact .inl h
    · exact .inr ⟨y, hy, h⟩
  · rintro (h | ⟨y, hy, h⟩)
    · exact ⟨x, List.mem_cons_self, h⟩
    · exact ⟨y, List.mem_cons_of_mem _ hy, h⟩
theorem run_mk {r : Int} {lo hi : Option Int} : inRun p ⟨r, lo, hi⟩ t ↔ t % p = r ∧ geLo lo t ∧ leHi hi t := Iff.rfl
theorem span_N {lo hi : Option Int} : inSpan p ⟨none, lo, hi⟩ t ↔ geLo lo t ∧ leHi hi t := ⟨fun h => h.2, fun h => ⟨(fun _ e => nomatch e), h⟩⟩
theorem span_S {r : Int} {lo hi : Option Int} : inSpan p ⟨some r, lo, hi⟩ t ↔ t % p = r ∧ geLo lo t ∧ leHi hi t := ⟨fun h => ⟨h.1 r rfl, h.2⟩, fun h => ⟨fun s e => by cases e; exact h.1, h.2⟩⟩
end
end Rn
end

section

namespace Rn
section
variable {p : Int}
/-- of two runs one comes ahead -/
theorem pw_cmp {α : Type} {R : α → α → Prop} : ∀ {xs : List α}, xs.Pairwise R → ∀ x ∈ xs, ∀ y ∈ xs, x = y ∨ R x y ∨ R y x
  | [], _, x, hx, _, _ => nomatch hx
  | z :: zs, h, x, hx, y, hy => by
    obtain ⟨h1, h2⟩ := List.pairwise_cons.mp h
    rcases List.mem_cons.mp hx with ex | hx'
    · rcases List.mem_cons.mp hy with ey | hy'
      · exact .inl (ex.trans ey.symm)
      · exact .inr (.inl (ex ▸ h1 y hy'))
    · rcases List.mem_cons.mp hy with ey | hy'
      · exact .inr (.inr (ey ▸ h1 x hx'))
      · exact pw_cmp h2 x hx' y hy'
theorem Canon.cmp {zs : List Run} (c : Canon p zs) {x y : Run} (hx : x ∈ zs) (hy : y ∈ zs) : x = y ∨ Lt p x y ∨ Lt p y x := pw_cmp c.pw x hx y hy
/-- a time is in one run at most -/
theorem Canon.one {zs : List Run} (hp : 0 < p) (c : Canon p zs) {x y : Run} {t : Int} (hx : x ∈ zs) (hy : y ∈ zs) (mx : inRun p x t) (my : inRun p y t) : x = y := by
  rcases c.cmp hx hy with h | h | h
  · exact h
  · exact (h.apart hp mx my).elim
  · exact (h.apart hp my mx).elim
/-- just ahead of a run there is no member -/
theorem Canon.below {zs : List Run} (hp : 0 < p) (c : Canon p zs) {z : Run} (hz : z ∈ zs) {l : Int} (e : z.lo = some l) : ¬ inRuns p zs (l - p) := by
  rintro ⟨y, hy, m⟩
  have gz := c.good z hz
  have er : (l - p) % p = z.r := by
    rw [Int.sub_emod_right]
    exact gz.lo l e
  have ey : y.r = z.r := by rw [← m.1]; exact er
  rcases c.cmp hz hy with h | h | h
  · subst h
    have := m.2.1 l e
    omega
  · rcases h with h | ⟨_, u, w, h1, h2, h3⟩
    · omega
    · have q1 := m.2.1 w h2
      have q2 := gz.le l u e h1
      omega
  · rcases h with h | ⟨_, u, w, h1, h2, h3⟩
    · omega
    · have q1 := m.2.2 u h1
      rw [e] at h2
      cases h2
      omega
theorem Canon.beyond {zs : List Run} (hp : 0 < p) (c : Canon p zs) {z : Run} (hz : z ∈ zs) {l : Int} (e : z.hi = some l) : ¬ inRuns p zs (l + p) := by
  rintro ⟨y, hy, m⟩
  have gz := c.good z hz
  have er : (l + p) % p = z.r := by
    rw [Int.add_emod_right]
    exact gz.hi l e
  have ey : y.r = z.r := by rw [← m.1]; exact er
  rcases c.cmp hz hy with h | h | h
  · subst h
    have := m.2.2 l e
    omega
  · rcases h with h | ⟨_, u, w, h1, h2, h3⟩
    · omega
    · have q1 := m.2.1 w h2
      rw [e] at h1
      cases h1
      omega
  · rcases h with h | ⟨_, u, w, h1, h2, h3⟩
    · omega
    · have q1 := m.2.2 u h1
      have q2 := gz.le w l h2 e
      omega
/-- how many runs have this time -/
theorem Canon.count {zs : List Run} (hp : 0 < p) (c : Canon p zs) {t : Int} (f : Run → Bool) (hf : ∀ z, f z = true ↔ inRun p z t) : (inRuns p zs t → (zs.filter f).length = 1) ∧ (¬ inRuns p zs t → (zs.filter f).length = 0) := by
  constructor
  · rintro ⟨z, hz, m⟩
    cases e : zs.filter f with
    | nil =>
      have : z ∈ zs.filter f := List.mem_filter.mpr ⟨hz, (hf z).mpr m⟩
      rw [e] at this
      cases this
    | cons x r =>
      cases r with
      | nil => rfl
      | cons y r =>
        have pw : (zs.filter f).Pairwise (Lt p) := List.Pairwise.sublist List.filter_sublist c.pw
        rw [e] at pw
        have h := (List.pairwise_cons.mp pw).1 y List.mem_cons_self
        have mx : x ∈ zs.filter f := by rw [e]; exact List.mem_cons_self
        have my : y ∈ zs.filter f := by rw [e]; exact List.mem_cons_of_mem _ List.mem_cons_self
        exact (h.apart hp ((hf x).mp (List.mem_filter.mp mx).2) ((hf y).mp (List.mem_filter.mp my).2)).elim
  · intro h
    rw [List.length_eq_zero_iff, List.filter_eq_nil_iff]
    exact fun z hz m => h ⟨z, hz, (hf z).mp m⟩
end
end Rn
end

section

namespace Rn
/-! ### next and last members -/
def IsNext (A : Int → Prop) (t : Int) : Option Int → Prop
  | none => ∀ s, t ≤ s → ¬ A s
  | some m => A m ∧ t ≤ m ∧ ∀ s, t ≤ s → A s → m ≤ s
def IsLast (A : Int → Prop) (t : Int) : Option Int → Prop
  | none => ∀ s, s ≤ t → ¬ A s
  | some m => A m ∧ m ≤ t ∧ ∀ s, s ≤ t → A s → s ≤ m
section
variable {A B : Int → Prop} {t m p r : Int} {o o' lo hi : Option Int} {ms : List Int}
theorem IsNext.uniq (h : IsNext A t o) (h' : IsNext A t o') : o = o' := by
  cases o with
  | none =>
    cases o' with
    | none => rfl
    | some m => exact absurd h'.1 (h m h'.2.1)
  | some m =>
    cases o' with
    | none => exact absurd h.1 (h' m h.2.1)
    | some m' =>
      have h1 := h.2.2 m' h'.2.1 h'.1
      have h2 := h'.2.2 m h.2.1 h.1
      have : m = m' := by omega
      rw [this]
theorem IsLast.uniq (h : IsLast A t o) (h' : IsLast A t o') : o = o' := by
  cases o with
  | none =>
    cases o' with
    | none => rfl
    | some m => exact absurd h'.1 (h m h'.2.1)
  | some m =>
    cases o' with
    | none => exact absurd h.1 (h' m h.2.1)
    | some m' =>
      have h1 := h.2.2 m' h'.2.1 h'.1
      have h2 := h'.2.2 m h.2.1 h.1
      have : m = m' := by omega
      rw [this]
theorem IsNext.congr (e : ∀ t, A t ↔ B t) (h : IsNext A t o) : IsNext B t o := by
  have : A = B := funext fun t => propext (e t)
  rw [← this]
  exact h
theorem IsLast.congr (e : ∀ t, A t ↔ B t) (h : IsLast A t o) : IsLast B t o := by
  have : A = B := funext fun t => propext (e t)
  rw [← this]
  exact h
/-- some members at or behind t, among them the least -/
structure Nxs (A : Int → Prop) (t : Int) (ms : List Int) : Prop where
  mem : ∀ m ∈ ms, A m ∧ t ≤ m
  all : ∀ s, t ≤ s → A s → ∃ m ∈ ms, m ≤ s
theorem Nxs.congr (e : ∀ t, A t ↔ B t) (h : Nxs A t ms) : Nxs B t ms := ⟨fun m hm => ⟨(e m).mp (h.mem m hm).1, (h.mem m hm).2⟩, fun s hs hB => h.all s hs ((e s).mpr hB)⟩
theorem Nxs.skip (h : Nxs A t ms) (n : IsNext B t none) : Nxs (fun s => A s ∨ B s) t ms :=
  ⟨fun m hm => ⟨.inl (h.mem m hm).1, (h.mem m hm).2⟩, fun s hs q => q.elim (h.all s hs) fun q => absurd q (n s hs)⟩
theorem Nxs.add (h : Nxs A t ms) (n : IsNext B t (some m)) : Nxs (fun s => A s ∨ B s) t (ms ++ [m]) := by
  refine ⟨fun x hx => ?_, fun s hs q => ?_⟩
  · rcases List.mem_append.mp hx with hx | hx
    · exact ⟨.inl (h.mem x hx).1, (h.mem x hx).2⟩
    · rw [List.mem_singleton.mp hx]
      exact ⟨.inr n.1, n.2.1⟩
  · rcases q with q | q
    · obtain ⟨x, hx, hl⟩ := h.all s hs q
      exact ⟨x, List.mem_append_left _ hx, hl⟩
    · exact ⟨m, List.mem_append_right _ List.mem_cons_self, n.2.2 s hs q⟩
theorem Nxs.least (h : Nxs A t ms) (hm : m ∈ ms) (hl : ∀ y ∈ ms, m ≤ y) : IsNext A t (some m) :=
  ⟨(h.mem m hm).1, (h.mem m hm).2, fun s hs q => let ⟨x, hx, l⟩ := h.all s hs q; Int.le_trans (hl x hx) l⟩
theorem Nxs.empty (h : Nxs A t []) : IsNext A t none := fun s hs q => by
  obtain ⟨_, hx, _⟩ := h.all s hs q
  cases hx
structure Lss (A : Int → Prop) (t : Int) (ms : List Int) : Prop where
  mem : ∀ m ∈ ms, A m ∧ m ≤ t
  all : ∀ s, s ≤ t → A s → ∃ m ∈ ms, s ≤ m
theorem Lss.congr (e : ∀ t, A t ↔ B t) (h : Lss A t ms) : Lss B t ms := ⟨fun m hm => ⟨(e m).mp (h.mem m hm).1, (h.mem m hm).2⟩, fun s hs hB => h.all s hs ((e s).mpr hB)⟩
theorem Lss.skip (h : Lss A t ms) (n : IsLast B t none) : Lss (fun s => A s ∨ B s) t ms :=
  ⟨fun m hm => ⟨.inl (h.mem m hm).1, (h.mem m hm).2⟩, fun s hs q => q.elim (h.all s hs) fun q => absurd q (n s hs)⟩
theorem Lss.add (h : Lss A t ms) (n : IsLast B t (some m)) : Lss (fun s => A s ∨ B s) t (ms ++ [m]) := by
  refine ⟨fun x hx => ?_, fun s hs q => ?_⟩
  · rcases List.mem_append.mp hx with hx | hx
    · exact ⟨.inl (h.mem x hx).1, (h.mem x hx).2⟩
    · rw [List.mem_singleton.mp hx]
      exact ⟨.inr n.1, n.2.1⟩
  · rcases q with q | q
    · obtain ⟨x, hx, hl⟩ := h.all s hs q
      exact ⟨x, List.mem_append_left _ hx, hl⟩
    · exact ⟨m, List.mem_append_right _ List.mem_cons_self, n.2.2 s hs q⟩
theorem Lss.greatest (h : Lss A t ms) (hm : m ∈ ms) (hl : ∀ y ∈ ms, y ≤ m) : IsLast A t (some m) :=
  ⟨(h.mem m hm).1, (h.mem m hm).2, fun s hs q => let ⟨x, hx, l⟩ := h.all s hs q; Int.le_trans l (hl x hx)⟩
theorem Lss.empty (h : Lss A t []) : IsLast A t none := fun s hs q => by
  obtain ⟨_, hx, _⟩ := h.all s hs q
  cases hx
/-! ### of one span -/
/-- the later one -/
def from_ (lo : Option Int) (t : Int) : Int := match lo with
  | none => t
  | some l => if l < t then t else l
theorem from_iff {s : Int} : from_ lo t ≤ s ↔ geLo lo s ∧ t ≤ s := by
  cases lo with
  | none =>
    show t ≤ s ↔ _
    rw [geN]
    simp
  | some l =>
    show (if l < t then t else l) ≤ s ↔ _
    rw [geS]
    split <;> omega
theorem next_res (r0 : 0 ≤ r) (r1 : r < p) (c : leHi hi (upTo p r (from_ lo t))) : IsNext (inSpan p ⟨some r, lo, hi⟩) t (some (upTo p r (from_ lo t))) := by
  have hp : 0 < p := by omega
  have h1 := (upTo_le (r := r) hp (from_ lo t)).1
  obtain ⟨h2, h3⟩ := from_iff.mp h1
  refine ⟨span_S.mpr ⟨upTo_mod r0 r1 _, h2, c⟩, h3, fun s hs q => ?_⟩
  obtain ⟨q1, q2, _⟩ := span_S.mp q
  exact (upTo_iff r0 r1 q1 _).mpr (from_iff.mpr ⟨q2, hs⟩)
theorem next_res_no (r0 : 0 ≤ r) (r1 : r < p) (c : ¬ leHi hi (upTo p r (from_ lo t))) : IsNext (inSpan p ⟨some r, lo, hi⟩) t none := by
  intro s hs q
  obtain ⟨q1, q2, q3⟩ := span_S.mp q
  refine c fun h e => ?_
  have := (upTo_iff r0 r1 q1 (from_ lo t)).mpr (from_iff.mpr ⟨q2, hs⟩)
  have := q3 h e
  omega
theorem next_any (c : leHi hi (from_ lo t)) : IsNext (inSpan p ⟨none, lo, hi⟩) t (some (from_ lo t)) := by
  obtain ⟨h2, h3⟩ := from_iff.mp (Int.le_refl (from_ lo t))
  refine ⟨span_N.mpr ⟨h2, c⟩, h3, fun s hs q => from_iff.mpr ⟨(span_N.mp q).1, hs⟩⟩
theorem next_any_no (c : ¬ leHi hi (from_ lo t)) : IsNext (inSpan p ⟨none, lo, hi⟩) t none := by
  intro s hs q
  obtain ⟨q2, q3⟩ := span_N.mp q
  refine c fun h e => ?_
  have := from_iff.mpr ⟨q2, hs⟩
  have := q3 h e
  omega
/-- by runOf -/
theorem next_run {x : Run} {g : Option Int} (r0 : 0 ≤ r) (r1 : r < p) (hg : ∀ s, geLo g s ↔ geLo lo s ∧ t ≤ s) (e : runOf p r g hi = some x) {l : Int} (el : x.lo = some l) : IsNext (inSpan p ⟨some r, lo, hi⟩) t (some l) := by
  obtain ⟨gx, _, hm⟩ := runOf_some r0 r1 e
  obtain ⟨h1, h2, h3⟩ := (hm l).mp (in_lo gx el)
  obtain ⟨h4, h5⟩ := (hg l).mp h2
  refine ⟨span_S.mpr ⟨h1, h4, h3⟩, h5, fun s hs q => ?_⟩
  obtain ⟨q1, q2, q3⟩ := span_S.mp q
  exact ((hm s).mpr ⟨q1, (hg s).mpr ⟨q2, hs⟩, q3⟩).2.1 l el
theorem next_run_no {g : Option Int} (r0 : 0 ≤ r) (r1 : r < p) (hg : ∀ s, geLo g s ↔ geLo lo s ∧ t ≤ s) (e : runOf p r g hi = none) : IsNext (inSpan p ⟨some r, lo, hi⟩) t none := by
  intro s hs q
  obtain ⟨q1, q2, q3⟩ := span_S.mp q
  exact runOf_none r0 r1 e s ⟨q1, (hg s).mpr ⟨q2, hs⟩, q3⟩
theorem last_run {x : Run} {g : Option Int} (r0 : 0 ≤ r) (r1 : r < p) (hg : ∀ s, leHi g s ↔ leHi hi s ∧ s ≤ t) (e : runOf p r lo g = some x) {l : Int} (el : x.hi = some l) : IsLast (inSpan p ⟨some r, lo, hi⟩) t (some l) := by
  obtain ⟨gx, _, hm⟩ := runOf_some r0 r1 e
  obtain ⟨h1, h2, h3⟩ := (hm l).mp (in_hi gx el)
  obtain ⟨h4, h5⟩ := (hg l).mp h3
  refine ⟨span_S.mpr ⟨h1, h2, h4⟩, h5, fun s hs q => ?_⟩
  obtain ⟨q1, q2, q3⟩ := span_S.mp q
  exact ((hm s).mpr ⟨q1, q2, (hg s).mpr ⟨q3, hs⟩⟩).2.2 l el
theorem last_run_no {g : Option Int} (r0 : 0 ≤ r) (r1 : r < p) (hg : ∀ s, leHi g s ↔ leHi hi s ∧ s ≤ t) (e : runOf p r lo g = none) : IsLast (inSpan p ⟨some r, lo, hi⟩) t none := by
  intro s hs q
  obtain ⟨q1, q2, q3⟩ := span_S.mp q
  exact runOf_none r0 r1 e s ⟨q1, q2, (hg s).mpr ⟨q3, hs⟩⟩
theorem runOf_lo {x : Run} {l : Int} (e : runOf p r (some l) hi = some x) : ∃ m, x.lo = some m := by
  unfold runOf at e
  cases hi with
  | none =>
    simp at e
    rw [← e]
    exact ⟨_, rfl⟩
  | some h =>
    simp only [Option.map_some] at e
    split at e
    · cases e
    · rw [← Option.some.inj e]
      exact ⟨_, rfl⟩
theorem runOf_hi {x : Run} {l : Int} (e : runOf p r lo (some l) = some x) : ∃ m, x.hi = some m := by
  unfold runOf at e
  cases lo with
  | none =>
    simp at e
    rw [← e]
    exact ⟨_, rfl⟩
  | some h =>
    simp only [Option.map_some] at e
    split at e
    · cases e
    · rw [← Option.some.inj e]
      exact ⟨_, rfl⟩
/-! ### turned about -/
theorem IsNext.turn (h : IsNext (fun s => A (-s)) (-t) o) : IsLast A t (o.map fun m => -m) := by
  cases o with
  | none => exact fun s hs q => h (-s) (by omega) (by show A (- -s); rw [Int.neg_neg]; exact q)
  | some m =>
    refine ⟨h.1, ?_, fun s hs q => ?_⟩
    · have := h.2.1
      show -m ≤ t
      omega
    · have := h.2.2 (-s) (by omega) (by show A (- -s); rw [Int.neg_neg]; exact q)
      show s ≤ -m
      omega
/-- a span turned about -/
def turn (p : Int) (s : Sp3) : Sp3 := ⟨s.res.map fun r => (-r) % p, s.hi.map fun m => -m, s.lo.map fun m => -m⟩
theorem turn_mem {s : Sp3} (hp : 0 < p) (ok : SpOk p s) : inSpan p (turn p s) t ↔ inSpan p s (-t) := by
  obtain ⟨res, lo, hi⟩ := s
  unfold inSpan turn
  have h1 : (∀ r, (res.map fun r => (-r) % p) = some r → t % p = r) ↔ ∀ r, res = some r → (-t) % p = r := by
    cases res with
    | none => simp
    | some r =>
      obtain ⟨r0, r1⟩ := ok r rfl
      simp only [Option.map_some, Option.some.injEq, forall_eq']
      constructor
      · intro h
        have e : (-t) % p = r % p := by
          have : (-t - r) % p = 0 := by
            have h2 : (t + r) % p = 0 := by
              have := Int.emod_emod_of_dvd (-r) (Int.dvd_refl p)
              have h3 : t % p = (-r) % p := h
              have h4 := Int.emod_emod_of_dvd t (Int.dvd_refl p)
              rw [Int.add_emod, h3, ← Int.add_emod]
              have : -r + r = 0 := by omega
              rw [this]
              exact Int.zero_emod p
            have e1 : -t - r = -(t + r) := by omega
            rw [e1]
            exact Int.emod_eq_zero_of_dvd (Int.dvd_neg.mpr (Int.dvd_of_emod_eq_zero h2))
          exact Int.emod_eq_emod_iff_emod_sub_eq_zero.mpr this
        rw [e, Int.emod_eq_of_lt r0 r1]
      · intro h
        have e : t % p = (-r) % p := by
          have : (t - -r) % p = 0 := by
            have e1 : t - -r = -(-t - r) := by omega
            rw [e1]
            refine Int.emod_eq_zero_of_dvd (Int.dvd_neg.mpr (Int.dvd_of_emod_eq_zero ?_))
            refine Int.emod_eq_emod_iff_emod_sub_eq_zero.mp ?_
            rw [h, Int.emod_eq_of_lt r0 r1]
          exact Int.emod_eq_emod_iff_emod_sub_eq_zero.mpr this
        exact e
  have h2 : geLo (hi.map fun m => -m) t ↔ leHi hi (-t) := by
    cases hi with
    | none => rw [Option.map_none, geN, leN]
    | some m =>
      rw [Option.map_some, geS, leS]
      omega
  have h3 : leHi (lo.map fun m => -m) t ↔ geLo lo (-t) := by
    cases lo with
    | none => rw [Option.map_none, geN, leN]
    | some m =>
      rw [Option.map_some, geS, leS]
      omega
  rw [h1, h2, h3]
  exact ⟨fun ⟨a, b, c⟩ => ⟨a, c, b⟩, fun ⟨a, b, c⟩ => ⟨a, c, b⟩⟩
theorem turns_mem (hp : 0 < p) {ss : List Sp3} (ok : ∀ s ∈ ss, SpOk p s) : inSpans p (ss.map (turn p)) t ↔ inSpans p ss (-t) := by
  constructor
  · rintro ⟨s, hs, m⟩
    obtain ⟨z, hz, rfl⟩ := List.mem_map.mp hs
    exact ⟨z, hz, (turn_mem hp (ok z hz)).mp m⟩
  · rintro ⟨z, hz, m⟩
    exact ⟨_, List.mem_map.mpr ⟨z, hz, rfl⟩, (turn_mem hp (ok z hz)).mpr m⟩
theorem turn_ok (hp : 0 < p) {s : Sp3} : SpOk p (turn p s) := fun r e => by
  unfold turn at e
  cases h : s.res with
  | none => rw [h] at e; cases e
  | some q =>
    rw [h] at e
    have e := Option.some.inj e
    rw [← e]
    exact ⟨Int.emod_nonneg _ (by omega), Int.emod_lt_of_pos _ hp⟩
/-! ### the first member -/
def Before (m s : Int) : Prop := m.natAbs < s.natAbs ∨ (m.natAbs = s.natAbs ∧ m ≤ s)
def IsFirst (A : Int → Prop) : Option Int → Prop
  | none => ∀ s, ¬ A s
  | some m => A m ∧ ∀ s, A s → Before m s
theorem IsFirst.uniq (h : IsFirst A o) (h' : IsFirst A o') : o = o' := by
  cases o with
  | none =>
    cases o' with
    | none => rfl
    | some m => exact absurd h'.1 (h m)
  | some m =>
    cases o' with
    | none => exact absurd h.1 (h' m)
    | some m' =>
      have h1 := h.2 m' h'.1
      have h2 := h'.2 m h.1
      unfold Before at h1 h2
      have : m = m' := by omega
      rw [this]
theorem IsFirst.congr (e : ∀ t, A t ↔ B t) (h : IsFirst A o) : IsFirst B o := by
  have : A = B := funext fun t => propext (e t)
  rw [← this]
  exact h
theorem first_none (h1 : IsNext A 0 none) (h2 : IsLast A 0 none) : IsFirst A none := fun s q => by
  rcases Int.le_total 0 s with h | h
  · exact h1 s h q
  · exact h2 s h q
theorem first_next {m : Int} (h1 : IsNext A 0 (some m)) (h2 : IsLast A 0 o) (h : ∀ l, o = some l → Before m l) : IsFirst A (some m) := by
  refine ⟨h1.1, fun s q => ?_⟩
  rcases Int.le_total 0 s with c | c
  · have := h1.2.2 s c q
    have := h1.2.1
    unfold Before
    omega
  · cases o with
    | none => exact absurd q (h2 s c)
    | some l =>
      have a := h l rfl
      have b := h2.2.2 s c q
      have d := h2.2.1
      unfold Before at a ⊢
      omega
theorem first_last {m : Int} (h1 : IsNext A 0 o) (h2 : IsLast A 0 (some m)) (h : ∀ l, o = some l → Before m l) : IsFirst A (some m) := by
  refine ⟨h2.1, fun s q => ?_⟩
  rcases Int.le_total 0 s with c | c
  · cases o with
    | none => exact absurd q (h1 s c)
    | some l =>
      have a := h l rfl
      have b := h1.2.2 s c q
      have d := h1.2.1
      unfold Before at a ⊢
      omega
  · have := h2.2.2 s c q
    have := h2.2.1
    unfold Before
    omega
end
end Rn
end

section
set_option maxHeartbeats 4000000
/-! EwFirst: the time nearest to 0; first times of a zone. -/
namespace Zn
open EW (OO)
def In1 (p : Int) (s : Rn.Sp3) (x : Int) : Prop := Cl p s.res x ∧ Bt (s.lo, s.hi) x
def aft (p : Int) (s : Rn.Sp3) : OO := rnd p s.res (grt s.lo (some 0), s.hi)
def bef (p : Int) (s : Rn.Sp3) : OO := rnd p s.res (s.lo, lst s.hi (some 0))
def nzs (p : Int) (s : Rn.Sp3) : List Int := (if emp (aft p s) = true then [] else (aft p s).1.toList) ++ if emp (bef p s) = true then [] else (bef p s).2.toList
theorem rnd_lo {p : Int} (hp : 0 < p) {r : Option Int} (hr : Res p r) {l : Int} {u : Option Int} : ∃ a, (rnd p r (some l, u)).1 = some a ∧ l ≤ a ∧ Cl p r a ∧ ∀ x, Cl p r x → l ≤ x → a ≤ x := by
  cases r with
  | none => exact ⟨l, rfl, Int.le_refl _, (fun _ h => nomatch h), fun x _ h => h⟩
  | some r =>
    obtain ⟨r0, r1⟩ := hr r rfl
    refine ⟨Rn.upTo p r l, rfl, (Rn.upTo_le hp l).1, fun i e => ?_, fun x c h => (Rn.upTo_iff r0 r1 (c r rfl) l).mpr h⟩
    cases e
    exact Rn.upTo_mod r0 r1 l
theorem rnd_hi {p : Int} (hp : 0 < p) {r : Option Int} (hr : Res p r) {l : Option Int} {u : Int} : ∃ a, (rnd p r (l, some u)).2 = some a ∧ a ≤ u ∧ Cl p r a ∧ ∀ x, Cl p r x → x ≤ u → x ≤ a := by
  cases r with
  | none => exact ⟨u, rfl, Int.le_refl _, (fun _ h => nomatch h), fun x _ h => h⟩
  | some r =>
    obtain ⟨r0, r1⟩ := hr r rfl
    refine ⟨Rn.downTo p r u, rfl, (Rn.downTo_le hp u).1, fun i e => ?_, fun x c h => (Rn.downTo_iff r0 r1 (c r rfl) u).mpr h⟩
    cases e
    exact Rn.downTo_mod r0 r1 u
theorem grt_zero (o : Option Int) : ∃ l, grt o (some 0) = some l ∧ 0 ≤ l ∧ ∀ x, Lw o x → 0 ≤ x → l ≤ x := by
  cases o with
  | none => exact ⟨0, rfl, Int.le_refl _, fun x _ h => h⟩
  | some u =>
    refine ⟨_, rfl, ?_, fun x h h0 => ?_⟩
    · split <;> omega
    · have := h u rfl
      split <;> omega
theorem lst_zero (o : Option Int) : ∃ l, lst o (some 0) = some l ∧ l ≤ 0 ∧ ∀ x, Up o x → x ≤ 0 → x ≤ l := by
  cases o with
  | none => exact ⟨0, rfl, Int.le_refl _, fun x _ h => h⟩
  | some u =>
    refine ⟨_, rfl, ?_, fun x h h0 => ?_⟩
    · split <;> omega
    · have := h u rfl
      split <;> omega
theorem emp_none {a b : Option Int} (h : emp (a, b) = false) {x y : Int} (ha : a = some x) (hb : b = some y) : x ≤ y := by
  subst ha
  subst hb
  simp only [emp, decide_eq_false_iff_not] at h
  omega
/-- the least time from 0 on -/
theorem aft_spec {p : Int} (hp : 0 < p) {s : Rn.Sp3} (hr : Res p s.res) : ∃ a, (aft p s).1 = some a ∧ 0 ≤ a ∧ (emp (aft p s) = false → In1 p s a) ∧ ∀ x, In1 p s x → 0 ≤ x → emp (aft p s) = false ∧ a ≤ x := by
  obtain ⟨l, hl, l0, hl2⟩ := grt_zero s.lo
  obtain ⟨a, ha, la, ca, hmin⟩ := rnd_lo hp hr (l := l) (u := s.hi)
  have e : aft p s = rnd p s.res (some l, s.hi) := by
    unfold aft
    rw [hl]
  have lw : Lw s.lo a := by
    have : Lw (grt s.lo (some 0)) a := by
      rw [hl]
      exact lw_some.mpr la
    exact (lw_grt.mp this).1
  rw [e]
  refine ⟨a, ha, by omega, fun he => ⟨ca, lw, fun u hu => ?_⟩, fun x ⟨cx, bx⟩ x0 => ?_⟩
  · have hu : s.hi = some u := hu
    obtain ⟨b, hb, bu, _, _⟩ := rnd_hi hp hr (l := some l) (u := u)
    rw [← hu] at hb
    have := emp_none he ha hb
    omega
  · have lx := hl2 x bx.1 x0
    have ax := hmin x cx lx
    refine ⟨?_, ax⟩
    cases h : emp (rnd p s.res (some l, s.hi)) with
    | false => rfl
    | true => exact absurd ((bt_rnd (q := (some l, s.hi)) hp hr cx).mpr ⟨lw_some.mpr lx, bx.2⟩) (bt_emp h)
theorem bef_spec {p : Int} (hp : 0 < p) {s : Rn.Sp3} (hr : Res p s.res) : ∃ a, (bef p s).2 = some a ∧ a ≤ 0 ∧ (emp (bef p s) = false → In1 p s a) ∧ ∀ x, In1 p s x → x ≤ 0 → emp (bef p s) = false ∧ x ≤ a := by
  obtain ⟨l, hl, l0, hl2⟩ := lst_zero s.hi
  obtain ⟨a, ha, la, ca, hmin⟩ := rnd_hi hp hr (l := s.lo) (u := l)
  have e : bef p s = rnd p s.res (s.lo, some l) := by
    unfold bef
    rw [hl]
  have lw : Up s.hi a := by
    have : Up (lst s.hi (some 0)) a := by
      rw [hl]
      exact up_some.mpr la
    exact (up_lst.mp this).1
  rw [e]
  refine ⟨a, ha, by omega, fun he => ⟨ca, fun u hu => ?_, lw⟩, fun x ⟨cx, bx⟩ x0 => ?_⟩
  · have hu : s.lo = some u := hu
    obtain ⟨b, hb, bu, _, _⟩ := rnd_lo hp hr (l := u) (u := some l)
    rw [← hu] at hb
    have := emp_none he hb ha
    omega
  · have lx := hl2 x bx.2 x0
    have ax := hmin x cx lx
    refine ⟨?_, ax⟩
    cases h : emp (rnd p s.res (s.lo, some l)) with
    | false => rfl
    | true => exact absurd ((bt_rnd (q := (s.lo, some l)) hp hr cx).mpr ⟨bx.1, up_some.mpr lx⟩) (bt_emp h)
theorem nzs_in {p : Int} (hp : 0 < p) {s : Rn.Sp3} (hr : Res p s.res) {m : Int} (h : m ∈ nzs p s) : In1 p s m := by
  obtain ⟨a, ha, _, a1, _⟩ := aft_spec hp hr
  obtain ⟨b, hb, _, b1, _⟩ := bef_spec hp hr
  unfold nzs at h
  rw [ha, hb] at h
  rcases List.mem_append.mp h with h | h
  · split at h
    · cases h
    · next c =>
      cases List.mem_singleton.mp h
      exact a1 (Bool.eq_false_iff.mpr c)
  · split at h
    · cases h
    · next c =>
      cases List.mem_singleton.mp h
      exact b1 (Bool.eq_false_iff.mpr c)
theorem nzs_all {p : Int} (hp : 0 < p) {s : Rn.Sp3} (hr : Res p s.res) {x : Int} (h : In1 p s x) : ∃ m ∈ nzs p s, Rn.Before m x := by
  obtain ⟨a, ha, a0, _, a2⟩ := aft_spec hp hr
  obtain ⟨b, hb, b0, _, b2⟩ := bef_spec hp hr
  unfold nzs
  rw [ha, hb]
  rcases Int.le_total 0 x with q | q
  · obtain ⟨e, ax⟩ := a2 x h q
    refine ⟨a, ?_, ?_⟩
    · rw [e]
      simp
    · unfold Rn.Before
      omega
  · obtain ⟨e, ax⟩ := b2 x h q
    refine ⟨b, ?_, ?_⟩
    · rw [e]
      simp
    · unfold Rn.Before
      omega
theorem before_trans {a b c : Int} (h : Rn.Before a b) (h' : Rn.Before b c) : Rn.Before a c := by
  unfold Rn.Before at *
  omega
theorem before_anti {a b : Int} (h : Rn.Before a b) (h' : Rn.Before b a) : a = b := by
  unfold Rn.Before at *
  omega
/-- the nearest of the two is the nearest of all -/
theorem nzs_least {p : Int} (hp : 0 < p) {s : Rn.Sp3} (hr : Res p s.res) {m : Int} (h : ∀ l ∈ nzs p s, Rn.Before m l) {x : Int} (hx : In1 p s x) : Rn.Before m x := by
  obtain ⟨l, hl, hb⟩ := nzs_all hp hr hx
  exact before_trans (h l hl) hb
theorem nzs_len (p : Int) (s : Rn.Sp3) : (nzs p s).length ≤ 2 := by
  unfold nzs
  rw [List.length_append]
  have h : ∀ o : Option Int, o.toList.length ≤ 1 := fun o => by cases o <;> simp
  have h1 := h (aft p s).1
  have h2 := h (bef p s).2
  split <;> split <;> simp <;> omega
end Zn
end

section
set_option maxHeartbeats 4000000
/-! EwFirst2: the first times of a zone. -/
namespace Zn
open EW (OO)
section
variable {p x y : Int} {r1 r2 a b c d : Option Int} {q : Q3} {f1 f2 s1 s2 g1 g2 : Option Int}
theorem stb_of {vs : List PySem.Str} {s t : Rn.Sp3} {g : OO} (hp : 0 < p) (hs : Res p s.res) (ht : Res p t.res) (h : norm p ⟨vs, [s, t], g⟩ = some ⟨vs, [s, t], g⟩) : Stb p (s.res, t.res, gres p s.res t.res) ((s.lo, s.hi), (t.lo, t.hi), g) := by
  have h : (tight p s t g).map (fun q => (⟨vs, [q.1, q.2.1], q.2.2⟩ : Z)) = some ⟨vs, [s, t], g⟩ := h
  unfold tight at h
  cases e : (step p (s.res, t.res, gres p s.res t.res) ((s.lo, s.hi), (t.lo, t.hi), g)).bind (step p (s.res, t.res, gres p s.res t.res)) with
  | none =>
    rw [e] at h
    cases h
  | some q =>
    rw [e] at h
    have st := two_steps hp hs ht e
    obtain ⟨⟨f1, f2⟩, ⟨s1, s2⟩, g1, g2⟩ := q
    obtain ⟨sr, sl, sh⟩ := s
    obtain ⟨tr, tl, th⟩ := t
    have h := Option.some.inj h
    injection h with _ h1 h2
    injection h1 with h3 h4
    injection h4 with h4 _
    injection h3 with _ h5 h6
    injection h4 with _ h7 h8
    dsimp only at h2 h5 h6 h7 h8
    subst h2 h5 h6 h7 h8
    exact st
theorem emp_join (h1 : emp (a, c) = false) (h2 : emp (a, d) = false) (h3 : emp (b, c) = false) (h4 : emp (b, d) = false) : emp (grt a b, lst c d) = false := by
  cases a <;> cases b <;> cases c <;> cases d <;> simp only [grt, lst, emp, decide_eq_false_iff_not] at * <;> (try split) <;> (try split) <;> omega
theorem emp_lt {u v : Option Int} (h : ∀ i j, u = some i → v = some j → i ≤ j) : emp (u, v) = false := by
  cases u with
  | none => rfl
  | some i =>
    cases v with
    | none => rfl
    | some j =>
      have := h i j rfl rfl
      exact decide_eq_false (by omega)
theorem emp_le {u v : Option Int} (h : emp (u, v) = false) {i j : Int} (hi : u = some i) (hj : v = some j) : i ≤ j := emp_none h hi hj
theorem pls_some {u v : Option Int} {i : Int} (h : pls u v = some i) : ∃ m n, u = some m ∧ v = some n ∧ i = m + n := by
  cases u with
  | none => cases h
  | some m =>
    cases v with
    | none => cases h
    | some n =>
      cases h
      exact ⟨m, n, rfl, rfl, rfl⟩
theorem mns_some' {u v : Option Int} {i : Int} (h : mns u v = some i) : ∃ m n, u = some m ∧ v = some n ∧ i = m - n := by
  cases u with
  | none => cases h
  | some m =>
    cases v with
    | none => cases h
    | some n =>
      cases h
      exact ⟨m, n, rfl, rfl, rfl⟩
structure Stb2 (p : Int) (r1 r2 f1 f2 s1 s2 g1 g2 : Option Int) : Prop where
  ef : emp (f1, f2) = false
  es : emp (s1, s2) = false
  eg : emp (g1, g2) = false
  rf : rnd p r1 (f1, f2) = (f1, f2)
  rs : rnd p r2 (s1, s2) = (s1, s2)
  rg : rnd p (gres p r1 r2) (g1, g2) = (g1, g2)
  c1 : grt f1 (mns s1 g2) = f1
  c2 : lst f2 (mns s2 g1) = f2
  c3 : grt s1 (pls f1 g1) = s1
  c4 : lst s2 (pls f2 g2) = s2
theorem Stb.two (h : Stb p (r1, r2, gres p r1 r2) ((f1, f2), (s1, s2), (g1, g2))) : Stb2 p r1 r2 f1 f2 s1 s2 g1 g2 := by
  obtain ⟨he, hr, hc⟩ := h
  simp only [anyE, Bool.or_eq_false_iff] at he
  obtain ⟨⟨ef, es⟩, eg⟩ := he
  exact ⟨ef, es, eg, congrArg (fun z : Q3 => z.1) hr, congrArg (fun z : Q3 => z.2.1) hr, congrArg (fun z : Q3 => z.2.2) hr,
    congrArg (fun z : Q3 => z.1.1) hc, congrArg (fun z : Q3 => z.1.2) hc, congrArg (fun z : Q3 => z.2.1.1) hc, congrArg (fun z : Q3 => z.2.1.2) hc⟩
/-- a first time has a second one -/
theorem mate0 (hp : 0 < p) (h1 : Res p r1) (h2 : Res p r2) (h : Stb2 p r1 r2 f1 f2 s1 s2 g1 g2) (w : r1 ≠ none ∨ r2 = none) (cx : Cl p r1 x) (bx : Bt (f1, f2) x) : ∃ y, M3 p r1 r2 ((f1, f2), (s1, s2), (g1, g2)) x y := by
  have lx : Lw (mns s1 g2) x := by
    have := bx.1
    dsimp only at this
    rw [← h.c1] at this
    exact (lw_grt.mp this).2
  have ux : Up (mns s2 g1) x := by
    have := bx.2
    dsimp only at this
    rw [← h.c2] at this
    exact (up_lst.mp this).2
  have he : emp (grt s1 (pls (some x) g1), lst s2 (pls (some x) g2)) = false := by
    refine emp_join h.es (emp_lt fun i j hi hj => ?_) (emp_lt fun i j hi hj => ?_) (emp_lt fun i j hi hj => ?_)
    · obtain ⟨m, n, e1, e2, e3⟩ := pls_some hj
      cases e1
      subst hi e2
      have := lx _ rfl
      omega
    · obtain ⟨m, n, e1, e2, e3⟩ := pls_some hi
      cases e1
      subst hj e2
      have := ux _ rfl
      omega
    · obtain ⟨m, n, e1, e2, e3⟩ := pls_some hi
      obtain ⟨m', n', e1', e2', e3'⟩ := pls_some hj
      cases e1
      cases e1'
      have := emp_le h.eg e2 e2'
      omega
  obtain ⟨y, ly, uy, cy⟩ := pick he h2 fun r0 hr0 => by
    obtain ⟨r, hr⟩ : ∃ r, r1 = some r := by
      cases r1 with
      | none =>
        rcases w with w | w
        · exact absurd rfl w
        · rw [w] at hr0
          cases hr0
      | some r => exact ⟨r, rfl⟩
    subst hr hr0
    obtain ⟨k1, k2⟩ := h2 r0 rfl
    have os := ofc_self k1 k2 h.rs
    have gm : (r0 - r) % p < p := Int.emod_lt_of_pos _ hp
    have og := ofc_self (Int.emod_nonneg _ (by omega)) gm h.rg
    have ox := ofc_some (cx r rfl)
    have e : (r + (r0 - r) % p) % p = r0 := by
      rw [Int.add_emod, Int.emod_emod, ← Int.add_emod, show r + (r0 - r) = r0 by omega]
      exact Int.emod_eq_of_lt k1 k2
    refine ⟨ofc_grt os.1 ?_, ofc_lst os.2 ?_⟩
    · have := ofc_pls ox og.1
      rw [e] at this
      exact this
    · have := ofc_pls ox og.2
      rw [e] at this
      exact this
  rw [lw_grt, lw_pls] at ly
  rw [up_lst, up_pls] at uy
  exact ⟨y, cx, cy, bx, ⟨ly.1, uy.1⟩, ly.2, uy.2⟩
/-- a second time has a first one -/
theorem mate1 (hp : 0 < p) (h : Stb2 p none r2 f1 f2 s1 s2 g1 g2) (cy : Cl p r2 y) (hy : Bt (s1, s2) y) : ∃ x, M3 p none r2 ((f1, f2), (s1, s2), (g1, g2)) x y := by
  have ly : Lw (pls f1 g1) y := by
    have := hy.1
    dsimp only at this
    rw [← h.c3] at this
    exact (lw_grt.mp this).2
  have uy : Up (pls f2 g2) y := by
    have := hy.2
    dsimp only at this
    rw [← h.c4] at this
    exact (up_lst.mp this).2
  have he : emp (grt f1 (mns (some y) g2), lst f2 (mns (some y) g1)) = false := by
    refine emp_join h.ef (emp_lt fun i j hi hj => ?_) (emp_lt fun i j hi hj => ?_) (emp_lt fun i j hi hj => ?_)
    · obtain ⟨m, n, e1, e2, e3⟩ := mns_some' hj
      cases e1
      subst hi e2
      have := ly _ rfl
      omega
    · obtain ⟨m, n, e1, e2, e3⟩ := mns_some' hi
      cases e1
      subst hj e2
      have := uy _ rfl
      omega
    · obtain ⟨m, n, e1, e2, e3⟩ := mns_some' hi
      obtain ⟨m', n', e1', e2', e3'⟩ := mns_some' hj
      cases e1
      cases e1'
      have := emp_le h.eg e2' e2
      omega
  obtain ⟨x, lx, ux, cx⟩ := pick (p := p) (r := none) he (fun _ h => nomatch h) (fun _ h => nomatch h)
  rw [lw_grt, lw_mns] at lx
  rw [up_lst, up_mns] at ux
  exact ⟨x, cx, cy, ⟨lx.1, ux.1⟩, hy, ux.2, lx.2⟩
/-- least first and least second time stand in one row -/
theorem corner {a c : Int} (hp : 0 < p) (h1 : Res p r1) (h2 : Res p r2) (h : Stb2 p r1 r2 (some a) f2 (some c) s2 g1 g2) : M3 p r1 r2 ((some a, f2), (some c, s2), (g1, g2)) a c ∧ ∀ x y, M3 p r1 r2 ((some a, f2), (some c, s2), (g1, g2)) x y → a ≤ x ∧ c ≤ y := by
  refine ⟨⟨fun i hi => ?_, fun i hi => ?_, ⟨lw_some.mpr (Int.le_refl _), fun i hi => ?_⟩, ⟨lw_some.mpr (Int.le_refl _), fun i hi => ?_⟩, fun i hi => ?_, fun i hi => ?_⟩, fun x y m => ⟨m.2.2.1.1 _ rfl, m.2.2.2.1.1 _ rfl⟩⟩
  · subst hi
    obtain ⟨k1, k2⟩ := h1 i rfl
    exact (ofc_self k1 k2 h.rf).1 a rfl
  · subst hi
    obtain ⟨k1, k2⟩ := h2 i rfl
    exact (ofc_self k1 k2 h.rs).1 c rfl
  · exact emp_le h.ef rfl hi
  · exact emp_le h.es rfl hi
  · have hi : g1 = some i := hi
    have e := h.c3
    subst hi
    have : Lw (grt (some c) (pls (some a) (some i))) c := by
      rw [e]
      exact lw_some.mpr (Int.le_refl _)
    have := (lw_grt.mp this).2 (a + i) rfl
    omega
  · have hi : g2 = some i := hi
    have e := h.c1
    subst hi
    have : Lw (grt (some a) (mns (some c) (some i))) a := by
      rw [e]
      exact lw_some.mpr (Int.le_refl _)
    have := (lw_grt.mp this).2 (c - i) rfl
    omega
theorem grt_is (h : a.isSome = true) : (grt a b).isSome = true := by
  cases a with
  | none => cases h
  | some i => cases b <;> rfl
theorem grt_is2 (h : b.isSome = true) : (grt a b).isSome = true := by
  cases b with
  | none => cases h
  | some i => cases a <;> rfl
theorem rnd_is {r : Option Int} {q : OO} (h : q.1.isSome = true) : (rnd p r q).1.isSome = true := by
  cases r with
  | none => exact h
  | some r =>
    show (q.1.map _).isSome = true
    rw [Option.isSome_map]
    exact h
theorem step_is {r : Option Int × Option Int × Option Int} {q' : Q3} (h : step p r q = some q') : (q.1.1.isSome = true → q'.1.1.isSome = true) ∧ (q.2.1.1.isSome = true → q'.2.1.1.isSome = true) := by
  obtain ⟨_, e, _, _⟩ := step_some h
  subst e
  exact ⟨fun h => grt_is (rnd_is h), fun h => grt_is (rnd_is h)⟩
/-- the normal zone of two times, its parts told -/
theorem norm_parts {vs : List PySem.Str} {s t : Rn.Sp3} {g : OO} {y : Z} (hp : 0 < p) (hs : Res p s.res) (ht : Res p t.res) (h : norm p ⟨vs, [s, t], g⟩ = some y) :
    ∃ (s' t' : Rn.Sp3) (g' : OO), y = ⟨vs, [s', t'], g'⟩ ∧ s'.res = s.res ∧ t'.res = t.res ∧ (s.lo.isSome = true → s'.lo.isSome = true) ∧ (t.lo.isSome = true → t'.lo.isSome = true) ∧ norm p y = some y ∧
      ∀ a c, M3 p s.res t.res ((s'.lo, s'.hi), (t'.lo, t'.hi), g') a c ↔ M3 p s.res t.res ((s.lo, s.hi), (t.lo, t.hi), g) a c := by
  have hn := (norm_spec (z := ⟨vs, [s, t], g⟩) hp (Nat.le_refl 2) (fun u hu => by
    rcases List.mem_cons.mp hu with e | hu
    · rw [e]; exact hs
    · rw [List.mem_singleton.mp hu]; exact ht)).2 y h
  have h : (tight p s t g).map (fun q => (⟨vs, [q.1, q.2.1], q.2.2⟩ : Z)) = some y := h
  unfold tight at h
  cases e : step p (s.res, t.res, gres p s.res t.res) ((s.lo, s.hi), (t.lo, t.hi), g) with
  | none =>
    rw [e] at h
    cases h
  | some q1 =>
    rw [e, Option.bind_some] at h
    cases e2 : step p (s.res, t.res, gres p s.res t.res) q1 with
    | none =>
      rw [e2] at h
      cases h
    | some q2 =>
      rw [e2] at h
      have h := Option.some.inj h
      subst h
      refine ⟨_, _, _, rfl, rfl, rfl, fun h => (step_is e2).1 ((step_is e).1 h), fun h => (step_is e2).2 ((step_is e).2 h), hn.self, fun a c => ?_⟩
      have := hn.rows [a, c]
      exact this
end
/-! ### the box -/
def boxz (p : Int) (z : Z) (n : Int) : Option Z := (norm p (narrow z 0 (some (0 - n), some n))).bind fun y => norm p (narrow y 1 (some (0 - n), some n))
theorem bt_box {lo hi : Option Int} {n x : Int} : Bt (grt lo (some (0 - n)), lst hi (some n)) x ↔ Bt (lo, hi) x ∧ 0 - n ≤ x ∧ x ≤ n := by
  unfold Bt
  dsimp only
  rw [lw_grt, up_lst, lw_some, up_some]
  constructor
  · rintro ⟨⟨h1, h2⟩, h3, h4⟩
    exact ⟨⟨h1, h3⟩, h2, h4⟩
  · rintro ⟨⟨h1, h3⟩, h2, h4⟩
    exact ⟨⟨h1, h2⟩, h3, h4⟩
theorem box_spec {p n : Int} {vs : List PySem.Str} {s t : Rn.Sp3} {g : OO} (hp : 0 < p) (hs : Res p s.res) (ht : Res p t.res) :
    (boxz p ⟨vs, [s, t], g⟩ n = none → ∀ x y, M3 p s.res t.res ((s.lo, s.hi), (t.lo, t.hi), g) x y → 0 - n ≤ x → x ≤ n → 0 - n ≤ y → y ≤ n → False) ∧
    ∀ b, boxz p ⟨vs, [s, t], g⟩ n = some b → ∃ (s' t' : Rn.Sp3) (g' : OO) (a c : Int), b = ⟨vs, [s', t'], g'⟩ ∧ s'.res = s.res ∧ t'.res = t.res ∧ s'.lo = some a ∧ t'.lo = some c ∧ norm p b = some b ∧
      ∀ x y, M3 p s.res t.res ((s'.lo, s'.hi), (t'.lo, t'.hi), g') x y ↔ (M3 p s.res t.res ((s.lo, s.hi), (t.lo, t.hi), g) x y ∧ (0 - n ≤ x ∧ x ≤ n) ∧ 0 - n ≤ y ∧ y ≤ n) := by
  obtain ⟨sr, sl, sh⟩ := s
  obtain ⟨tr, tl, th⟩ := t
  have e0 : narrow ⟨vs, [⟨sr, sl, sh⟩, ⟨tr, tl, th⟩], g⟩ 0 (some (0 - n), some n) = ⟨vs, [⟨sr, grt sl (some (0 - n)), lst sh (some n)⟩, ⟨tr, tl, th⟩], g⟩ := rfl
  have hm0 : ∀ x y, M3 p sr tr ((grt sl (some (0 - n)), lst sh (some n)), (tl, th), g) x y ↔ (M3 p sr tr ((sl, sh), (tl, th), g) x y ∧ 0 - n ≤ x ∧ x ≤ n) := fun x y => by
    unfold M3
    dsimp only
    rw [bt_box]
    constructor
    · rintro ⟨h1, h2, ⟨h3, h4⟩, h5⟩
      exact ⟨⟨h1, h2, h3, h5⟩, h4⟩
    · rintro ⟨⟨h1, h2, h3, h5⟩, h4⟩
      exact ⟨h1, h2, ⟨h3, h4⟩, h5⟩
  have hno := fun (s t : Rn.Sp3) (g : OO) (hs : Res p s.res) (ht : Res p t.res) => norm_spec (p := p) (z := ⟨vs, [s, t], g⟩) hp (Nat.le_refl 2) (fun u hu => by
    rcases List.mem_cons.mp hu with e | hu
    · rw [e]; exact hs
    · rw [List.mem_singleton.mp hu]; exact ht)
  unfold boxz
  rw [e0]
  cases c1 : norm p ⟨vs, [⟨sr, grt sl (some (0 - n)), lst sh (some n)⟩, ⟨tr, tl, th⟩], g⟩ with
  | none =>
    refine ⟨fun _ x y m x1 x2 y1 y2 => ?_, fun b hb => nomatch hb⟩
    exact (hno ⟨sr, grt sl (some (0 - n)), lst sh (some n)⟩ ⟨tr, tl, th⟩ g hs ht).1 c1 [x, y] ((hm0 x y).mpr ⟨m, x1, x2⟩)
  | some y1 =>
    obtain ⟨⟨r1, l1, h1⟩, ⟨r2, l2, h2⟩, g', rfl, k1, k2, i1, i2, sf, hm1⟩ := norm_parts (s := ⟨sr, grt sl (some (0 - n)), lst sh (some n)⟩) (t := ⟨tr, tl, th⟩) hp hs ht c1
    dsimp only at k1 k2 hm1 i1 i2
    subst k1 k2
    have e1 : narrow ⟨vs, [⟨r1, l1, h1⟩, ⟨r2, l2, h2⟩], g'⟩ 1 (some (0 - n), some n) = ⟨vs, [⟨r1, l1, h1⟩, ⟨r2, grt l2 (some (0 - n)), lst h2 (some n)⟩], g'⟩ := rfl
    have hm2 : ∀ x y, M3 p r1 r2 ((l1, h1), (grt l2 (some (0 - n)), lst h2 (some n)), g') x y ↔ (M3 p r1 r2 ((l1, h1), (l2, h2), g') x y ∧ 0 - n ≤ y ∧ y ≤ n) := fun x y => by
      unfold M3
      dsimp only
      rw [bt_box]
      constructor
      · rintro ⟨h1, h2, h3, ⟨h5, h4⟩, h6⟩
        exact ⟨⟨h1, h2, h3, h5, h6⟩, h4⟩
      · rintro ⟨⟨h1, h2, h3, h5, h6⟩, h4⟩
        exact ⟨h1, h2, h3, ⟨h5, h4⟩, h6⟩
    rw [Option.bind_some, e1]
    cases c2 : norm p ⟨vs, [⟨r1, l1, h1⟩, ⟨r2, grt l2 (some (0 - n)), lst h2 (some n)⟩], g'⟩ with
    | none =>
      refine ⟨fun _ x y m x1 x2 y1 y2 => ?_, fun b hb => nomatch hb⟩
      exact (hno ⟨r1, l1, h1⟩ ⟨r2, grt l2 (some (0 - n)), lst h2 (some n)⟩ g' hs ht).1 c2 [x, y] ((hm2 x y).mpr ⟨(hm1 x y).mpr ((hm0 x y).mpr ⟨m, x1, x2⟩), y1, y2⟩)
    | some b =>
      refine ⟨fun h => (nomatch h), fun b' hb => ?_⟩
      cases hb
      obtain ⟨⟨q1, m1, n1⟩, ⟨q2, m2, n2⟩, g2, rfl, j1, j2, v1, v2, sf2, hm3⟩ := norm_parts (s := ⟨r1, l1, h1⟩) (t := ⟨r2, grt l2 (some (0 - n)), lst h2 (some n)⟩) hp hs ht c2
      dsimp only at j1 j2 hm3 v1 v2
      subst j1 j2
      obtain ⟨a, ha⟩ := Option.isSome_iff_exists.mp (v1 (i1 (grt_is2 rfl)))
      obtain ⟨c, hc⟩ := Option.isSome_iff_exists.mp (v2 (grt_is2 rfl))
      refine ⟨_, _, _, a, c, rfl, rfl, rfl, ha, hc, sf2, fun x y => ?_⟩
      rw [hm3, hm2, hm1, hm0, and_assoc]
/-! ### the first of all -/
/-- the size of times -/
def sz : List Int → Int
  | [] => 0
  | t :: r => max (t.natAbs : Int) (sz r)
def lexLe : List Int → List Int → Prop
  | [], _ => True
  | _ :: _, [] => False
  | a :: r, b :: s => a < b ∨ (a = b ∧ lexLe r s)
structure First (p : Int) (z : Z) (ts : List Int) : Prop where
  mem : InT p z ts
  size : ∀ us, InT p z us → sz ts ≤ sz us
  lex : ∀ us, InT p z us → sz us = sz ts → lexLe ts us
theorem lex_anti : ∀ {a b : List Int}, a.length = b.length → lexLe a b → lexLe b a → a = b
  | [], [], _, _, _ => rfl
  | x :: a, y :: b, hl, h1, h2 => by
    have hl : a.length = b.length := by simpa using hl
    unfold lexLe at h1 h2
    rcases h1 with h1 | ⟨e, h1⟩
    · rcases h2 with h2 | ⟨e2, _⟩ <;> omega
    · rcases h2 with h2 | ⟨_, h2⟩
      · omega
      · rw [e, lex_anti hl h1 h2]
theorem in_len {p : Int} {z : Z} {ts : List Int} (h : InT p z ts) : ts.length = z.ss.length := by
  obtain ⟨vs, ss, g⟩ := z
  match ss, ts, h with
  | [], [], _ => rfl
  | [_], [_], _ => rfl
  | [_, _], [_, _], _ => rfl
theorem First.only {p : Int} {z : Z} {ts us : List Int} (h : First p z ts) (h' : First p z us) : ts = us := by
  have e : sz ts = sz us := Int.le_antisymm (h.size _ h'.mem) (h'.size _ h.mem)
  exact lex_anti ((in_len h.mem).trans (in_len h'.mem).symm) (h.lex _ h'.mem e.symm) (h'.lex _ h.mem e)
theorem First.rows {p : Int} {z y : Z} {ts : List Int} (h : First p z ts) (e : ∀ us, InT p y us ↔ InT p z us) : First p y ts :=
  ⟨(e ts).mpr h.mem, fun us hu => h.size us ((e us).mp hu), fun us hu => h.lex us ((e us).mp hu)⟩
theorem first_zero {p : Int} {vs : List PySem.Str} {g : OO} : First p ⟨vs, [], g⟩ [] := ⟨True.intro, fun us _ => by
  cases us with
  | nil => exact Int.le_refl _
  | cons a r => exact Int.le_trans (by omega : (0 : Int) ≤ (a.natAbs : Int)) (Int.le_max_left ..), fun _ _ _ => True.intro⟩
theorem first_one {p m : Int} {vs : List PySem.Str} {g : OO} {s : Rn.Sp3} (h : In1 p s m) (hl : ∀ y, In1 p s y → Rn.Before m y) : First p ⟨vs, [s], g⟩ [m] := by
  refine ⟨h, fun us hu => ?_, fun us hu e => ?_⟩
  · obtain ⟨x, rfl, c, b⟩ := in_one.mp hu
    have := hl x ⟨c, b⟩
    unfold Rn.Before at this
    simp only [sz]
    omega
  · obtain ⟨x, rfl, c, b⟩ := in_one.mp hu
    have := hl x ⟨c, b⟩
    unfold Rn.Before at this
    simp only [sz] at e
    simp only [lexLe]
    rcases Int.lt_trichotomy m x with q | q | q
    · exact .inl q
    · exact .inr ⟨q, True.intro⟩
    · exfalso
      omega
theorem sz_two {x y n : Int} : sz [x, y] ≤ n ↔ (0 - n ≤ x ∧ x ≤ n) ∧ 0 - n ≤ y ∧ y ≤ n := by
  simp only [sz]
  omega
theorem first_two {p n : Int} {vs : List PySem.Str} {s t : Rn.Sp3} {g : OO} {b : Z} (hp : 0 < p) (hs : Res p s.res) (ht : Res p t.res) (h1 : boxz p ⟨vs, [s, t], g⟩ (n - 1) = none) (h2 : boxz p ⟨vs, [s, t], g⟩ n = some b) :
    ∃ (s' t' : Rn.Sp3) (g' : OO) (a c : Int), b = ⟨vs, [s', t'], g'⟩ ∧ s'.lo = some a ∧ t'.lo = some c ∧ t'.res = t.res ∧ (rnd p t'.res (grt t'.lo (pls g'.1 (some a)), lst t'.hi (pls g'.2 (some a)))).1 = some c ∧ First p ⟨vs, [s, t], g⟩ [a, c] := by
  obtain ⟨⟨r1, l1, u1⟩, ⟨r2, l2, u2⟩, ⟨g1, g2⟩, a, c, rfl, k1, k2, ha, hc, sf, hm⟩ := (box_spec hp hs ht).2 b h2
  dsimp only at k1 k2 ha hc hm
  subst k1 k2 ha hc
  have st := (stb_of (s := ⟨s.res, some a, u1⟩) (t := ⟨t.res, some c, u2⟩) hp hs ht sf).two
  obtain ⟨hmem, hmin⟩ := corner hp hs ht st
  have hz := (hm a c).mp hmem
  have hle : sz [a, c] ≤ n := sz_two.mpr hz.2
  have hge : ∀ x y, M3 p s.res t.res ((s.lo, s.hi), (t.lo, t.hi), g) x y → n ≤ sz [x, y] := fun x y m => by
    rcases Int.lt_or_le (sz [x, y]) n with q | q
    · exfalso
      obtain ⟨⟨q1, q2⟩, q3, q4⟩ := sz_two.mp (show sz [x, y] ≤ n - 1 by omega)
      exact (box_spec hp hs ht).1 h1 x y m q1 q2 q3 q4
    · exact q
  have hsz : sz [a, c] = n := Int.le_antisymm hle (hge a c hz.1)
  refine ⟨_, _, _, a, c, rfl, rfl, rfl, rfl, ?_, hz.1, fun us hu => ?_, fun us hu e => ?_⟩
  · have e1 : grt (some c) (pls g1 (some a)) = some c := by
      have : pls g1 (some a) = pls (some a) g1 := by
        cases g1 with
        | none => rfl
        | some i => exact congrArg some (Int.add_comm _ _)
      rw [this]
      exact st.c3
    dsimp only
    rw [e1]
    have := st.rs
    cases hr : t.res with
    | none => rfl
    | some r =>
      rw [hr] at this
      exact congrArg Prod.fst this
  · obtain ⟨x, y, rfl, m⟩ := in_two.mp hu
    rw [hsz]
    exact hge x y m
  · obtain ⟨x, y, rfl, m⟩ := in_two.mp hu
    rw [hsz] at e
    obtain ⟨x1, y1⟩ := hmin x y ((hm x y).mpr ⟨m, sz_two.mp (Int.le_of_eq e)⟩)
    simp only [lexLe]
    rcases Int.lt_or_eq_of_le x1 with q | q
    · exact .inl q
    · refine .inr ⟨q, ?_⟩
      rcases Int.lt_or_eq_of_le y1 with w | w
      · exact .inl w
      · exact .inr ⟨w, True.intro⟩
end Zn
end

section
set_option maxHeartbeats 4000000
/-! EwLoose: the bounds of a normal zone are taken; a looser normal zone has more rows. -/
namespace Zn
open EW (OO)
section
variable {p : Int} {r r1 r2 f1 f2 s1 s2 g1 g2 : Option Int} {q : OO}
theorem rnd_cl (hr : Res p r) (h : rnd p r q = q) : (∀ a, q.1 = some a → Cl p r a) ∧ ∀ a, q.2 = some a → Cl p r a := by
  cases r with
  | none => exact ⟨fun a _ i e => (by cases e), fun a _ i e => (by cases e)⟩
  | some r0 =>
    obtain ⟨h0, h1⟩ := hr r0 rfl
    obtain ⟨o1, o2⟩ := ofc_self h0 h1 h
    exact ⟨fun a e i ei => by cases ei; exact o1 a e, fun a e i ei => by cases ei; exact o2 a e⟩
theorem low_of (hp : 0 < p) (hr : Res p r) (M : Int) : ∃ y, y ≤ M ∧ Cl p r y := by
  cases r with
  | none => exact ⟨M, Int.le_refl _, fun i e => by cases e⟩
  | some b =>
    obtain ⟨h0, h1⟩ := hr b rfl
    refine ⟨M - (M - b) % p, ?_, fun i e => ?_⟩
    · have := Int.emod_nonneg (M - b) (by omega : p ≠ 0)
      omega
    · cases e
      have e1 := Int.emod_add_mul_ediv (M - b) p
      have e2 : M - (M - b) % p = b + p * ((M - b) / p) := by omega
      rw [e2, Int.add_mul_emod_self_left]
      exact Int.emod_eq_of_lt h0 h1
theorem high_of (hp : 0 < p) (hr : Res p r) (M : Int) : ∃ y, M ≤ y ∧ Cl p r y := by
  cases r with
  | none => exact ⟨M, Int.le_refl _, fun i e => by cases e⟩
  | some b =>
    obtain ⟨h0, h1⟩ := hr b rfl
    refine ⟨M + (b - M) % p, ?_, fun i e => ?_⟩
    · have := Int.emod_nonneg (b - M) (by omega : p ≠ 0)
      omega
    · cases e
      have e1 := Int.emod_add_mul_ediv (b - M) p
      have e2 : M + (b - M) % p = b + p * (-((b - M) / p)) := by
        rw [Int.mul_neg]
        omega
      rw [e2, Int.add_mul_emod_self_left]
      exact Int.emod_eq_of_lt h0 h1
theorem bt_lo {a : Int} {u : Option Int} (h : emp (some a, u) = false) : Bt (some a, u) a := by
  refine ⟨lw_some.mpr (Int.le_refl _), fun i hi => ?_⟩
  exact emp_le h rfl hi
theorem bt_hi {a : Int} {u : Option Int} (h : emp (u, some a) = false) : Bt (u, some a) a := by
  refine ⟨fun i hi => ?_, up_some.mpr (Int.le_refl _)⟩
  exact emp_le h hi rfl
theorem grt_le {a b c : Int} (h : grt (some a) (some b) = some c) : b ≤ c := by
  simp only [grt] at h
  have h := Option.some.inj h
  split at h <;> omega
theorem lst_le {a b c : Int} (h : lst (some a) (some b) = some c) : c ≤ b := by
  simp only [lst] at h
  have h := Option.some.inj h
  split at h <;> omega
/-- the least bound of the first time is taken -/
theorem att1lo (hp : 0 < p) (h1 : Res p r1) (h2 : Res p r2) {a : Int} (h : Stb2 p r1 r2 (some a) f2 s1 s2 g1 g2) : ∃ y, M3 p r1 r2 ((some a, f2), (s1, s2), (g1, g2)) a y := by
  have ca := (rnd_cl h1 h.rf).1 a rfl
  have ba := bt_lo h.ef
  by_cases w : r1 ≠ none ∨ r2 = none
  · exact mate0 hp h1 h2 h w ca ba
  · cases s1 with
    | some c =>
      refine ⟨c, ca, (rnd_cl h2 h.rs).1 c rfl, ba, bt_lo h.es, fun i hi => ?_, fun i hi => ?_⟩
      · have hi : g1 = some i := hi
        have := h.c3
        rw [hi] at this
        have := grt_le this
        omega
      · have hi : g2 = some i := hi
        have := h.c1
        rw [hi] at this
        have := grt_le this
        omega
    | none =>
      have e1 : g1 = none := by
        cases e : g1 with
        | none => rfl
        | some i =>
          have := h.c3
          rw [e] at this
          cases this
      subst e1
      obtain ⟨y, hy, cy⟩ := low_of hp h2 (min (s2.getD 0) (a + g2.getD 0))
      refine ⟨y, ca, cy, ba, ⟨lw_none, fun i hi => ?_⟩, lw_none, fun i hi => ?_⟩
      · have hi : s2 = some i := hi
        rw [hi] at hy
        have : y ≤ min i (a + g2.getD 0) := hy
        omega
      · have hi : g2 = some i := hi
        rw [hi] at hy
        have : y ≤ min (s2.getD 0) (a + i) := hy
        omega
/-- the greatest bound of the first time is taken -/
theorem att1hi (hp : 0 < p) (h1 : Res p r1) (h2 : Res p r2) {a : Int} (h : Stb2 p r1 r2 f1 (some a) s1 s2 g1 g2) : ∃ y, M3 p r1 r2 ((f1, some a), (s1, s2), (g1, g2)) a y := by
  have ca := (rnd_cl h1 h.rf).2 a rfl
  have ba := bt_hi h.ef
  by_cases w : r1 ≠ none ∨ r2 = none
  · exact mate0 hp h1 h2 h w ca ba
  · cases s2 with
    | some c =>
      refine ⟨c, ca, (rnd_cl h2 h.rs).2 c rfl, ba, bt_hi h.es, fun i hi => ?_, fun i hi => ?_⟩
      · have hi : g1 = some i := hi
        have := h.c2
        rw [hi] at this
        have := lst_le this
        omega
      · have hi : g2 = some i := hi
        have := h.c4
        rw [hi] at this
        have := lst_le this
        omega
    | none =>
      have e1 : g2 = none := by
        cases e : g2 with
        | none => rfl
        | some i =>
          have := h.c4
          rw [e] at this
          cases this
      subst e1
      obtain ⟨y, hy, cy⟩ := high_of hp h2 (max (s1.getD 0) (a + g1.getD 0))
      refine ⟨y, ca, cy, ba, ⟨fun i hi => ?_, up_none⟩, fun i hi => ?_, up_none⟩
      · have hi : s1 = some i := hi
        rw [hi] at hy
        have : max i (a + g1.getD 0) ≤ y := hy
        omega
      · have hi : g1 = some i := hi
        rw [hi] at hy
        have : max (s1.getD 0) (a + i) ≤ y := hy
        omega
/-- the bounds of the second time, the first one free -/
theorem att2lo (hp : 0 < p) (h1 : Res p r1) (h2 : Res p r2) {c : Int} (h : Stb2 p r1 r2 none none (some c) s2 g1 g2) : ∃ x, M3 p r1 r2 ((none, none), (some c, s2), (g1, g2)) x c := by
  have e1 : g2 = none := by
    cases e : g2 with
    | none => rfl
    | some i =>
      have := h.c1
      rw [e] at this
      cases this
  subst e1
  obtain ⟨x, hx, cx⟩ := low_of hp h1 (c - g1.getD 0)
  refine ⟨x, cx, (rnd_cl h2 h.rs).1 c rfl, ⟨lw_none, up_none⟩, bt_lo h.es, fun i hi => ?_, up_none⟩
  have hi : g1 = some i := hi
  rw [hi] at hx
  have : x ≤ c - i := hx
  omega
theorem att2hi (hp : 0 < p) (h1 : Res p r1) (h2 : Res p r2) {c : Int} (h : Stb2 p r1 r2 none none s1 (some c) g1 g2) : ∃ x, M3 p r1 r2 ((none, none), (s1, some c), (g1, g2)) x c := by
  have e1 : g1 = none := by
    cases e : g1 with
    | none => rfl
    | some i =>
      have := h.c2
      rw [e] at this
      cases this
  subst e1
  obtain ⟨x, hx, cx⟩ := high_of hp h1 (c - g2.getD 0)
  refine ⟨x, cx, (rnd_cl h2 h.rs).2 c rfl, ⟨lw_none, up_none⟩, bt_hi h.es, lw_none, fun i hi => ?_⟩
  have hi : g2 = some i := hi
  rw [hi] at hx
  have : c - i ≤ x := hx
  omega
end
/-- a span with a looser bound -/
def looseS (s : Rn.Sp3) : Option Rn.Sp3 := match s.lo with
  | some l => some ⟨s.res, some (l - 1), s.hi⟩
  | none => match s.hi with
    | some h => some ⟨s.res, none, some (h + 1)⟩
    | none => none
def looseL : List Rn.Sp3 → Option (List Rn.Sp3)
  | [] => none
  | s :: r => match looseS s with
    | some t => some (t :: r)
    | none => (looseL r).map (s :: ·)
def looseZ (z : Z) : Option Z := (looseL z.ss).map fun ss => ⟨z.vs, ss, z.g⟩
theorem looseS_none {s : Rn.Sp3} (h : looseS s = none) : s.lo = none ∧ s.hi = none := by
  unfold looseS at h
  cases e : s.lo with
  | some l =>
    rw [e] at h
    cases h
  | none =>
    rw [e] at h
    cases e2 : s.hi with
    | some u =>
      rw [e2] at h
      cases h
    | none => exact ⟨rfl, rfl⟩
theorem looseS_some {s t : Rn.Sp3} (h : looseS s = some t) : t.res = s.res ∧ ((∃ l, s.lo = some l ∧ t.lo = some (l - 1) ∧ t.hi = s.hi) ∨ ∃ u, s.lo = none ∧ s.hi = some u ∧ t.lo = none ∧ t.hi = some (u + 1)) := by
  unfold looseS at h
  cases e : s.lo with
  | some l =>
    rw [e] at h
    cases h
    exact ⟨rfl, .inl ⟨l, rfl, rfl, rfl⟩⟩
  | none =>
    rw [e] at h
    cases e2 : s.hi with
    | some u =>
      rw [e2] at h
      cases h
      exact ⟨rfl, .inr ⟨u, rfl, rfl, rfl, rfl⟩⟩
    | none =>
      rw [e2] at h
      cases h
theorem loose_more {p : Int} {z z' : Z} (hp : 0 < p) (h2 : z.ss.length ≤ 2) (hr : ∀ s ∈ z.ss, Res p s.res) (h : looseZ z = some z') (hn : norm p z' = some z') : ∃ ts, InT p z' ts ∧ ¬ InT p z ts := by
  obtain ⟨vs, ss, g⟩ := z
  match ss, h2, hr with
  | [], _, _ => cases h
  | [s], _, hr =>
    have hs := hr s (by simp)
    cases e : looseS s with
    | none =>
      have h : (looseL [s]).map _ = some z' := h
      simp only [looseL, e] at h
      cases h
    | some t =>
      have h : (looseL [s]).map (fun ss => (⟨vs, ss, g⟩ : Z)) = some z' := h
      simp only [looseL, e] at h
      cases h
      obtain ⟨er, et⟩ := looseS_some e
      have hn : (if (empS (rndS p t) || false) = true then none else some (⟨vs, [rndS p t], (none, none)⟩ : Z)) = some ⟨vs, [t], g⟩ := hn
      have e0 : empS (rndS p t) = false := by
        cases c : empS (rndS p t) with
        | false => rfl
        | true =>
          rw [c] at hn
          cases hn
      rw [e0] at hn
      have hn := Option.some.inj hn
      injection hn with _ h1 h3
      injection h1 with h1 _
      rw [h1] at e0
      have er' : rnd p t.res (t.lo, t.hi) = (t.lo, t.hi) := Prod.ext (congrArg Rn.Sp3.lo h1) (congrArg Rn.Sp3.hi h1)
      have ht : Res p t.res := by rw [er]; exact hs
      have cl := rnd_cl ht er'
      rcases et with ⟨l, e1, e2, e3⟩ | ⟨u, e1, e2, e3, e4⟩
      · have b : Bt (t.lo, t.hi) (l - 1) := by
          have e0 : emp (t.lo, t.hi) = false := e0
          rw [e2] at e0 ⊢
          exact bt_lo e0
        refine ⟨[l - 1], in_one.mpr ⟨_, rfl, cl.1 _ e2, b⟩, fun q => ?_⟩
        obtain ⟨x, ex, _, bx⟩ := in_one.mp q
        cases ex
        have := bx.1 l e1
        omega
      · have b : Bt (t.lo, t.hi) (u + 1) := by
          have e0 : emp (t.lo, t.hi) = false := e0
          rw [e4] at e0 ⊢
          exact bt_hi e0
        refine ⟨[u + 1], in_one.mpr ⟨_, rfl, cl.2 _ e4, b⟩, fun q => ?_⟩
        obtain ⟨x, ex, _, bx⟩ := in_one.mp q
        cases ex
        have := bx.2 u e2
        omega
  | [s, t], _, hr =>
    have hs := hr s (by simp)
    have ht := hr t (by simp)
    cases e : looseS s with
    | some s' =>
      have h : (looseL [s, t]).map (fun ss => (⟨vs, ss, g⟩ : Z)) = some z' := h
      simp only [looseL, e] at h
      cases h
      obtain ⟨er, et⟩ := looseS_some e
      have hs' : Res p s'.res := by rw [er]; exact hs
      have st := (stb_of hp hs' ht hn).two
      rcases et with ⟨l, e1, e2, e3⟩ | ⟨u, e1, e2, e3, e4⟩
      · rw [e2] at st
        obtain ⟨y, m⟩ := att1lo hp hs' ht st
        rw [← e2] at m
        refine ⟨[l - 1, y], in_two.mpr ⟨_, _, rfl, m⟩, fun q => ?_⟩
        obtain ⟨a, b, ex, m'⟩ := in_two.mp q
        cases ex
        have := m'.2.2.1.1 l e1
        omega
      · rw [e4] at st
        obtain ⟨y, m⟩ := att1hi hp hs' ht st
        rw [← e4] at m
        refine ⟨[u + 1, y], in_two.mpr ⟨_, _, rfl, m⟩, fun q => ?_⟩
        obtain ⟨a, b, ex, m'⟩ := in_two.mp q
        cases ex
        have := m'.2.2.1.2 u e2
        omega
    | none =>
      obtain ⟨n1, n2⟩ := looseS_none e
      cases e' : looseS t with
      | none =>
        have h : (looseL [s, t]).map (fun ss => (⟨vs, ss, g⟩ : Z)) = some z' := h
        simp only [looseL, e, e'] at h
        cases h
      | some t' =>
        have h : (looseL [s, t]).map (fun ss => (⟨vs, ss, g⟩ : Z)) = some z' := h
        simp only [looseL, e, e'] at h
        cases h
        obtain ⟨er, et⟩ := looseS_some e'
        have ht' : Res p t'.res := by rw [er]; exact ht
        have st := (stb_of hp hs ht' hn).two
        rw [n1, n2] at st
        rcases et with ⟨l, e1, e2, e3⟩ | ⟨u, e1, e2, e3, e4⟩
        · rw [e2] at st
          obtain ⟨x, m⟩ := att2lo hp hs ht' st
          rw [← e2, ← n1] at m
          refine ⟨[x, l - 1], in_two.mpr ⟨_, _, rfl, by rw [n2] ; rw [n1] at m ⊢; exact m⟩, fun q => ?_⟩
          obtain ⟨a, b, ex, m'⟩ := in_two.mp q
          cases ex
          have := m'.2.2.2.1.1 l e1
          omega
        · rw [e4] at st
          obtain ⟨x, m⟩ := att2hi hp hs ht' st
          refine ⟨[x, u + 1], in_two.mpr ⟨_, _, rfl, by rw [n1, n2, e4]; exact m⟩, fun q => ?_⟩
          obtain ⟨a, b, ex, m'⟩ := in_two.mp q
          cases ex
          have := m'.2.2.2.1.2 u e2
          omega
end Zn
end

section
set_option maxHeartbeats 4000000
/-! EwBnd: each bound that a normal zone tells is taken; where it tells none there are times however far. -/
namespace Zn
open EW (OO)
variable {p : Int} {r1 r2 f1 f2 s1 s2 g1 g2 : Option Int}
/-- what is so of the bounds of a normal zone of two times -/
structure Sb (p : Int) (r1 r2 f1 f2 s1 s2 g1 g2 : Option Int) : Prop where
  ef : ∀ a b, f1 = some a → f2 = some b → a ≤ b
  es : ∀ a b, s1 = some a → s2 = some b → a ≤ b
  eg : ∀ a b, g1 = some a → g2 = some b → a ≤ b
  f1c : ∀ a, f1 = some a → Cl p r1 a
  f2c : ∀ a, f2 = some a → Cl p r1 a
  s1c : ∀ a, s1 = some a → Cl p r2 a
  s2c : ∀ a, s2 = some a → Cl p r2 a
  g1c : ∀ a, g1 = some a → Cl p (gres p r1 r2) a
  g2c : ∀ a, g2 = some a → Cl p (gres p r1 r2) a
  c1 : ∀ s g, s1 = some s → g2 = some g → ∃ f, f1 = some f ∧ s - g ≤ f
  c2 : ∀ s g, s2 = some s → g1 = some g → ∃ f, f2 = some f ∧ f ≤ s - g
  c3 : ∀ f g, f1 = some f → g1 = some g → ∃ s, s1 = some s ∧ f + g ≤ s
  c4 : ∀ f g, f2 = some f → g2 = some g → ∃ s, s2 = some s ∧ s ≤ f + g
  c5 : ∀ s f, s1 = some s → f2 = some f → ∃ g, g1 = some g ∧ s - f ≤ g
  c6 : ∀ s f, s2 = some s → f1 = some f → ∃ g, g2 = some g ∧ g ≤ s - f
theorem grt_fact {o b : Option Int} {i : Int} (h : grt o b = o) (e : b = some i) : ∃ j, o = some j ∧ i ≤ j := by
  rw [e] at h
  cases o with
  | none => cases h
  | some j => exact ⟨j, rfl, grt_le h⟩
theorem lst_fact {o b : Option Int} {i : Int} (h : lst o b = o) (e : b = some i) : ∃ j, o = some j ∧ j ≤ i := by
  rw [e] at h
  cases o with
  | none => cases h
  | some j => exact ⟨j, rfl, lst_le h⟩
theorem emp_fact {o b : Option Int} (h : emp (o, b) = false) : ∀ i j, o = some i → b = some j → i ≤ j := fun i j h1 h2 => emp_le h h1 h2
theorem Stb.sb (h1 : Res p r1) (h2 : Res p r2) (hp : 0 < p) (h : Stb p (r1, r2, gres p r1 r2) ((f1, f2), (s1, s2), (g1, g2))) : Sb p r1 r2 f1 f2 s1 s2 g1 g2 := by
  have hc := h
  obtain ⟨_, _, hc⟩ := hc
  have t := h.two
  have c5 : grt g1 (mns s1 f2) = g1 := congrArg (fun z : Q3 => z.2.2.1) hc
  have c6 : lst g2 (mns s2 f1) = g2 := congrArg (fun z : Q3 => z.2.2.2) hc
  have rg := rnd_cl (res_gres hp) t.rg
  refine ⟨emp_fact t.ef, emp_fact t.es, emp_fact t.eg, (rnd_cl h1 t.rf).1, (rnd_cl h1 t.rf).2, (rnd_cl h2 t.rs).1, (rnd_cl h2 t.rs).2, rg.1, rg.2, fun s g e1 e2 => ?_, fun s g e1 e2 => ?_, fun f g e1 e2 => ?_, fun f g e1 e2 => ?_, fun s f e1 e2 => ?_, fun s f e1 e2 => ?_⟩
  · exact grt_fact t.c1 (by rw [e1, e2]; rfl)
  · exact lst_fact t.c2 (by rw [e1, e2]; rfl)
  · exact grt_fact t.c3 (by rw [e1, e2]; rfl)
  · exact lst_fact t.c4 (by rw [e1, e2]; rfl)
  · exact grt_fact c5 (by rw [e1, e2]; rfl)
  · exact lst_fact c6 (by rw [e1, e2]; rfl)
/-- times, by the bounds told one by one -/
structure Row2 (p : Int) (r1 r2 f1 f2 s1 s2 g1 g2 : Option Int) (x y : Int) : Prop where
  cx : Cl p r1 x
  cy : Cl p r2 y
  a1 : ∀ i, f1 = some i → i ≤ x
  a2 : ∀ i, f2 = some i → x ≤ i
  b1 : ∀ i, s1 = some i → i ≤ y
  b2 : ∀ i, s2 = some i → y ≤ i
  d1 : ∀ i, g1 = some i → i ≤ y - x
  d2 : ∀ i, g2 = some i → y - x ≤ i
theorem row2_m3 {x y : Int} : Row2 p r1 r2 f1 f2 s1 s2 g1 g2 x y ↔ M3 p r1 r2 ((f1, f2), (s1, s2), (g1, g2)) x y :=
  ⟨fun h => ⟨h.cx, h.cy, ⟨h.a1, h.a2⟩, ⟨h.b1, h.b2⟩, h.d1, h.d2⟩, fun h => ⟨h.1, h.2.1, h.2.2.1.1, h.2.2.1.2, h.2.2.2.1.1, h.2.2.2.1.2, h.2.2.2.2.1, h.2.2.2.2.2⟩⟩
/-- .. turned about -/
def ng (o : Option Int) : Option Int := o.map fun i => -i
def nr (p : Int) (o : Option Int) : Option Int := o.map fun i => (-i) % p
theorem ng_some {o : Option Int} {i : Int} (h : ng o = some i) : o = some (-i) := by
  cases o with
  | none => cases h
  | some j =>
    have h : some (-j) = some i := h
    cases h
    rw [Int.neg_neg]
theorem ng_of {o : Option Int} {i : Int} (h : o = some i) : ng o = some (-i) := by
  rw [h]
  rfl
theorem neg_mod {p x y : Int} (h : x % p = y % p) : (-x) % p = (-y) % p := by
  have h1 := Int.emod_emod_of_dvd x (Int.dvd_refl p)
  have e : (x - y) % p = 0 := Int.emod_eq_emod_iff_emod_sub_eq_zero.mp h
  refine Int.emod_eq_emod_iff_emod_sub_eq_zero.mpr ?_
  have : -x - -y = -(x - y) := by omega
  rw [this]
  exact Int.emod_eq_zero_of_dvd (Int.dvd_neg.mpr (Int.dvd_of_emod_eq_zero e))
theorem cl_ng {r : Option Int} {x : Int} (hr : Res p r) : Cl p (nr p r) (-x) ↔ Cl p r x := by
  cases r with
  | none => exact ⟨(fun _ _ h => nomatch h), (fun _ _ h => nomatch h)⟩
  | some i =>
    obtain ⟨i0, i1⟩ := hr i rfl
    have ei : i % p = i := Int.emod_eq_of_lt i0 i1
    constructor
    · intro h j hj
      cases hj
      have h := h _ rfl
      have := neg_mod h
      rw [Int.neg_neg, Int.neg_neg] at this
      rw [this, ei]
    · intro h j hj
      have hj : some ((-i) % p) = some j := hj
      cases hj
      have h := h i rfl
      exact neg_mod (h.trans ei.symm)
theorem res_nr {r : Option Int} (hp : 0 < p) : Res p (nr p r) := fun i hi => by
  cases r with
  | none => cases hi
  | some j =>
    have hi : some ((-j) % p) = some i := hi
    cases hi
    exact ⟨Int.emod_nonneg _ (by omega), Int.emod_lt_of_pos _ hp⟩
theorem gres_nr (hp : 0 < p) : gres p (nr p r1) (nr p r2) = nr p (gres p r1 r2) := by
  cases r1 with
  | none => rfl
  | some a =>
    cases r2 with
    | none => rfl
    | some b =>
      show some (((-b) % p - (-a) % p) % p) = some ((-((b - a) % p)) % p)
      congr 1
      rw [← Int.sub_emod, neg_mod (y := b - a) (Int.emod_emod_of_dvd _ (Int.dvd_refl p))]
      congr 1
      omega
theorem Sb.neg (hp : 0 < p) (h1 : Res p r1) (h2 : Res p r2) (h : Sb p r1 r2 f1 f2 s1 s2 g1 g2) : Sb p (nr p r1) (nr p r2) (ng f2) (ng f1) (ng s2) (ng s1) (ng g2) (ng g1) := by
  have flip : ∀ {r : Option Int} {i : Int}, Res p r → Cl p r (-i) → Cl p (nr p r) i := fun {r i} hr hc => by
    have := (cl_ng hr).mpr hc
    rwa [Int.neg_neg] at this
  have hg := res_gres (p := p) (r1 := r1) (r2 := r2) hp
  refine ⟨fun a b e1 e2 => ?_, fun a b e1 e2 => ?_, fun a b e1 e2 => ?_, fun a e => flip h1 (h.f2c _ (ng_some e)), fun a e => flip h1 (h.f1c _ (ng_some e)), fun a e => flip h2 (h.s2c _ (ng_some e)), fun a e => flip h2 (h.s1c _ (ng_some e)),
    fun a e => by rw [gres_nr hp]; exact flip hg (h.g2c _ (ng_some e)), fun a e => by rw [gres_nr hp]; exact flip hg (h.g1c _ (ng_some e)), fun s g e1 e2 => ?_, fun s g e1 e2 => ?_, fun f g e1 e2 => ?_, fun f g e1 e2 => ?_, fun s f e1 e2 => ?_, fun s f e1 e2 => ?_⟩
  · have := h.ef _ _ (ng_some e2) (ng_some e1)
    omega
  · have := h.es _ _ (ng_some e2) (ng_some e1)
    omega
  · have := h.eg _ _ (ng_some e2) (ng_some e1)
    omega
  · obtain ⟨f, e, q⟩ := h.c2 _ _ (ng_some e1) (ng_some e2)
    exact ⟨-f, ng_of e, by omega⟩
  · obtain ⟨f, e, q⟩ := h.c1 _ _ (ng_some e1) (ng_some e2)
    exact ⟨-f, ng_of e, by omega⟩
  · obtain ⟨f, e, q⟩ := h.c4 _ _ (ng_some e1) (ng_some e2)
    exact ⟨-f, ng_of e, by omega⟩
  · obtain ⟨f, e, q⟩ := h.c3 _ _ (ng_some e1) (ng_some e2)
    exact ⟨-f, ng_of e, by omega⟩
  · obtain ⟨f, e, q⟩ := h.c6 _ _ (ng_some e1) (ng_some e2)
    exact ⟨-f, ng_of e, by omega⟩
  · obtain ⟨f, e, q⟩ := h.c5 _ _ (ng_some e1) (ng_some e2)
    exact ⟨-f, ng_of e, by omega⟩
theorem Row2.neg (h1 : Res p r1) (h2 : Res p r2) {x y : Int} (h : Row2 p (nr p r1) (nr p r2) (ng f2) (ng f1) (ng s2) (ng s1) (ng g2) (ng g1) x y) : Row2 p r1 r2 f1 f2 s1 s2 g1 g2 (-x) (-y) := by
  refine ⟨(cl_ng h1).mp (by rw [Int.neg_neg]; exact h.cx), (cl_ng h2).mp (by rw [Int.neg_neg]; exact h.cy), fun i e => ?_, fun i e => ?_, fun i e => ?_, fun i e => ?_, fun i e => ?_, fun i e => ?_⟩
  · have := h.a2 _ (ng_of e)
    omega
  · have := h.a1 _ (ng_of e)
    omega
  · have := h.b2 _ (ng_of e)
    omega
  · have := h.b1 _ (ng_of e)
    omega
  · have := h.d2 _ (ng_of e)
    omega
  · have := h.d1 _ (ng_of e)
    omega
/-! ### bounds are taken -/
theorem low3 (hp : 0 < p) {r : Option Int} (hr : Res p r) (a b : Option Int) (c : Int) : ∃ y, Cl p r y ∧ y ≤ c ∧ (∀ i, a = some i → y ≤ i) ∧ ∀ i, b = some i → y ≤ i := by
  obtain ⟨y, hy, cy⟩ := low_of hp hr (min c (min (a.getD c) (b.getD c)))
  refine ⟨y, cy, by omega, fun i e => ?_, fun i e => ?_⟩
  · rw [e] at hy
    have : y ≤ min c (min i (b.getD c)) := hy
    omega
  · rw [e] at hy
    have : y ≤ min c (min (a.getD c) i) := hy
    omega
theorem tk1 (hp : 0 < p) (h2 : Res p r2) (h : Sb p r1 r2 f1 f2 s1 s2 g1 g2) {a : Int} (e : f1 = some a) : ∃ y, Row2 p r1 r2 f1 f2 s1 s2 g1 g2 a y := by
  cases es : s1 with
  | some c =>
    refine ⟨c, h.f1c a e, h.s1c c es, fun i q => ?_, fun i q => h.ef a i e q, fun i q => ?_, fun i q => h.es c i es q, fun i q => ?_, fun i q => ?_⟩
    · rw [e] at q; cases q; exact Int.le_refl _
    · cases q; exact Int.le_refl _
    · obtain ⟨s, q1, q2⟩ := h.c3 a i e q
      rw [es] at q1; cases q1; omega
    · obtain ⟨f, q1, q2⟩ := h.c1 c i es q
      rw [e] at q1; cases q1; omega
  | none =>
    have eg : g1 = none := by
      cases q : g1 with
      | none => rfl
      | some i =>
        obtain ⟨s, q1, _⟩ := h.c3 a i e q
        rw [es] at q1; cases q1
    obtain ⟨y, cy, _, y1, y2⟩ := low3 hp h2 s2 (g2.map (· + a)) 0
    refine ⟨y, h.f1c a e, cy, fun i q => ?_, fun i q => h.ef a i e q, (fun i q => nomatch q), y1, fun i q => ?_, fun i q => ?_⟩
    · rw [e] at q; cases q; exact Int.le_refl _
    · rw [eg] at q; cases q
    · have := y2 (i + a) (by rw [q]; rfl)
      omega
theorem tk2 (hp : 0 < p) (h1 : Res p r1) (h : Sb p r1 r2 f1 f2 s1 s2 g1 g2) {c : Int} (e : s1 = some c) : ∃ x, Row2 p r1 r2 f1 f2 s1 s2 g1 g2 x c := by
  cases ef : f1 with
  | some a =>
    refine ⟨a, h.f1c a ef, h.s1c c e, fun i q => ?_, fun i q => h.ef a i ef q, fun i q => ?_, fun i q => h.es c i e q, fun i q => ?_, fun i q => ?_⟩
    · cases q; exact Int.le_refl _
    · rw [e] at q; cases q; exact Int.le_refl _
    · obtain ⟨s, q1, q2⟩ := h.c3 a i ef q
      rw [e] at q1; cases q1; omega
    · obtain ⟨f, q1, q2⟩ := h.c1 c i e q
      rw [ef] at q1; cases q1; omega
  | none =>
    have eg : g2 = none := by
      cases q : g2 with
      | none => rfl
      | some i =>
        obtain ⟨s, q1, _⟩ := h.c1 c i e q
        rw [ef] at q1; cases q1
    obtain ⟨x, cx, _, x1, x2⟩ := low3 hp h1 f2 (g1.map (c - ·)) 0
    refine ⟨x, cx, h.s1c c e, (fun i q => nomatch q), x1, fun i q => ?_, fun i q => h.es c i e q, fun i q => ?_, fun i q => ?_⟩
    · rw [e] at q; cases q; exact Int.le_refl _
    · have := x2 (c - i) (by rw [q]; rfl)
      omega
    · rw [eg] at q; cases q
theorem cl_add {a b x y : Int} (h1 : r1 = some a) (h2 : r2 = some b) (hr : Res p r2) (hx : Cl p r1 x) (hd : Cl p (gres p r1 r2) y) : Cl p r2 (x + y) := fun i hi => by
  rw [h2] at hi
  cases hi
  have e1 := hx a h1
  have e2 := hd ((b - a) % p) (by rw [h1, h2]; rfl)
  obtain ⟨b0, b1⟩ := hr b h2
  have hb : b % p = b := Int.emod_eq_of_lt b0 b1
  have q : (x + y) % p = (a + (b - a)) % p := by
    rw [Int.add_emod, e2]
    have ha : x % p = a % p := by rw [← e1, Int.emod_emod_of_dvd _ (Int.dvd_refl p)]
    rw [ha, ← Int.add_emod]
  rw [q, show a + (b - a) = b by omega, hb]
/-- the least difference -/
theorem tkg (hp : 0 < p) (h1 : Res p r1) (h2 : Res p r2) (h : Sb p r1 r2 f1 f2 s1 s2 g1 g2) {d : Int} (e : g1 = some d) : ∃ x, Row2 p r1 r2 f1 f2 s1 s2 g1 g2 x (x + d) := by
  have dd : ∀ x : Int, (∀ i, g1 = some i → i ≤ x + d - x) ∧ ∀ i, g2 = some i → x + d - x ≤ i := fun x => ⟨fun i q => by rw [e] at q; cases q; omega, fun i q => by have := h.eg d i e q; omega⟩
  by_cases w : r2 = none ∨ r1 ≠ none
  · have cy : ∀ x, Cl p r1 x → Cl p r2 (x + d) := fun x cx => by
      cases q2 : r2 with
      | none => exact fun i hi => nomatch hi
      | some b =>
        cases q1 : r1 with
        | none => exact absurd q1 (w.resolve_left (by rw [q2]; exact fun z => nomatch z))
        | some a =>
          rw [← q2]
          exact cl_add q1 q2 h2 cx (h.g1c d e)
    cases ef : f2 with
    | some b =>
      have cb := h.f2c b ef
      refine ⟨b, cb, cy b cb, fun i q => h.ef i b q ef, fun i q => by cases q; exact Int.le_refl _, fun i q => ?_, fun i q => ?_, (dd b).1, (dd b).2⟩
      · obtain ⟨g, q1, q2⟩ := h.c5 i b q ef
        rw [e] at q1; cases q1; omega
      · obtain ⟨f, q1, q2⟩ := h.c2 i d q e
        rw [ef] at q1; cases q1; omega
    | none =>
      have es : s2 = none := by
        cases q : s2 with
        | none => rfl
        | some i =>
          obtain ⟨s, q1, _⟩ := h.c2 i d q e
          rw [ef] at q1; cases q1
      obtain ⟨x, hx, cx⟩ := high_of hp h1 (max (f1.getD 0) (s1.getD 0 - d))
      refine ⟨x, cx, cy x cx, fun i q => ?_, (fun i q => nomatch q), fun i q => ?_, fun i q => ?_, (dd x).1, (dd x).2⟩
      · rw [q] at hx
        have : max i (s1.getD 0 - d) ≤ x := hx
        omega
      · rw [q] at hx
        have : max (f1.getD 0) (i - d) ≤ x := hx
        omega
      · rw [es] at q; cases q
  · have w1 : r1 = none := by
      cases q : r1 with
      | none => rfl
      | some a => exact absurd (.inr (by rw [q]; exact fun z => nomatch z)) w
    have cx : ∀ x, Cl p r1 x := fun x i hi => by rw [w1] at hi; cases hi
    cases es : s1 with
    | some c =>
      refine ⟨c - d, cx _, by rw [show c - d + d = c by omega]; exact h.s1c c es, fun i q => ?_, fun i q => ?_, fun i q => by cases q; omega, fun i q => ?_, (dd _).1, (dd _).2⟩
      · obtain ⟨s, q1, q2⟩ := h.c3 i d q e
        rw [es] at q1; cases q1; omega
      · obtain ⟨g, q1, q2⟩ := h.c5 c i es q
        rw [e] at q1; cases q1; omega
      · have := h.es c i es q
        omega
    | none =>
      have ef : f1 = none := by
        cases q : f1 with
        | none => rfl
        | some i =>
          obtain ⟨s, q1, _⟩ := h.c3 i d q e
          rw [es] at q1; cases q1
      obtain ⟨y, cy, _, y1, y2⟩ := low3 hp h2 s2 (f2.map (· + d)) 0
      refine ⟨y - d, cx _, by rw [show y - d + d = y by omega]; exact cy, fun i q => (by rw [ef] at q; cases q), fun i q => ?_, (fun i q => nomatch q), fun i q => ?_, (dd _).1, (dd _).2⟩
      · have := y2 (i + d) (by rw [q]; rfl)
        omega
      · have := y1 i q
        omega
end Zn
end

section
set_option maxHeartbeats 4000000
/-! EwBnd2: where a normal zone tells no bound there are times in each far window. -/
namespace Zn
open EW (OO)
variable {p M : Int} {r r1 r2 f1 f2 s1 s2 g1 g2 : Option Int}
/-- no bound is greater than this -/
def Mg (M : Int) (o : Option Int) : Prop := ∀ i, o = some i → -M ≤ i ∧ i ≤ M
theorem window (hp : 0 < p) (F ρ : Int) : ∃ x, F - p ≤ x ∧ x < F ∧ x % p = ρ % p := by
  have h1 := Int.emod_nonneg (F - 1 - ρ) (show p ≠ 0 by omega)
  have h2 := Int.emod_lt_of_pos (F - 1 - ρ) hp
  refine ⟨F - 1 - (F - 1 - ρ) % p, by omega, by omega, ?_⟩
  have h3 := Int.emod_add_mul_ediv (F - 1 - ρ) p
  have e : F - 1 - (F - 1 - ρ) % p = ρ + p * ((F - 1 - ρ) / p) := by omega
  rw [e, Int.add_mul_emod_self_left]
theorem windowC (hp : 0 < p) (hr : Res p r) (F : Int) : ∃ x, F - p ≤ x ∧ x < F ∧ Cl p r x := by
  cases r with
  | none =>
    obtain ⟨x, h1, h2, _⟩ := window hp F 0
    exact ⟨x, h1, h2, fun _ h => nomatch h⟩
  | some a =>
    obtain ⟨a0, a1⟩ := hr a rfl
    obtain ⟨x, h1, h2, h3⟩ := window hp F a
    exact ⟨x, h1, h2, fun i hi => by cases hi; rw [h3, Int.emod_eq_of_lt a0 a1]⟩
theorem pick0 (hp : 0 < p) (hr : Res p r) {a b : Option Int} (ha : Mg M a) (hb : Mg M b) (hM : 0 ≤ M) (e : ∀ i j, a = some i → b = some j → i ≤ j) (ca : ∀ i, a = some i → Cl p r i) (cb : ∀ i, b = some i → Cl p r i) :
    ∃ y, Cl p r y ∧ (∀ i, a = some i → i ≤ y) ∧ (∀ i, b = some i → y ≤ i) ∧ -(M + p) ≤ y ∧ y ≤ M + p := by
  cases h1 : a with
  | some i =>
    have := ha i h1
    exact ⟨i, ca i h1, fun j q => by cases q; exact Int.le_refl _, fun j q => e i j h1 q, by omega, by omega⟩
  | none =>
    cases h2 : b with
    | some j =>
      have := hb j h2
      exact ⟨j, cb j h2, (fun _ q => nomatch q), fun i q => by cases q; exact Int.le_refl _, by omega, by omega⟩
    | none =>
      cases r with
      | none => exact ⟨0, (fun _ h => nomatch h), (fun _ q => nomatch q), (fun _ q => nomatch q), by omega, by omega⟩
      | some x =>
        obtain ⟨x0, x1⟩ := hr x rfl
        exact ⟨x, fun i hi => by cases hi; exact Int.emod_eq_of_lt x0 x1, (fun _ q => nomatch q), (fun _ q => nomatch q), by omega, by omega⟩
structure Mgs (M : Int) (f1 f2 s1 s2 g1 g2 : Option Int) : Prop where
  m1 : Mg M f1
  m2 : Mg M f2
  m3 : Mg M s1
  m4 : Mg M s2
  m5 : Mg M g1
  m6 : Mg M g2
theorem mg_ng {o : Option Int} (h : Mg M o) : Mg M (ng o) := fun i hi => by
  have := h _ (ng_some hi)
  omega
theorem Mgs.neg (h : Mgs M f1 f2 s1 s2 g1 g2) : Mgs M (ng f2) (ng f1) (ng s2) (ng s1) (ng g2) (ng g1) := ⟨mg_ng h.m2, mg_ng h.m1, mg_ng h.m4, mg_ng h.m3, mg_ng h.m6, mg_ng h.m5⟩
theorem cl_sub {a b x y : Int} (h1 : r1 = some a) (h2 : r2 = some b) (hr : Res p r1) (hx : Cl p r2 x) (hd : Cl p (gres p r1 r2) y) : Cl p r1 (x - y) := fun i hi => by
  rw [h1] at hi
  cases hi
  have e1 := hx b h2
  have e2 := hd ((b - a) % p) (by rw [h1, h2]; rfl)
  obtain ⟨a0, a1⟩ := hr a h1
  have ha : a % p = a := Int.emod_eq_of_lt a0 a1
  have q : (x - y) % p = (b - (b - a)) % p := by
    rw [Int.sub_emod, e2]
    have hb : x % p = b % p := by rw [← e1, Int.emod_emod_of_dvd _ (Int.dvd_refl p)]
    rw [hb, ← Int.sub_emod]
  rw [q, show b - (b - a) = a by omega, ha]
theorem fr1 (hp : 0 < p) (h1 : Res p r1) (h2 : Res p r2) (hM : 0 ≤ M) (m : Mgs M f1 f2 s1 s2 g1 g2) (h : Sb p r1 r2 f1 f2 s1 s2 g1 g2) (e : f1 = none) {F : Int} (hF : F ≤ -(4 * M + 4 * p)) : ∃ x y, F - p ≤ x ∧ x < F ∧ Row2 p r1 r2 f1 f2 s1 s2 g1 g2 x y := by
  have up : ∀ (o : Option Int) (x : Int), Mg M o → x < -M → ∀ i, o = some i → x ≤ i := fun o x hm hx i hi => by
    have := hm i hi
    omega
  cases eg : g2 with
  | none =>
    obtain ⟨y, cy, y1, y2, y3, y4⟩ := pick0 hp h2 m.m3 m.m4 hM h.es h.s1c h.s2c
    obtain ⟨x, x1, x2, cx⟩ := windowC hp h1 F
    refine ⟨x, y, x1, x2, cx, cy, fun i q => (by rw [e] at q; cases q), up _ _ m.m2 (by omega), y1, y2, fun i q => ?_, (fun _ q => nomatch q)⟩
    have := m.m5 i q
    omega
  | some g =>
    have es : s1 = none := by
      cases q : s1 with
      | none => rfl
      | some i =>
        obtain ⟨f, q1, _⟩ := h.c1 i g q eg
        rw [e] at q1; cases q1
    have mg := m.m6 g eg
    have key : ∃ x, F - p ≤ x ∧ x < F ∧ Cl p r1 x ∧ Cl p r2 (x + g) := by
      cases q1 : r1 with
      | some a =>
        obtain ⟨x, x1, x2, cx⟩ := windowC hp h1 F
        refine ⟨x, x1, x2, by rw [← q1]; exact cx, ?_⟩
        cases q2 : r2 with
        | none => exact fun _ h => nomatch h
        | some b => rw [← q2]; exact cl_add q1 q2 h2 cx (h.g2c g eg)
      | none =>
        cases q2 : r2 with
        | none =>
          obtain ⟨x, x1, x2, _⟩ := window hp F 0
          exact ⟨x, x1, x2, (fun _ h => nomatch h), (fun _ h => nomatch h)⟩
        | some b =>
          obtain ⟨b0, b1⟩ := h2 b q2
          obtain ⟨x, x1, x2, x3⟩ := window hp F (b - g)
          refine ⟨x, x1, x2, (fun _ h => nomatch h), fun i hi => ?_⟩
          cases hi
          rw [Int.add_emod, x3, ← Int.add_emod, show b - g + g = b by omega, Int.emod_eq_of_lt b0 b1]
    obtain ⟨x, x1, x2, cx, cy⟩ := key
    refine ⟨x, x + g, x1, x2, cx, cy, fun i q => (by rw [e] at q; cases q), up _ _ m.m2 (by omega), fun i q => (by rw [es] at q; cases q), up _ _ m.m4 (by omega), fun i q => ?_, fun i q => ?_⟩
    · have := h.eg i g q eg
      omega
    · cases q
      omega
theorem fr2 (hp : 0 < p) (h1 : Res p r1) (h2 : Res p r2) (hM : 0 ≤ M) (m : Mgs M f1 f2 s1 s2 g1 g2) (h : Sb p r1 r2 f1 f2 s1 s2 g1 g2) (e : s1 = none) {F : Int} (hF : F ≤ -(4 * M + 4 * p)) : ∃ x y, F - p ≤ y ∧ y < F ∧ Row2 p r1 r2 f1 f2 s1 s2 g1 g2 x y := by
  have up : ∀ (o : Option Int) (x : Int), Mg M o → x < -M → ∀ i, o = some i → x ≤ i := fun o x hm hx i hi => by
    have := hm i hi
    omega
  cases eg : g1 with
  | none =>
    obtain ⟨x, cx, x1, x2, x3, x4⟩ := pick0 hp h1 m.m1 m.m2 hM h.ef h.f1c h.f2c
    obtain ⟨y, y1, y2, cy⟩ := windowC hp h2 F
    refine ⟨x, y, y1, y2, cx, cy, x1, x2, fun i q => (by rw [e] at q; cases q), up _ _ m.m4 (by omega), (fun _ q => nomatch q), fun i q => ?_⟩
    have := m.m6 i q
    omega
  | some g =>
    have ef : f1 = none := by
      cases q : f1 with
      | none => rfl
      | some i =>
        obtain ⟨s, q1, _⟩ := h.c3 i g q eg
        rw [e] at q1; cases q1
    have mg := m.m5 g eg
    have key : ∃ y, F - p ≤ y ∧ y < F ∧ Cl p r2 y ∧ Cl p r1 (y - g) := by
      cases q2 : r2 with
      | some b =>
        obtain ⟨y, y1, y2, cy⟩ := windowC hp h2 F
        refine ⟨y, y1, y2, by rw [← q2]; exact cy, ?_⟩
        cases q1 : r1 with
        | none => exact fun _ h => nomatch h
        | some a => rw [← q1]; exact cl_sub q1 q2 h1 cy (h.g1c g eg)
      | none =>
        cases q1 : r1 with
        | none =>
          obtain ⟨y, y1, y2, _⟩ := window hp F 0
          exact ⟨y, y1, y2, (fun _ h => nomatch h), (fun _ h => nomatch h)⟩
        | some a =>
          obtain ⟨a0, a1⟩ := h1 a q1
          obtain ⟨y, y1, y2, y3⟩ := window hp F (a + g)
          refine ⟨y, y1, y2, (fun _ h => nomatch h), fun i hi => ?_⟩
          cases hi
          rw [Int.sub_emod, y3, ← Int.sub_emod, show a + g - g = a by omega, Int.emod_eq_of_lt a0 a1]
    obtain ⟨y, y1, y2, cy, cx⟩ := key
    refine ⟨y - g, y, y1, y2, cx, cy, fun i q => (by rw [ef] at q; cases q), up _ _ m.m2 (by omega), fun i q => (by rw [e] at q; cases q), up _ _ m.m4 (by omega), fun i q => ?_, fun i q => ?_⟩
    · cases q
      omega
    · have := h.eg g i eg q
      omega
theorem frg (hp : 0 < p) (h1 : Res p r1) (h2 : Res p r2) (hM : 0 ≤ M) (m : Mgs M f1 f2 s1 s2 g1 g2) (h : Sb p r1 r2 f1 f2 s1 s2 g1 g2) (e : g1 = none) {F : Int} (hF : F ≤ -(4 * M + 4 * p)) : ∃ x y, F - p ≤ y - x ∧ y - x < F ∧ Row2 p r1 r2 f1 f2 s1 s2 g1 g2 x y := by
  have up : ∀ (o : Option Int) (x : Int), Mg M o → x < -M → ∀ i, o = some i → x ≤ i := fun o x hm hx i hi => by
    have := hm i hi
    omega
  cases ef : f2 with
  | none =>
    obtain ⟨y, cy, y1, y2, y3, y4⟩ := pick0 hp h2 m.m3 m.m4 hM h.es h.s1c h.s2c
    have key : ∃ d, F - p ≤ d ∧ d < F ∧ Cl p r1 (y - d) := by
      cases q1 : r1 with
      | none =>
        obtain ⟨d, d1, d2, _⟩ := window hp F 0
        exact ⟨d, d1, d2, fun _ h => nomatch h⟩
      | some a =>
        obtain ⟨a0, a1⟩ := h1 a q1
        obtain ⟨d, d1, d2, d3⟩ := window hp F (y - a)
        refine ⟨d, d1, d2, fun i hi => ?_⟩
        cases hi
        rw [Int.sub_emod, d3, ← Int.sub_emod, show y - (y - a) = a by omega, Int.emod_eq_of_lt a0 a1]
    obtain ⟨d, d1, d2, cx⟩ := key
    refine ⟨y - d, y, by omega, by omega, cx, cy, fun i q => ?_, (fun _ q => nomatch q), y1, y2, fun i q => (by rw [e] at q; cases q), fun i q => ?_⟩
    · have := m.m1 i q
      omega
    · have := m.m6 i q
      omega
  | some b =>
    have es : s1 = none := by
      cases q : s1 with
      | none => rfl
      | some i =>
        obtain ⟨g, q1, _⟩ := h.c5 i b q ef
        rw [e] at q1; cases q1
    obtain ⟨x, cx, x1, x2, x3, x4⟩ := pick0 hp h1 m.m1 m.m2 hM h.ef h.f1c h.f2c
    have key : ∃ d, F - p ≤ d ∧ d < F ∧ Cl p r2 (x + d) := by
      cases q2 : r2 with
      | none =>
        obtain ⟨d, d1, d2, _⟩ := window hp F 0
        exact ⟨d, d1, d2, fun _ h => nomatch h⟩
      | some c =>
        obtain ⟨c0, c1⟩ := h2 c q2
        obtain ⟨d, d1, d2, d3⟩ := window hp F (c - x)
        refine ⟨d, d1, d2, fun i hi => ?_⟩
        cases hi
        rw [Int.add_emod, d3, ← Int.add_emod, show x + (c - x) = c by omega, Int.emod_eq_of_lt c0 c1]
    obtain ⟨d, d1, d2, cy⟩ := key
    refine ⟨x, x + d, by omega, by omega, cx, cy, x1, fun i q => x2 i (by rw [ef]; exact q), fun i q => (by rw [es] at q; cases q), up _ _ m.m4 (by omega), fun i q => (by rw [e] at q; cases q), fun i q => ?_⟩
    have := m.m6 i q
    omega
end Zn
end

section
set_option maxHeartbeats 4000000
/-! EwBnd3: what is told of the bounds of a zone's normal one. -/
namespace Zn
open EW (OO)
variable {p M F : Int} {r r1 r2 f1 f2 s1 s2 g1 g2 : Option Int}
/-- a told bound is the least; where none is told there is one in the far window -/
structure Bd (p F : Int) (has : Int → Prop) (o : Option Int) : Prop where
  no : o = none → ∃ m, F - 2 * p ≤ m ∧ m < F ∧ has m
  yes : ∀ t, o = some t → has t ∧ ∀ m, m < t → ¬ has m
structure PairOk (p F : Int) (has : Int → Prop) (q : OO) : Prop where
  lo : Bd p F has q.1
  hi : Bd p F (fun m => has (-m)) (ng q.2)
theorem ng_none {o : Option Int} (h : ng o = none) : o = none := by
  cases o with
  | none => rfl
  | some i => cases h
theorem ok1 (hp : 0 < p) (h1 : Res p r1) (h2 : Res p r2) (hM : 0 ≤ M) (m : Mgs M f1 f2 s1 s2 g1 g2) (h : Sb p r1 r2 f1 f2 s1 s2 g1 g2) (hF : F ≤ -(4 * M + 4 * p)) : PairOk p F (fun x => ∃ y, Row2 p r1 r2 f1 f2 s1 s2 g1 g2 x y) (f1, f2) := by
  refine ⟨⟨fun e => ?_, fun t e => ⟨tk1 hp h2 h e, ?_⟩⟩, ⟨fun e => ?_, fun t e => ⟨?_, ?_⟩⟩⟩
  · obtain ⟨x, y, a, b, c⟩ := fr1 hp h1 h2 hM m h e hF
    exact ⟨x, by omega, b, y, c⟩
  · rintro n hn ⟨y, c⟩
    have := c.a1 t e
    omega
  · obtain ⟨x, y, a, b, c⟩ := fr1 hp (res_nr (r := r1) hp) (res_nr (r := r2) hp) hM m.neg (h.neg hp h1 h2) e hF
    exact ⟨x, by omega, b, -y, c.neg h1 h2⟩
  · obtain ⟨y, c⟩ := tk1 hp (res_nr (r := r2) hp) (h.neg hp h1 h2) e
    exact ⟨-y, c.neg h1 h2⟩
  · rintro n hn ⟨y, c⟩
    have := c.a2 _ (ng_some e)
    omega
theorem ok2 (hp : 0 < p) (h1 : Res p r1) (h2 : Res p r2) (hM : 0 ≤ M) (m : Mgs M f1 f2 s1 s2 g1 g2) (h : Sb p r1 r2 f1 f2 s1 s2 g1 g2) (hF : F ≤ -(4 * M + 4 * p)) : PairOk p F (fun y => ∃ x, Row2 p r1 r2 f1 f2 s1 s2 g1 g2 x y) (s1, s2) := by
  refine ⟨⟨fun e => ?_, fun t e => ⟨tk2 hp h1 h e, ?_⟩⟩, ⟨fun e => ?_, fun t e => ⟨?_, ?_⟩⟩⟩
  · obtain ⟨x, y, a, b, c⟩ := fr2 hp h1 h2 hM m h e hF
    exact ⟨y, by omega, b, x, c⟩
  · rintro n hn ⟨y, c⟩
    have := c.b1 t e
    omega
  · obtain ⟨x, y, a, b, c⟩ := fr2 hp (res_nr (r := r1) hp) (res_nr (r := r2) hp) hM m.neg (h.neg hp h1 h2) e hF
    exact ⟨y, by omega, b, -x, c.neg h1 h2⟩
  · obtain ⟨x, c⟩ := tk2 hp (res_nr (r := r1) hp) (h.neg hp h1 h2) e
    exact ⟨-x, c.neg h1 h2⟩
  · rintro n hn ⟨y, c⟩
    have := c.b2 _ (ng_some e)
    omega
theorem okg (hp : 0 < p) (h1 : Res p r1) (h2 : Res p r2) (hM : 0 ≤ M) (m : Mgs M f1 f2 s1 s2 g1 g2) (h : Sb p r1 r2 f1 f2 s1 s2 g1 g2) (hF : F ≤ -(4 * M + 4 * p)) : PairOk p F (fun d => ∃ x y, Row2 p r1 r2 f1 f2 s1 s2 g1 g2 x y ∧ y - x = d) (g1, g2) := by
  refine ⟨⟨fun e => ?_, fun t e => ⟨?_, ?_⟩⟩, ⟨fun e => ?_, fun t e => ⟨?_, ?_⟩⟩⟩
  · obtain ⟨x, y, a, b, c⟩ := frg hp h1 h2 hM m h e hF
    exact ⟨y - x, by omega, b, x, y, c, rfl⟩
  · obtain ⟨x, c⟩ := tkg hp h1 h2 h e
    exact ⟨x, _, c, by omega⟩
  · rintro n hn ⟨x, y, c, q⟩
    have := c.d1 t e
    omega
  · obtain ⟨x, y, a, b, c⟩ := frg hp (res_nr (r := r1) hp) (res_nr (r := r2) hp) hM m.neg (h.neg hp h1 h2) e hF
    exact ⟨y - x, by omega, b, -x, -y, c.neg h1 h2, by omega⟩
  · obtain ⟨x, c⟩ := tkg hp (res_nr (r := r1) hp) (res_nr (r := r2) hp) (h.neg hp h1 h2) e
    exact ⟨-x, _, c.neg h1 h2, by omega⟩
  · rintro n hn ⟨x, y, c, q⟩
    have := c.d2 _ (ng_some e)
    omega
theorem ok0 (hp : 0 < p) (hr : Res p r) (m1 : Mg M f1) (m2 : Mg M f2) (e0 : emp (f1, f2) = false) (er : rnd p r (f1, f2) = (f1, f2)) (hM : 0 ≤ M) (hF : F ≤ -(4 * M + 4 * p)) : PairOk p F (fun x => Cl p r x ∧ Bt (f1, f2) x) (f1, f2) := by
  obtain ⟨c1, c2⟩ := rnd_cl hr er
  have ef := emp_fact e0
  refine ⟨⟨fun e => ?_, fun t e => ⟨⟨c1 t e, fun i q => ?_, fun i q => ef t i e q⟩, ?_⟩⟩, ⟨fun e => ?_, fun t e => ⟨⟨c2 _ (ng_some e), fun i q => ef i _ q (ng_some e), fun i q => ?_⟩, ?_⟩⟩⟩
  · obtain ⟨x, a, b, c⟩ := windowC hp hr F
    refine ⟨x, by omega, b, c, fun i q => ?_, fun i q => ?_⟩
    · have e : f1 = none := e
      rw [e] at q; cases q
    · have := m2 i q
      omega
  · have e : f1 = some t := e
    have q : f1 = some i := q
    rw [e] at q; cases q; exact Int.le_refl _
  · rintro n hn ⟨_, b⟩
    have := b.1 t e
    omega
  · obtain ⟨x, a, b, c⟩ := windowC hp (res_nr (r := r) hp) F
    refine ⟨x, by omega, b, (cl_ng hr).mp (by rw [Int.neg_neg]; exact c), fun i q => ?_, fun i q => ?_⟩
    · have := m1 i q
      omega
    · have q : f2 = some i := q
      have e : f2 = none := ng_none e
      rw [e] at q; cases q
  · have q : f2 = some i := q
    have e := ng_some e
    have e : f2 = some (-t) := e
    rw [e] at q; cases q; exact Int.le_refl _
  · rintro n hn ⟨_, b⟩
    have := b.2 _ (ng_some e)
    omega
/-! ### how great the bounds of a normal zone are -/
theorem Mg.mono {o : Option Int} {N : Int} (h : Mg M o) (l : M ≤ N) : Mg N o := fun i e => by
  have := h i e
  omega
theorem mg_none : Mg M none := fun _ h => nomatch h
theorem mg_grt {a b : Option Int} (h1 : Mg M a) (h2 : Mg M b) : Mg M (grt a b) := fun i e => by
  rcases grt_or e with e | e
  · exact h1 i e
  · exact h2 i e
theorem mg_lst {a b : Option Int} (h1 : Mg M a) (h2 : Mg M b) : Mg M (lst a b) := fun i e => by
  rcases lst_or e with e | e
  · exact h1 i e
  · exact h2 i e
theorem mg_mns {a b : Option Int} (h1 : Mg M a) (h2 : Mg M b) : Mg (2 * M) (mns a b) := fun i e => by
  obtain ⟨u, v, q1, q2, rfl⟩ := mns_some e
  have := h1 u q1
  have := h2 v q2
  omega
theorem mg_pls {a b : Option Int} (h1 : Mg M a) (h2 : Mg M b) : Mg (2 * M) (pls a b) := fun i e => by
  cases a with
  | none => cases e
  | some u =>
    cases b with
    | none => cases e
    | some v =>
      have e : some (u + v) = some i := e
      cases e
      have := h1 u rfl
      have := h2 v rfl
      omega
theorem mg_up (hp : 0 < p) {o : Option Int} {x : Int} (h : Mg M o) : Mg (M + p) (o.map (Rn.upTo p x)) := fun i e => by
  cases o with
  | none => cases e
  | some u =>
    have e : some (Rn.upTo p x u) = some i := e
    cases e
    have := h u rfl
    have q1 := Int.emod_nonneg (x - u) (show p ≠ 0 by omega)
    have q2 := Int.emod_lt_of_pos (x - u) hp
    unfold Rn.upTo
    omega
theorem mg_down (hp : 0 < p) {o : Option Int} {x : Int} (h : Mg M o) : Mg (M + p) (o.map (Rn.downTo p x)) := fun i e => by
  cases o with
  | none => cases e
  | some u =>
    have e : some (Rn.downTo p x u) = some i := e
    cases e
    have := h u rfl
    have q1 := Int.emod_nonneg (u - x) (show p ≠ 0 by omega)
    have q2 := Int.emod_lt_of_pos (u - x) hp
    unfold Rn.downTo
    omega
theorem mg_rnd (hp : 0 < p) {q : OO} (h1 : Mg M q.1) (h2 : Mg M q.2) : Mg (M + p) (rnd p r q).1 ∧ Mg (M + p) (rnd p r q).2 := by
  cases r with
  | none => exact ⟨h1.mono (by omega), h2.mono (by omega)⟩
  | some x => exact ⟨mg_up hp h1, mg_down hp h2⟩
def MgQ (M : Int) (q : Q3) : Prop := Mgs M q.1.1 q.1.2 q.2.1.1 q.2.1.2 q.2.2.1 q.2.2.2
theorem mgq_rnd3 (hp : 0 < p) {rr : Option Int × Option Int × Option Int} {q : Q3} (h : MgQ M q) : MgQ (M + p) (rnd3 p rr q) :=
  ⟨(mg_rnd hp h.m1 h.m2).1, (mg_rnd hp h.m1 h.m2).2, (mg_rnd hp h.m3 h.m4).1, (mg_rnd hp h.m3 h.m4).2, (mg_rnd hp h.m5 h.m6).1, (mg_rnd hp h.m5 h.m6).2⟩
theorem mgq_clo (hM : 0 ≤ M) {q : Q3} (h : MgQ M q) : MgQ (2 * M) (clo q) := by
  have u : ∀ {o : Option Int}, Mg M o → Mg (2 * M) o := fun h => h.mono (by omega)
  exact ⟨mg_grt (u h.m1) (mg_mns h.m3 h.m6), mg_lst (u h.m2) (mg_mns h.m4 h.m5), mg_grt (u h.m3) (mg_pls h.m1 h.m5), mg_lst (u h.m4) (mg_pls h.m2 h.m6), mg_grt (u h.m5) (mg_mns h.m3 h.m2), mg_lst (u h.m6) (mg_mns h.m4 h.m1)⟩
theorem mgq_step (hp : 0 < p) (hM : 0 ≤ M) {rr : Option Int × Option Int × Option Int} {q q' : Q3} (h : MgQ M q) (e : step p rr q = some q') : MgQ (2 * (M + p)) q' := by
  obtain ⟨_, e2, _⟩ := step_some e
  rw [e2]
  exact mgq_clo (by omega) (mgq_rnd3 hp h)
structure ZMg (M : Int) (z : Z) : Prop where
  ss : ∀ s ∈ z.ss, Mg M s.lo ∧ Mg M s.hi
  g1 : Mg M z.g.1
  g2 : Mg M z.g.2
/-! ### what is so of a zone with its normal one -/
def hasP (p : Int) (z : Z) (i : Nat) (x : Int) : Prop := ∃ ts, InT p z ts ∧ ts[i]? = some x
def hasG (p : Int) (z : Z) (d : Int) : Prop := ∃ x y, InT p z [x, y] ∧ y - x = d
theorem Bd.congr {has has' : Int → Prop} {o : Option Int} (h : Bd p F has o) (e : ∀ x, has x ↔ has' x) : Bd p F has' o := by
  have : has = has' := funext fun x => propext (e x)
  rwa [← this]
theorem PairOk.congr {has has' : Int → Prop} {q : OO} (h : PairOk p F has q) (e : ∀ x, has x ↔ has' x) : PairOk p F has' q := by
  have : has = has' := funext fun x => propext (e x)
  rwa [← this]
theorem told {z y : Z} (hp : 0 < p) (l2 : z.ss.length ≤ 2) (hr : ∀ s ∈ z.ss, Res p s.res) (hM : 0 ≤ M) (m : ZMg M z) (h : norm p z = some y) (hF : F ≤ -(16 * M + 30 * p)) :
    (∀ i s, y.ss[i]? = some s → PairOk p F (hasP p z i) (s.lo, s.hi)) ∧ (z.ss.length = 2 → PairOk p F (hasG p z) y.g) ∧ (z.ss.length < 2 → y.g = (none, none)) := by
  have rows := ((norm_spec hp l2 hr).2 y h).rows
  obtain ⟨vs, ss, g⟩ := z
  match ss, l2, hr with
  | [], _, _ =>
    cases h
    exact ⟨fun i s e => by simp at e, fun e => by simp at e, fun _ => rfl⟩
  | [s], _, hr =>
    have hs := hr s (by simp)
    have e0 : empS (rndS p s) = false := by
      cases c : empS (rndS p s) with
      | false => rfl
      | true =>
        have h : (if (empS (rndS p s) || false) = true then none else some (⟨vs, [rndS p s], (none, none)⟩ : Z)) = some y := h
        rw [c] at h
        cases h
    have h : (if (empS (rndS p s) || false) = true then none else some (⟨vs, [rndS p s], (none, none)⟩ : Z)) = some y := h
    rw [e0] at h
    have h := Option.some.inj h
    subst h
    refine ⟨fun i t e => ?_, fun e => by simp at e, fun _ => rfl⟩
    match i, e with
    | 0, e =>
      cases e
      have hm := m.ss s (by simp)
      obtain ⟨m1, m2⟩ := mg_rnd (r := s.res) hp (q := (s.lo, s.hi)) hm.1 hm.2
      have er : rnd p s.res (rnd p s.res (s.lo, s.hi)) = rnd p s.res (s.lo, s.hi) := by
        cases q : s.res with
        | none => rfl
        | some r0 =>
          obtain ⟨h0, h1⟩ := hs r0 q
          obtain ⟨o1, o2⟩ := ofc_rnd (q := (s.lo, s.hi)) h0 h1
          exact rnd_self o1 o2
      refine (ok0 hp hs m1 m2 e0 er (by omega) (by omega)).congr fun x => ?_
      constructor
      · intro c
        exact ⟨[x], (rows [x]).mp (in_one.mpr ⟨x, rfl, c⟩), rfl⟩
      · rintro ⟨ts, c, e⟩
        obtain ⟨x', q, c'⟩ := in_one.mp ((rows ts).mpr c)
        subst q
        cases e
        exact c'
    | i + 1, e => cases e
  | [s, t], _, hr =>
    have hs := hr s (by simp)
    have ht := hr t (by simp)
    obtain ⟨q0, hq, e⟩ := Option.map_eq_some_iff.mp (show (tight p s t g).map (fun q => (⟨vs, [q.1, q.2.1], q.2.2⟩ : Z)) = some y from h)
    subst e
    unfold tight at hq
    obtain ⟨q, hq', e⟩ := Option.map_eq_some_iff.mp hq
    subst e
    clear hq
    have hq := hq'
    have st := two_steps hp hs ht hq
    obtain ⟨⟨f1, f2⟩, ⟨s1, s2⟩, ⟨g1, g2⟩⟩ := q
    have sb := st.sb hs ht hp
    have mq : MgQ (2 * (2 * (M + p) + p)) ((f1, f2), (s1, s2), (g1, g2)) := by
      obtain ⟨q1, e1, e2⟩ := Option.bind_eq_some_iff.mp hq
      have m0 : MgQ M ((s.lo, s.hi), (t.lo, t.hi), g) := ⟨(m.ss s (by simp)).1, (m.ss s (by simp)).2, (m.ss t (by simp)).1, (m.ss t (by simp)).2, m.g1, m.g2⟩
      exact mgq_step hp (by omega) (mgq_step hp hM m0 e1) e2
    have rw2 : ∀ {x y : Int}, Row2 p s.res t.res f1 f2 s1 s2 g1 g2 x y ↔ InT p ⟨vs, [s, t], g⟩ [x, y] := fun {x y} => by
      rw [← rows [x, y], row2_m3]
      exact Iff.rfl
    have two : ∀ {ts : List Int}, InT p ⟨vs, [s, t], g⟩ ts → ∃ x y, ts = [x, y] := fun {ts} c => by
      obtain ⟨x, y, e, _⟩ := in_two.mp c
      exact ⟨x, y, e⟩
    refine ⟨fun i u e => ?_, fun _ => ?_, fun e => by simp at e⟩
    · match i, e with
      | 0, e =>
        cases e
        refine (ok1 hp hs ht (by omega) mq sb (by omega)).congr fun x => ?_
        constructor
        · rintro ⟨y, c⟩
          exact ⟨[x, y], rw2.mp c, rfl⟩
        · rintro ⟨ts, c, e⟩
          obtain ⟨x', y, rfl⟩ := two c
          cases e
          exact ⟨y, rw2.mpr c⟩
      | 1, e =>
        cases e
        refine (ok2 hp hs ht (by omega) mq sb (by omega)).congr fun x => ?_
        constructor
        · rintro ⟨y, c⟩
          exact ⟨[y, x], rw2.mp c, rfl⟩
        · rintro ⟨ts, c, e⟩
          obtain ⟨x', y, rfl⟩ := two c
          cases e
          exact ⟨x', rw2.mpr c⟩
      | i + 2, e => cases e
    · refine (okg hp hs ht (by omega) mq sb (by omega)).congr fun d => ?_
      constructor
      · rintro ⟨x, y, c, q⟩
        exact ⟨x, y, rw2.mp c, q⟩
      · rintro ⟨x, y, c, q⟩
        exact ⟨x, y, rw2.mpr c, q⟩
end Zn
end

section
set_option maxHeartbeats 4000000
namespace EW
open PySem PySem.Spec PyProof.Rows L2
/-! ### name = {k: v for ..}; walks over the keys of a dict -/
section
variable {X : Cx}
theorem ps_setDc {i : Nat} {y : Str} {py : Pos} {kx vx tg iter : Expr} {ifs : List Expr} {scope : Scope} {own : List (Str × Nat)} {pos spos : Pos} {wi : TI} {g : TG} {tt : TT} {tk tv : TE} (hc : X.calm = true) (hN : X.N.Nodup) (hy : X.N[i]? = some y) (hyl : X.env.scope.names.lookup y = some .local)
    (hsw : swapsWith (.DictComp kx vx [⟨tg, iter, ifs, 0⟩] scope pos) (some (.Name y py)) spos.line X.env = pure true) (hi : PI X tg iter wi) (ok : BlkOk X.N X.env.scope scope own)
    (hg : ∀ (s : Shared) (H : Hp) (C : Addr) (cl : List (Str × Addr)) (fp : List Addr), PG (X.blk s H scope (compEnvC scope cl C X.env) fp) tg g) (ht : ∀ (s : Shared) (H : Hp) (C : Addr) (cl : List (Str × Addr)) (fp : List Addr), PTs (X.blk s H scope (compEnvC scope cl C X.env) fp) ifs tt)
    (hk : ∀ (s : Shared) (H : Hp) (C : Addr) (cl : List (Str × Addr)) (fp : List Addr), PE (X.blk s H scope (compEnvC scope cl C X.env) fp) kx tk)
    (he : ∀ (s : Shared) (H : Hp) (C : Addr) (cl : List (Str × Addr)) (fp : List Addr), PE (X.blk s H scope (compEnvC scope cl C X.env) fp) vx tv) (hs : ∀ x, foldedSetIterable iter X.env x = pure x := by intro _; rfl) :
    PS X (.Assign [.Name y py] (.DictComp kx vx [⟨tg, iter, ifs, 0⟩] scope pos) spos) (tAsg (tDc wi g tt tk tv (own.map (·.2))) (gName i)) := by
  refine ⟨fun pins s σ H D I h => ?_⟩
  rw [exec_Assign_Name_used _ _ _ _ hsw]
  refine wpAny_bind (wpAny_standAt (wpAny_bind ?_))
  show wpAny _ X.A (do let _ ← comprehension (.DictComp kx vx [⟨tg, iter, ifs, 0⟩] scope pos) scope X.env (firstIterPos [⟨tg, iter, ifs, 0⟩] pos) newDict false (eval iter X.env) (some (assign (.Name y py) X.env))) _ _ s
  have h : tDc wi g tt tk tv (own.map (·.2)) σ H (fun x H1 => gName i x σ H1 D.nx) := h
  refine wpAny_bind (thn (dc_core (Qf := fun _ s' => SP X pins D .next s') hc hN I hi ok hg ht hk he hs h fun L C s' m H' I' q hn f => ?_) fun _ s' hq => wpAny_pure (wpAny_pure hq))
  show wpAny _ _ (assign (.Name y py) X.env (.ref L)) _ _ _
  refine wpAny_assign_Name (store_ok2 (v := V.ref L) I' hN hy (.inl hyl) rfl (fun s2 I2 ⟨a, sb, ha⟩ => ?_) (.inr hyl))
  obtain ⟨f0, f1, f2, f3, f4, f5⟩ := f
  have haC : C ≠ a := by
    rcases ha with z | z
    · rw [z]; exact f1
    · exact fun e => f4 y a z e.symm
  refine ⟨m, hn.sameBut sb haC, fun h3 sb3 => ?_⟩
  exact ⟨_, H', I2.turned (t' := s2.toks) (fun b o hb e => (sb3.2 b hb).trans e) f0 f1 f3 f4 f5, q⟩
theorem sw_trueD {kx vx : Expr} {gs : List Comprehension} {scope : Scope} {pos py : Pos} {y : Str} {l : Nat} {env : Env} (hk : env.scope.kind = .function) (hy : env.scope.names.lookup y = some .local) (hl : (py.line == pos.line) = true)
    (ha : (scope.names.any fun (n, k) => n == y && (k == .local || k == .cell)) = false) : swapsWith (.DictComp kx vx gs scope pos) (some (.Name y py)) l env = pure true := by
  have ky : env.kindOf y = some .local := hy
  have hb : env.blockKind = .function := by unfold Env.blockKind; rw [hk]; rfl
  unfold swapsWith
  simp only [hb, ky, ha, Expr.pos, hl]
  rfl
end
theorem loop_keys {d : Addr} {o : Obj} {kvs : List (Key × V)} {H0 : Hp} {Qd : Hp → Prop} {B : V → Hp → (Hp → Prop) → Prop} (Pv : Nat → Hp → Prop) (h0 : Pv 0 H0) (hl : ∀ i H, i ≤ kvs.length → Pv i H → H d = some (.frz o (.dK kvs)))
    (hs : ∀ i k v H, kvs[i]? = some (k, v) → Pv i H → B (kV k) H (Pv (i + 1))) (hd : ∀ H, Pv kvs.length H → Qd H) :
    ∃ W : Nat → Nat → Hp → Prop, (∃ m, W 0 m H0) ∧ ∀ i m H, W i m H → ((Itk d o kvs).stop i H ∧ Qd H) ∨ ((Itk d o kvs).go i H ∧ ∃ Nx : Hp → Prop, (∀ H', Nx H' → ∃ m', m' < m ∧ W (i + 1) m' H') ∧ ∀ x H', (Itk d o kvs).yld i H x H' → B x H' Nx) := by
  refine ⟨fun i m H => m = kvs.length - i ∧ i ≤ kvs.length ∧ Pv i H, ⟨kvs.length, rfl, Nat.zero_le _, h0⟩, ?_⟩
  rintro i m H ⟨rfl, hi, p⟩
  have q := hl i H hi p
  rcases Nat.lt_or_ge i kvs.length with hlt | hge
  · refine .inr ⟨⟨q, hlt⟩, Pv (i + 1), fun H' p' => ⟨kvs.length - (i + 1), by omega, rfl, hlt, p'⟩, fun x H' y => ?_⟩
    obtain ⟨rfl, k, v, hk, rfl⟩ := y
    exact hs i k v _ hk p
  · have e : i = kvs.length := by omega
    subst e
    exact .inl ⟨⟨q, Nat.le_refl _⟩, hd H p⟩
/-- the keys are the ints of S -/
structure KeysOf (kvs : List (Key × V)) (S : Int → Prop) : Prop where
  int : ∀ q ∈ kvs, ∃ r : Int, q.1 = Sum.inl r ∧ S r
  all : ∀ r : Int, S r ↔ (valV kvs (Sum.inl r : Key)).isSome = true
theorem keys_nil {S : Int → Prop} (h : ∀ r, ¬ S r) : KeysOf [] S := ⟨(fun q hq => nomatch hq), fun r => ⟨fun q => absurd q (h r), fun q => nomatch q⟩⟩
theorem KeysOf.congr {kvs : List (Key × V)} {S U : Int → Prop} (h : KeysOf kvs S) (e : ∀ r, S r ↔ U r) : KeysOf kvs U :=
  ⟨fun q hq => let ⟨r, h1, h2⟩ := h.int q hq; ⟨r, h1, (e r).mp h2⟩, fun r => (e r).symm.trans (h.all r)⟩
theorem KeysOf.put {kvs : List (Key × V)} {S : Int → Prop} {r : Int} {v : V} (h : KeysOf kvs S) : KeysOf (putK kvs (Sum.inl r) v) (fun x => S x ∨ x = r) := by
  refine ⟨fun q hq => ?_, fun x => ?_⟩
  · cases e : valV kvs (Sum.inl r : Key) with
    | none =>
      rw [putK_new v e] at hq
      rcases List.mem_append.mp hq with hq | hq
      · obtain ⟨y, h1, h2⟩ := h.int q hq
        exact ⟨y, h1, .inl h2⟩
      · rw [List.mem_singleton.mp hq]
        exact ⟨r, rfl, .inr rfl⟩
    | some w =>
      have ep : putK kvs (Sum.inl r : Key) v = kvs.map (fun kv => if kv.1 = Sum.inl r then (kv.1, v) else kv) := by
        unfold putK
        rw [valV_any, e]
        rfl
      rw [ep] at hq
      obtain ⟨q', hq', rfl⟩ := List.mem_map.mp hq
      obtain ⟨y, h1, h2⟩ := h.int q' hq'
      refine ⟨y, ?_, .inl h2⟩
      split
      · exact h1
      · exact h1
  · rw [valV_put]
    by_cases c : (Sum.inl x : Key) = Sum.inl r
    · rw [if_pos c]
      have e : x = r := by injection c
      exact ⟨fun _ => rfl, fun _ => .inr e⟩
    · rw [if_neg c, ← h.all]
      exact ⟨fun q => q.elim (fun q => q) fun e => absurd (congrArg Sum.inl e) c, .inl⟩
theorem putK_le (kvs : List (Key × V)) (k : Key) (v : V) : (putK kvs k v).length ≤ kvs.length + 1 := by
  have := length_putK kvs k v
  omega
end EW
end

section
set_option maxHeartbeats 4000000
/-! EwShp: texts in order; kinds, shapes as dicts. -/
namespace EW
open PySem PySem.Spec PyProof.Rows L2
theorem loop_str {z : Str} {H0 : Hp} {Qd : Hp → Prop} {B : V → Hp → (Hp → Prop) → Prop} (Pv : Nat → Hp → Prop) (h0 : Pv 0 H0)
    (hs : ∀ i c H, z.cps.toList[i]? = some c → Pv i H → B (.str ⟨#[c]⟩) H (Pv (i + 1))) (hd : ∀ H, Pv z.cps.toList.length H → Qd H) :
    ∃ W : Nat → Nat → Hp → Prop, (∃ m, W 0 m H0) ∧ ∀ i m H, W i m H → ((Its z).stop i H ∧ Qd H) ∨ ((Its z).go i H ∧ ∃ Nx : Hp → Prop, (∀ H', Nx H' → ∃ m', m' < m ∧ W (i + 1) m' H') ∧ ∀ x H', (Its z).yld i H x H' → B x H' Nx) := by
  have el : z.cps.toList.length = z.cps.size := by simp
  refine ⟨fun i m H => m = z.cps.size - i ∧ i ≤ z.cps.size ∧ Pv i H, ⟨z.cps.size, rfl, Nat.zero_le _, h0⟩, ?_⟩
  rintro i m H ⟨rfl, hi, p⟩
  rcases Nat.lt_or_ge i z.cps.size with hlt | hge
  · refine .inr ⟨hlt, Pv (i + 1), fun H' p' => ⟨z.cps.size - (i + 1), by omega, rfl, hlt, p'⟩, fun x H' y => ?_⟩
    obtain ⟨rfl, c, hc, rfl⟩ := y
    exact hs i c _ (by rw [Array.getElem?_toList]; exact hc) p
  · obtain rfl : i = z.cps.size := by omega
    exact .inl ⟨Nat.le_refl _, hd H (by rw [el]; exact p)⟩
/-! ### texts in order -/
def leS (a b : Str) : Prop := ¬ b.cps.toList < a.cps.toList
theorem leS_anti {a b : Str} (h : leS a b) (h' : leS b a) : a = b := by
  have e : a.cps.toList = b.cps.toList := List.le_antisymm (Std.not_lt.mp h) (Std.not_lt.mp h')
  obtain ⟨⟨x⟩⟩ := a
  obtain ⟨⟨y⟩⟩ := b
  have e : x = y := e
  rw [e]
theorem leS_trans {a b c : Str} (h : leS a b) (h' : leS b c) : leS a c := Std.not_lt.mpr (List.le_trans (Std.not_lt.mp h) (Std.not_lt.mp h'))
theorem pw_rising : ∀ (l : List Str) (p : Str), risingS p l = true → (p :: l).Pairwise leS
  | [], p, _ => List.pairwise_singleton ..
  | x :: r, p, h => by
    have h : (!PySem.Spec.ltCps x.cps.toList p.cps.toList && risingS x r) = true := h
    rw [Bool.and_eq_true] at h
    have ih := pw_rising r x h.2
    have px : leS p x := fun z => by
      have q := h.1
      rw [ltCps_eq, decide_eq_true z] at q
      cases q
    refine List.pairwise_cons.mpr ⟨fun y hy => ?_, ih⟩
    rcases List.mem_cons.mp hy with rfl | hy
    · exact px
    · exact leS_trans px ((List.pairwise_cons.mp ih).1 y hy)
theorem pw_sortedS {l : List Str} (h : sortedS l = true) : l.Pairwise leS := by
  cases l with
  | nil => exact .nil
  | cons x r => exact pw_rising r x h
theorem sorted_uniq {l m : List Str} (p : l.Perm m) (h : sortedS l = true) (h' : sortedS m = true) : l = m :=
  List.Perm.eq_of_pairwise (fun a b _ _ h h' => leS_anti h h') (pw_sortedS h) (pw_sortedS h') p
end EW
end

section
set_option maxHeartbeats 4000000
namespace TM
open PySem PySem.Spec PyProof.Rows L2 EW
abbrev FnP (K : W.Frag) (x : Str) (st : Stmt) (fd : FuncData) : Prop := FunD K x x (defArgs st) (defBody st) (defScope st) [] [] (He.ga K x) fd
/-- names of the built-ins that the module doesn't bind -/
structure Fre (mg : Str → Option Value) : Prop where
  len : mg "len" = none
  int : mg "int" = none
  bool : mg "bool" = none
  tuple : mg "tuple" = none
  list : mg "list" = none
  set : mg "set" = none
  abs : mg "abs" = none
  max : mg "max" = none
  min : mg "min" = none
  range : mg "range" = none
  any : mg "any" = none
  all : mg "all" = none
  sorted : mg "sorted" = none
  isinstance : mg "isinstance" = none
  str : mg "str" = none
  dict : mg "dict" = none
  zip : mg "zip" = none
  enumerate : mg "enumerate" = none
/-- the module's constants -/
structure Glb (K : W.Frag) (mg : Str → Option Value) : Prop where
  time : ∃ t, mg "TIME" = some (.str "time" t)
  now : ∃ t, mg "NOW" = some (.str "now" t)
  letters : ∃ t, mg "LETTERS" = some (.str "abcdefghijklmnopqrstuvwxyz" t)
  ml : ∃ t, mg "MAX_LETTERS" = some (.int 8 t)
  mp : ∃ t, mg "MAX_PERIOD" = some (.int 400 t)
  mt : ∃ t, mg "MAX_TIMES" = some (.int 2 t)
  md : ∃ t, mg "MAX_DOMAINS" = some (.int 3 t)
  mv : ∃ t, mg "MAX_VALUES" = some (.int 8 t)
  any : mg "ANY" = some (.ref (He.ga K "ANY"))
  any2 : ∀ H : Hp, SqT K H (He.ga K "ANY") [.non, .non]
abbrev NIsInt : List Str := ["value"]
theorem IsInt : FnScope NIsInt ["value"] (defScope sIsInt) := ⟨rfl, rfl, rfl, by decide +kernel, rfl, by decide +kernel, by decide +kernel⟩
abbrev NBetween : List Str := ["value", "least", "most"]
theorem Between : FnScope NBetween ["value", "least", "most"] (defScope sBetween) := ⟨rfl, rfl, rfl, by decide +kernel, rfl, by decide +kernel, by decide +kernel⟩
abbrev NIsBound : List Str := ["value"]
theorem IsBound : FnScope NIsBound ["value"] (defScope sIsBound) := ⟨rfl, rfl, rfl, by decide +kernel, rfl, by decide +kernel, by decide +kernel⟩
abbrev NReqP : List Str := ["period"]
theorem ReqP : FnScope NReqP ["period"] (defScope sReqP) := ⟨rfl, rfl, rfl, by decide +kernel, rfl, by decide +kernel, by decide +kernel⟩
abbrev NGreater : List Str := ["one", "other"]
theorem Greater : FnScope NGreater ["one", "other"] (defScope sGreater) := ⟨rfl, rfl, rfl, by decide +kernel, rfl, by decide +kernel, by decide +kernel⟩
abbrev NLesser : List Str := ["one", "other"]
theorem Lesser : FnScope NLesser ["one", "other"] (defScope sLesser) := ⟨rfl, rfl, rfl, by decide +kernel, rfl, by decide +kernel, by decide +kernel⟩
abbrev NPlus : List Str := ["one", "other"]
theorem Plus : FnScope NPlus ["one", "other"] (defScope sPlus) := ⟨rfl, rfl, rfl, by decide +kernel, rfl, by decide +kernel, by decide +kernel⟩
abbrev NMinus : List Str := ["one", "other"]
theorem Minus : FnScope NMinus ["one", "other"] (defScope sMinus) := ⟨rfl, rfl, rfl, by decide +kernel, rfl, by decide +kernel, by decide +kernel⟩
abbrev NRounded : List Str := ["period", "residue", "pair", "least", "most"]
theorem Rounded : FnScope NRounded ["period", "residue", "pair"] (defScope sRounded) := ⟨rfl, rfl, rfl, by decide +kernel, rfl, by decide +kernel, by decide +kernel⟩
abbrev NEmptyP : List Str := ["pair"]
theorem EmptyP : FnScope NEmptyP ["pair"] (defScope sEmptyP) := ⟨rfl, rfl, rfl, by decide +kernel, rfl, by decide +kernel, by decide +kernel⟩
abbrev NGapRes : List Str := ["period", "spans", "first", "second"]
theorem GapRes : FnScope NGapRes ["period", "spans"] (defScope sGapRes) := ⟨rfl, rfl, rfl, by decide +kernel, rfl, by decide +kernel, by decide +kernel⟩
def spIsInt (K : W.Frag) : Sp := fun vs H Q _ => ∃ (v : V) (t : Value) (b c : Bool), vs = [v] ∧ TyX K H v t ∧ W.kitOne K t (.type "int") = some b ∧ (b = true → W.kitOne K t (.type "bool") = some c) ∧ Q (.bl (b && !c)) H
theorem kb1 : kitB "int" "int" = some true := by decide +kernel
theorem kb2 : kitB "int" "bool" = some false := by decide +kernel
theorem kb3 : kitB "NoneType" "int" = some false := by decide +kernel
theorem kb4 : kitB "tuple" "tuple" = some true := by decide +kernel
theorem kb5 : kitB "str" "str" = some true := by decide +kernel
theorem kb6 : kitB "tuple" "str" = some false := by decide +kernel
theorem kb7 : kitB "dict" "dict" = some true := by decide +kernel
theorem isInt_int {K : W.Frag} {H : Hp} {Q : VK} (i : Int) (h : Q (.bl true) H) : spIsInt K [.int i] H Q E0 := ⟨_, _, true, false, rfl, .base (.int i), kit_ty kb1, fun _ => kit_ty kb2, h⟩
theorem isInt_non {K : W.Frag} {H : Hp} {Q : VK} (h : Q (.bl false) H) : spIsInt K [.non] H Q E0 := ⟨_, _, false, false, rfl, .base .non, kit_ty kb3, (fun z => nomatch z), h⟩
def spBetween : Sp := fun vs H Q _ => ∃ v l m : Int, vs = [.int v, .int l, .int m] ∧ Q (.bl (decide (l ≤ v) && decide (v ≤ m))) H
def spBound : Sp := fun vs H Q _ => ∃ o : Option Int, vs = [ob o] ∧ Q (.bl true) H
def spReqP : Sp := fun vs H Q _ => ∃ p : Int, vs = [.int p] ∧ 1 ≤ p ∧ p ≤ 400 ∧ Q .non H
def spReqI : Sp := fun vs H Q _ => ∃ t : Int, vs = [.int t] ∧ Q .non H
def spTwo (f : Option Int → Option Int → Option Int) : Sp := fun vs H Q _ => ∃ a b : Option Int, vs = [ob a, ob b] ∧ Q (ob (f a b)) H
/-- a pair of bounds, new or not -/
def Pr2 (K : W.Frag) (H : Hp) (q : OO) (Q : VK) : Prop := ∀ (v : V) (H' : Hp), Same H H' → Tp K H' v [ob q.1, ob q.2] → Q v H'
def spRounded (K : W.Frag) : Sp := fun vs H Q _ => ∃ (p : Int) (r : Option Int) (v : V) (q : OO), vs = [.int p, ob r, v] ∧ 0 < p ∧ Tp K H v [ob q.1, ob q.2] ∧ Pr2 K H (Zn.rnd p r q) Q
def spEmptyP (K : W.Frag) : Sp := fun vs H Q _ => ∃ (v : V) (q : OO), vs = [v] ∧ Tp K H v [ob q.1, ob q.2] ∧ Q (.bl (Zn.emp q)) H
theorem tyT {K : W.Frag} {H : Hp} {a : Addr} {xs : List V} (h : SqT K H a xs) : TyX K H (.ref a) (.type "tuple") := by
  rcases h with (h | ⟨o, h⟩) | ⟨o, its, n, e, c, _⟩
  · exact .base (.tup h)
  · exact .fTuple h
  · exact .kTuple e c
theorem nil_ {σ : L2.St} {H : Hp} {R : List V → Hp → Prop} (h : R [] H) : tNil σ H R := h
theorem con1 {v : V} {σ : L2.St} {H : Hp} {R : List V → Hp → Prop} (h : R [v] H) : tCons (tC v) tNil σ H R := h
theorem not_of {P : Prop} [Decidable P] (h : ¬ decide P = true) : ¬ P := fun z => h (decide_eq_true z)
section
variable {P : Program} {w : World} {K : W.Frag} {mg : Str → Option Value} {base : Heap}
theorem ok_isInt {fd : FuncData} (F : FnP K "is_integer" sIsInt fd) (T : Fre mg) : FnOk P w K mg base CX0 1 (He.ga K "is_integer") fd ["value"] (spIsInt K) := by
  refine F.ok IsInt (fun vs H Q E h => ?_) (fun cdv A outer s H vs Q E hr h => ?_)
  · obtain ⟨v, t, b, c, rfl, _⟩ := h
    rfl
  · obtain ⟨v, t, b, c, rfl, ty, hb, hc, k⟩ := h
    refine ⟨_, PSs.nox (pss_one (ps_ret (pe_and (pe_callB (call_isiE K rfl) (by rfl) T.isinstance EW.boot_isinstance (pa_cons (pv 0) (pa_cons (pe_bltn (v := .ty "int") rfl T.int EW.boot_int rfl) pa_nil))) (pe_one (pe_not (pe_callB (call_isiE K rfl) (by rfl) T.isinstance EW.boot_isinstance (pa_cons (pv 0) (pa_cons (pe_bltn (v := .ty "bool") rfl T.bool EW.boot_bool rfl) pa_nil)))))))), ?_⟩
    refine ⟨_, rfl, v, _, t, _, b, rfl, .ty "int", ty, hb, b, rfl, ?_⟩
    cases b with
    | false => exact iteF k
    | true => exact iteT ⟨_, rfl, v, _, t, _, c, rfl, .ty "bool", ty, hc rfl, c, rfl, k⟩
theorem ok_between {fd : FuncData} (F : FnP K "is_between" sBetween fd) (Dis_integer : Df P w K mg base 1 "is_integer" ["value"] (spIsInt K)) : FnOk P w K mg base CX0 2 (He.ga K "is_between") fd ["value", "least", "most"] spBetween := by
  refine F.ok Between (fun vs H Q E h => ?_) (fun cdv A outer s H vs Q E hr h => ?_)
  · obtain ⟨v, l, m, rfl, _⟩ := h
    rfl
  · obtain ⟨v, l, m, rfl, k⟩ := h
    refine ⟨_, PSs.nox (pss_one (ps_ret (pe_and (pe_df Dis_integer (hr.mono (by decide)) rfl (pa_cons (pv 0) pa_nil)) (pe_one (pe_chain op_le op_le (pv 1) (pv 0) (pv 2)))))), ?_⟩
    refine ⟨_, rfl, _, _, true, false, rfl, .base (.int v), kit_ty kb1, (fun _ => kit_ty kb2), _, rfl, iteT ?_⟩
    refine ⟨_, rfl, _, rfl, _, _, rfl, rfl, _, rfl, ?_⟩
    by_cases c : l ≤ v
    · rw [decide_eq_true c] at k ⊢
      exact iteT ⟨_, rfl, _, _, rfl, rfl, k⟩
    · rw [decide_eq_false c] at k ⊢
      exact iteF k
theorem ok_bound {fd : FuncData} (F : FnP K "is_bound" sIsBound fd) (Dis_integer : Df P w K mg base 1 "is_integer" ["value"] (spIsInt K)) : FnOk P w K mg base CX0 2 (He.ga K "is_bound") fd ["value"] spBound := by
  refine F.ok IsBound (fun vs H Q E h => ?_) (fun cdv A outer s H vs Q E hr h => ?_)
  · obtain ⟨o, rfl, _⟩ := h
    rfl
  · obtain ⟨o, rfl, k⟩ := h
    refine ⟨_, PSs.nox (pss_one (ps_ret (pe_or (pe_cmp (pc_isN (pv 0))) (pe_one (pe_df Dis_integer (hr.mono (by decide)) rfl (pa_cons (pv 0) pa_nil)))))), ?_⟩
    cases o with
    | none => exact ⟨_, rfl, _, rfl, iteT k⟩
    | some i => exact ⟨_, rfl, _, rfl, iteF ⟨_, rfl, _, _, true, false, rfl, .base (.int i), kit_ty kb1, (fun _ => kit_ty kb2), k⟩⟩
theorem ok_reqP {fd : FuncData} (F : FnP K "require_period" sReqP fd) (G : Glb K mg) (Dis_between : Df P w K mg base 2 "is_between" ["value", "least", "most"] spBetween) : FnOk P w K mg base CX0 3 (He.ga K "require_period") fd ["period"] spReqP := by
  refine F.ok ReqP (fun vs H Q E h => ?_) (fun cdv A outer s H vs Q E hr h => ?_)
  · obtain ⟨p, rfl, _⟩ := h
    rfl
  · obtain ⟨p, rfl, p1, p2, k⟩ := h
    refine ⟨_, PSs.nox (pss_one (ps_if (pt_not (pt_val (pe_df Dis_between (hr.mono (by decide)) rfl (pa_cons (pv 0) (pa_cons pe_int (pa_cons (pe_glob (v := .int 400) rfl G.mp.choose_spec ⟨_, rfl⟩) pa_nil)))))) (pss_one ps_never) pss_nil)), ?_⟩
    refine ⟨_, rfl, p, 1, 400, rfl, _, rfl, ?_⟩
    rw [decide_eq_true p1, decide_eq_true p2]
    exact iteF k
theorem ok_greater {fd : FuncData} (F : FnP K "greater_of" sGreater fd) (T : Fre mg) : FnOk P w K mg base CX0 1 (He.ga K "greater_of") fd ["one", "other"] (spTwo Zn.grt) := by
  refine F.ok Greater (fun vs H Q E h => ?_) (fun cdv A outer s H vs Q E hr h => ?_)
  · obtain ⟨a, b, rfl, _⟩ := h
    rfl
  · obtain ⟨a, b, rfl, k⟩ := h
    refine ⟨_, PSs.nox (pss_cons (ps_if (PW.pt (pw_or (pt_cmp (pc_isN (pv 0))) (pw_or1 (pt_cmp (pc_isN (pv 1)))))) (pss_one (ps_ret (pe_ifExp (pt_cmp (pc_isN (pv 0))) (pv 1) (pv 0)))) pss_nil)
      (pss_one (ps_ret (pe_callB (call_max2 rfl) (by rfl) T.max EW.boot_max (pa_cons (pv 0) (pa_cons (pv 1) pa_nil)))))), ?_⟩
    cases a with
    | none => exact ⟨_, rfl, _, rfl, iteT (iteT ⟨_, rfl, _, rfl, iteT ⟨_, rfl, k⟩⟩)⟩
    | some u =>
      cases b with
      | none => exact ⟨_, rfl, _, rfl, iteF ⟨_, rfl, _, rfl, iteT ⟨_, rfl, _, rfl, iteF ⟨_, rfl, k⟩⟩⟩⟩
      | some v => exact ⟨_, rfl, _, rfl, iteF ⟨_, rfl, _, rfl, iteF ⟨_, rfl, _, rfl, _, _, rfl, k⟩⟩⟩
theorem ok_lesser {fd : FuncData} (F : FnP K "lesser_of" sLesser fd) (T : Fre mg) : FnOk P w K mg base CX0 1 (He.ga K "lesser_of") fd ["one", "other"] (spTwo Zn.lst) := by
  refine F.ok Lesser (fun vs H Q E h => ?_) (fun cdv A outer s H vs Q E hr h => ?_)
  · obtain ⟨a, b, rfl, _⟩ := h
    rfl
  · obtain ⟨a, b, rfl, k⟩ := h
    refine ⟨_, PSs.nox (pss_cons (ps_if (PW.pt (pw_or (pt_cmp (pc_isN (pv 0))) (pw_or1 (pt_cmp (pc_isN (pv 1)))))) (pss_one (ps_ret (pe_ifExp (pt_cmp (pc_isN (pv 0))) (pv 1) (pv 0)))) pss_nil)
      (pss_one (ps_ret (pe_callB (call_min2 rfl) (by rfl) T.min EW.boot_min (pa_cons (pv 0) (pa_cons (pv 1) pa_nil)))))), ?_⟩
    cases a with
    | none => exact ⟨_, rfl, _, rfl, iteT (iteT ⟨_, rfl, _, rfl, iteT ⟨_, rfl, k⟩⟩)⟩
    | some u =>
      cases b with
      | none => exact ⟨_, rfl, _, rfl, iteF ⟨_, rfl, _, rfl, iteT ⟨_, rfl, _, rfl, iteF ⟨_, rfl, k⟩⟩⟩⟩
      | some v => exact ⟨_, rfl, _, rfl, iteF ⟨_, rfl, _, rfl, iteF ⟨_, rfl, _, rfl, _, _, rfl, k⟩⟩⟩
theorem ok_plus {fd : FuncData} (F : FnP K "plus" sPlus fd) : FnOk P w K mg base CX0 1 (He.ga K "plus") fd ["one", "other"] (spTwo Zn.pls) := by
  refine F.ok Plus (fun vs H Q E h => ?_) (fun cdv A outer s H vs Q E hr h => ?_)
  · obtain ⟨a, b, rfl, _⟩ := h
    rfl
  · obtain ⟨a, b, rfl, k⟩ := h
    refine ⟨_, PSs.nox (pss_one (ps_ret (pe_ifExp (PW.pt (pw_or (pt_cmp (pc_isN (pv 0))) (pw_or1 (pt_cmp (pc_isN (pv 1)))))) pe_non (pe_op op_add (pv 0) (pv 1))))), ?_⟩
    cases a with
    | none => exact ⟨_, rfl, _, rfl, iteT (iteT k)⟩
    | some u =>
      cases b with
      | none => exact ⟨_, rfl, _, rfl, iteF ⟨_, rfl, _, rfl, iteT k⟩⟩
      | some v => exact ⟨_, rfl, _, rfl, iteF ⟨_, rfl, _, rfl, iteF ⟨_, rfl, _, rfl, _, _, rfl, rfl, k⟩⟩⟩
theorem ok_minus {fd : FuncData} (F : FnP K "minus" sMinus fd) : FnOk P w K mg base CX0 1 (He.ga K "minus") fd ["one", "other"] (spTwo Zn.mns) := by
  refine F.ok Minus (fun vs H Q E h => ?_) (fun cdv A outer s H vs Q E hr h => ?_)
  · obtain ⟨a, b, rfl, _⟩ := h
    rfl
  · obtain ⟨a, b, rfl, k⟩ := h
    refine ⟨_, PSs.nox (pss_one (ps_ret (pe_ifExp (PW.pt (pw_or (pt_cmp (pc_isN (pv 0))) (pw_or1 (pt_cmp (pc_isN (pv 1)))))) pe_non (pe_op op_sub (pv 0) (pv 1))))), ?_⟩
    cases a with
    | none => exact ⟨_, rfl, _, rfl, iteT (iteT k)⟩
    | some u =>
      cases b with
      | none => exact ⟨_, rfl, _, rfl, iteF ⟨_, rfl, _, rfl, iteT k⟩⟩
      | some v => exact ⟨_, rfl, _, rfl, iteF ⟨_, rfl, _, rfl, iteF ⟨_, rfl, _, rfl, _, _, rfl, rfl, k⟩⟩⟩
theorem ok_emptyP {fd : FuncData} (F : FnP K "is_empty_pair" sEmptyP fd) : FnOk P w K mg base CX0 1 (He.ga K "is_empty_pair") fd ["pair"] (spEmptyP K) := by
  refine F.ok EmptyP (fun vs H Q E h => ?_) (fun cdv A outer s H vs Q E hr h => ?_)
  · obtain ⟨v, q, rfl, _⟩ := h
    rfl
  · obtain ⟨v, ⟨lo, hi⟩, rfl, ⟨a, rfl, hS⟩, k⟩ := h
    refine ⟨_, PSs.nox (pss_one (ps_ret (pe_and (pe_cmp (pc_notN (pe_ix (ix_tupK K rfl) (pv 0) pe_int (fun _ _ => rfl)))) (pe_and (pe_cmp (pc_notN (pe_ix (ix_tupK K rfl) (pv 0) pe_int (fun _ _ => rfl)))) (pe_one (pe_cmpR op_gt (pe_ix (ix_tupK K rfl) (pv 0) pe_int (fun _ _ => rfl)) (pe_ix (ix_tupK K rfl) (pv 0) pe_int (fun _ _ => rfl)) (nomark _))))))), ?_⟩
    refine ⟨_, rfl, a, _, _, _, rfl, rfl, hS, rfl, _, rfl, ?_⟩
    cases lo with
    | none => exact iteF k
    | some l =>
      refine iteT ⟨_, rfl, a, _, _, _, rfl, rfl, hS, rfl, _, rfl, ?_⟩
      cases hi with
      | none => exact iteF k
      | some m => exact iteT ⟨_, rfl, a, _, _, _, rfl, rfl, hS, rfl, _, rfl, a, _, _, _, rfl, rfl, hS, rfl, _, _, rfl, rfl, k⟩
theorem ok_rounded {fd : FuncData} (F : FnP K "rounded" sRounded fd) (T : Fre mg) : FnOk P w K mg base CX0 1 (He.ga K "rounded") fd ["period", "residue", "pair"] (spRounded K) := by
  refine F.ok Rounded (fun vs H Q E h => ?_) (fun cdv A outer s H vs Q E hr h => ?_)
  · obtain ⟨p, r, v, q, rfl, _⟩ := h
    rfl
  · obtain ⟨p, r, v, ⟨lo, hi⟩, rfl, hp, ⟨a, rfl, hS⟩, k⟩ := h
    refine ⟨_, PSs.nox (pss_cons (ps_asg (pv 2) (pg_tup rfl (pgs_cons (pg_name (i := 3) Rounded.nd rfl (Or.inl rfl)) (pgs_cons (pg_name (i := 4) Rounded.nd rfl (Or.inl rfl)) pgs_nil))))
      (pss_cons (ps_if (pt_cmp (pc_isN (pv 1))) (pss_one (ps_ret (pv 2))) pss_nil)
      (pss_cons (ps_if (pt_cmp (pc_notN (pv 3))) (pss_one (ps_set (i := 3) Rounded.nd rfl (Or.inl rfl) (pe_op op_add (pv 3) (pe_op op_mod (pe_callTy call_int1 (by rfl) T.int EW.boot_int (pa_cons (pe_op op_sub (pv 1) (pv 3)) pa_nil)) (pv 0))))) pss_nil)
      (pss_cons (ps_if (pt_cmp (pc_notN (pv 4))) (pss_one (ps_set (i := 4) Rounded.nd rfl (Or.inl rfl) (pe_op op_sub (pv 4) (pe_op op_mod (pe_callTy call_int1 (by rfl) T.int EW.boot_int (pa_cons (pe_op op_sub (pv 4) (pv 1)) pa_nil)) (pv 0))))) pss_nil)
      (pss_one (ps_ret (pe_tupS (pa_cons (pv 3) (pa_cons (pv 4) pa_nil))))))))), ?_⟩
    refine ⟨_, rfl, a, _, rfl, hS, rfl, _, _, rfl, _, _, rfl, rfl, _, rfl, _, rfl, ?_⟩
    cases r with
    | none => exact iteT ⟨_, rfl, k _ H (Same.refl H) ⟨a, rfl, hS⟩⟩
    | some r =>
      refine iteF ?_
      have k : ∀ (q : Addr) (H' : Hp), Same H H' → H' q = some (.tup [ob (lo.map (Rn.upTo p r)), ob (hi.map (Rn.downTo p r))]) → Q (.ref q) H' := fun q H' s e => k _ H' s (Tp.of e)
      cases lo with
      | none =>
        refine ⟨_, rfl, _, rfl, iteF ?_⟩
        cases hi with
        | none => exact ⟨_, rfl, _, rfl, iteF ⟨_, rfl, _, rfl, (by show 2 ≤ sizeLine; decide), fun q H' n s e => k q H' s e⟩⟩
        | some m => exact ⟨_, rfl, _, rfl, iteT ⟨_, rfl, _, rfl, _, rfl, _, _, rfl, rfl, Or.inl ⟨_, rfl, _, rfl, _, _, rfl, rfl, hp, _, _, rfl, rfl, _, rfl, _, rfl, (by show 2 ≤ sizeLine; decide), fun q H' n s e => k q H' s e⟩⟩⟩
      | some l =>
        refine ⟨_, rfl, _, rfl, iteT ⟨_, rfl, _, rfl, _, rfl, _, _, rfl, rfl, Or.inl ⟨_, rfl, _, rfl, _, _, rfl, rfl, hp, _, _, rfl, rfl, ?_⟩⟩⟩
        cases hi with
        | none => exact ⟨_, rfl, _, rfl, iteF ⟨_, rfl, _, rfl, (by show 2 ≤ sizeLine; decide), fun q H' n s e => k q H' s e⟩⟩
        | some m => exact ⟨_, rfl, _, rfl, iteT ⟨_, rfl, _, rfl, _, rfl, _, _, rfl, rfl, Or.inl ⟨_, rfl, _, rfl, _, _, rfl, rfl, hp, _, _, rfl, rfl, _, rfl, _, rfl, (by show 2 ≤ sizeLine; decide), fun q H' n s e => k q H' s e⟩⟩⟩
def spGapRes (K : W.Frag) : Sp := fun vs H Q _ => ∃ (p : Int) (v x y : V) (s t : Rn.Sp3), vs = [.int p, v] ∧ 0 < p ∧ Tp K H v [x, y] ∧ Sn K H x s ∧ Sn K H y t ∧ Q (ob (Zn.gres p s.res t.res)) H
theorem ok_gapRes {fd : FuncData} (F : FnP K "gap_residue" sGapRes fd) (T : Fre mg) : FnOk P w K mg base CX0 1 (He.ga K "gap_residue") fd ["period", "spans"] (spGapRes K) := by
  refine F.ok GapRes (fun vs H Q E h => ?_) (fun cdv A outer s H vs Q E hr h => ?_)
  · obtain ⟨p, v, x, y, s, t, rfl, _⟩ := h
    rfl
  · obtain ⟨p, v, x, y, s, t, rfl, hp, ⟨a, rfl, hS⟩, ⟨b, rfl, hB⟩, ⟨c, rfl, hC⟩, k⟩ := h
    refine ⟨_, PSs.nox (pss_cons (ps_par (i := 2) (j := 3) (by rfl) GapRes.nd rfl rfl (by decide) rfl rfl (pa_cons (pe_ix (ix_tupK K rfl) (pe_ix (ix_tupK K rfl) (pv 1) pe_int (fun _ _ => rfl)) pe_int (fun _ _ => rfl)) (pa_cons (pe_ix (ix_tupK K rfl) (pe_ix (ix_tupK K rfl) (pv 1) pe_int (fun _ _ => rfl)) pe_int (fun _ _ => rfl)) pa_nil)) (by rfl))
      (pss_one (ps_ret (pe_ifExp (PW.pt (pw_or (pt_cmp (pc_isN (pv 2))) (pw_or1 (pt_cmp (pc_isN (pv 3)))))) pe_non (pe_op op_mod (pe_callTy call_int1 (by rfl) T.int EW.boot_int (pa_cons (pe_op op_sub (pv 3) (pv 2)) pa_nil)) (pv 0)))))), ?_⟩
    refine ⟨_, rfl, a, _, _, _, rfl, rfl, hS, rfl, b, _, _, _, rfl, rfl, hB, rfl, _, rfl, a, _, _, _, rfl, rfl, hS, rfl, c, _, _, _, rfl, rfl, hC, rfl, nil_ ⟨_, _, rfl, ?_⟩⟩
    obtain ⟨r, _, _⟩ := s
    obtain ⟨u, _, _⟩ := t
    cases r with
    | none => exact ⟨_, rfl, _, rfl, iteT (iteT k)⟩
    | some r =>
      cases u with
      | none => exact ⟨_, rfl, _, rfl, iteF ⟨_, rfl, _, rfl, iteT k⟩⟩
      | some u => exact ⟨_, rfl, _, rfl, iteF ⟨_, rfl, _, rfl, iteF ⟨_, rfl, _, rfl, _, _, rfl, rfl, Or.inl ⟨_, rfl, _, rfl, _, _, rfl, rfl, hp, k⟩⟩⟩⟩
end
end TM
end

section
set_option maxHeartbeats 2000000
/-! EwZipX: zip(l, t), l a list and t a tuple; walks over zips in comprehensions. -/
namespace EW
open PySem PySem.Spec PyProof.Rows L2
/-- the list at a and the tuple at b, as they stand at each turn -/
def ItzX (K : W.Frag) (a b : Addr) : It :=
  ⟨fun n H => ∃ (us vs : List V) (u v : V), SqL K H a us ∧ SqT K H b vs ∧ us[n]? = some u ∧ vs[n]? = some v,
    fun n H z H' => ∃ c u v, z = .ref c ∧ H c = none ∧ H' = upd H c (.tup [u, v]) ∧ (∀ us, SqL K H a us → us[n]? = some u) ∧ ∀ vs, SqT K H b vs → vs[n]? = some v,
    fun n H => ∃ us vs : List V, SqL K H a us ∧ SqT K H b vs ∧ ((n = us.length ∧ n ≤ vs.length) ∨ (n = vs.length ∧ n ≤ us.length))⟩
theorem zx_sep {z TI TO i1 i2 a b : Addr} (D : ZipApart z TI TO i1 i2 a b) : ZipSep2 z TI TO i1 i2 [i1, a] [i2, b] where
  TIz := D.TIz
  TOz := D.TOz
  TITO := D.TITO
  TIi1 := D.TIi1
  mem1 := by simp
  zf1 := by simp [D.i1z.symm, D.l1z.symm]
  Tf1 := by simp [D.TOi1, D.l1TO.symm]
  TIi2 := D.TIi2
  mem2 := by simp
  zf2 := by simp [D.i2z.symm, D.l2z.symm]
  Tf2 := by simp [D.TOi2, D.l2TO.symm]
  sep1_2 := by simp [D.i12, D.l2i1.symm]
  sep2_1 := by simp [D.i12.symm, D.l1i2.symm]
def ZxSt (z TI TO i1 i2 a b : Addr) (n : Nat) (h : Heap) : Prop := IsZip h z TI TO .none ∧ IsPair h TI (.ref i1) (.ref i2) ∧ (∃ u v, IsPair h TO u v) ∧ h.IsListIter i1 a n ∧ h.IsTupleIter i2 b n
theorem turn_zx {P : Program} {w : World} {K : W.Frag} {es : List Expr} {k : Nat} {tp : Pos} {a b z TI TO i1 i2 : Addr} (D : ZipApart z TI TO i1 i2 a b) :
    Turn P w K (.Tuple es k tp) (ItzX K a b) [z, TI, TO, i1, i2] z (ZxSt z TI TO i1 i2 a b) where
  mem := by simp
  obj := fun n h st c hc => by
    obtain ⟨hz, hI, ⟨u, v, hO⟩, ⟨o1, e1, _, d1⟩, ⟨o2, e2, _, d2⟩⟩ := st
    simp only [List.mem_cons, List.not_mem_nil, or_false] at hc
    rcases hc with rfl | rfl | rfl | rfl | rfl
    · exact ⟨_, hz, fun v q => nomatch q⟩
    · exact ⟨_, hI, fun v q => nomatch q⟩
    · exact ⟨_, hO, fun v q => nomatch q⟩
    · exact ⟨o1, e1, fun v q => by rw [d1] at q; cases q⟩
    · exact ⟨o2, e2, fun v q => by rw [d2] at q; cases q⟩
  keep := fun n h h' st k => by
    obtain ⟨hz, hI, ⟨u, v, hO⟩, s1, s2⟩ := st
    exact ⟨k z (by simp) _ hz, k TI (by simp) _ hI, ⟨u, v, k TO (by simp) _ hO⟩, s1.at fun o q => k i1 (by simp) o q, s2.at fun o q => k i2 (by simp) o q⟩
  item := by
    intro X hP hw hK hc n pins s σ H E I hf st hg
    subst hP hw hK
    obtain ⟨hz, hI, ⟨u0, v0, hO⟩, s1, s2⟩ := st
    obtain ⟨us, vs, u, v, qa, qb, hu, hv⟩ := hg
    obtain ⟨is1, r1, p1, _⟩ := I.list qa
    obtain ⟨is2, r2, p2, _⟩ := I.tuple qb
    have n1 : n < is1.toArray.size := by
      have := (List.getElem?_eq_some_iff.mp hu).1
      rw [r1.length] at this
      simpa using this
    have n2 : n < is2.toArray.size := by
      have := (List.getElem?_eq_some_iff.mp hv).1
      rw [r2.length] at this
      simpa using this
    have zl : z < s.heap.objs.size := Heap.lt_size hz
    have hh : X.A.in1.handled = none := I.ok.hd hc
    refine wpAny_pyNext_zipD2_item (zx_sep D) (Draws.list hh i1 a D.l1i1 is1.toArray) (Draws.tuple hh i2 b D.l2i2 is2.toArray) hz hI hO ⟨s1, p1.isList⟩ ⟨s2, p2⟩ n1 n2 fun x1 x2 h' tk g1 g2 z' O' t1 t2 hT sz hk => ?_
    obtain ⟨w1, hw1, rw1⟩ := r1.get hu
    obtain ⟨w2, hw2, rw2⟩ := r2.get hv
    have e1 : x1 = w1 := by
      have g1 : is1.toArray[n]? = some x1 := g1
      rw [List.getElem?_toArray, hw1] at g1
      exact (Option.some.inj g1).symm
    have e2 : x2 = w2 := by
      have g2 : is2.toArray[n]? = some x2 := g2
      rw [List.getElem?_toArray, hw2] at g2
      exact (Option.some.inj g2).symm
    subst e1 e2
    refine ⟨_, rfl, wpAny_letOwnedTupleGo_zip (s := { s with heap := h', toks := tk }) z' fun h2 z2 sb => ?_⟩
    have hT2 : IsPair h2 s.heap.objs.size x1 x2 := (sb.2 _ (Nat.ne_of_gt zl)).trans hT
    have new : ObjOk X.prog X.w (upd H s.heap.objs.size (.tup [u, v])) h2 s.heap.objs.size (.tup [u, v]) := ⟨by show 2 ≤ sizeLine; decide, [x1, x2], .cons rw1 (.cons rw2 .nil), ⟨_, hT2, rfl, _, rfl⟩⟩
    have I1 : Inv X pins σ (upd H s.heap.objs.size (.tup [u, v])) { s with heap := h2, toks := tk } :=
      I.turnedNew (t' := tk) (ch := [z, TI, TO, i1, i2]) (fun c o hb q => by
        simp only [List.mem_cons, List.not_mem_nil, or_false, not_or] at hb
        exact (sb.2 c hb.1).trans (hk c o hb.1 hb.2.2.1 hb.2.2.2.1 hb.2.2.2.2 q)) hf (Nat.le_refl _) new
    refine ⟨.ref s.heap.objs.size, _, I1, rfl, ⟨_, u, v, rfl, I.hok.fresh (Nat.le_refl _), rfl, fun l hl => by rw [I.list_inj hl qa]; exact hu, fun l hl => by rw [I.tuple_inj hl qb]; exact hv⟩, ⟨z2, ?_, ⟨x1, x2, ?_⟩, ?_, ?_⟩, fun c hcm => ?_⟩
    · exact (sb.2 _ D.TIz).trans (hk _ _ D.TIz D.TITO D.TIi1 D.TIi2 hI)
    · exact (sb.2 _ D.TOz).trans O'
    · exact t1.1.at fun o q => (sb.2 _ D.i1z).trans q
    · exact t2.1.at fun o q => (sb.2 _ D.i2z).trans q
    · have lt : c < s.heap.objs.size := by
        simp only [List.mem_cons, List.not_mem_nil, or_false] at hcm
        rcases hcm with rfl | rfl | rfl | rfl | rfl
        · exact zl
        · exact Heap.lt_size hI
        · exact Heap.lt_size hO
        · obtain ⟨_, q, _⟩ := s1
          exact Heap.lt_size q
        · obtain ⟨_, q, _⟩ := s2
          exact Heap.lt_size q
      rw [upd_ne (Nat.ne_of_lt lt)]
      exact (hf c hcm).1
  done := by
    intro X hP hw hK hc n pins s σ H E I hf st hg
    subst hP hw hK
    obtain ⟨hz, hI, ⟨u0, v0, hO⟩, s1, s2⟩ := st
    obtain ⟨us, vs, qa, qb, he⟩ := hg
    obtain ⟨is1, r1, p1, _⟩ := I.list qa
    obtain ⟨is2, r2, p2, _⟩ := I.tuple qb
    have l1 : us.length = is1.toArray.size := by rw [r1.length]; simp
    have l2 : vs.length = is2.toArray.size := by rw [r2.length]; simp
    have hh : X.A.in1.handled = none := I.ok.hd hc
    exact wpAny_pyNext_zipD2_end (zx_sep D) (Draws.list hh i1 a D.l1i1 is1.toArray) (Draws.tuple hh i2 b D.l2i2 is2.toArray) hz hI hO ⟨s1, p1.isList⟩ ⟨s2, p2⟩ (by omega) (by omega) (by omega) fun h' tk hk =>
      ⟨rfl, I.turnedL (t' := tk) (ch := [z, TI, TO, i1, i2]) (fun c o hb q => by
        simp only [List.mem_cons, List.not_mem_nil, or_false, not_or] at hb
        exact hk c o hb.1 hb.2.2.1 hb.2.2.2.1 hb.2.2.2.2 q) hf⟩
  self := fun A n s Q E st h => wpAny_pyIter_zip st.1 h
/-! ### the call -/
abbrev zx1 (h : Heap) (a : Addr) : Heap := h.push { cls := .type "list_iterator", data := .fields #[.ref a, .int 0 0] }
abbrev zx2 (h : Heap) (a b : Addr) : Heap := (zx1 h a).push { cls := .type "tuple_iterator", data := .fields #[.ref b, .int 0 0] }
abbrev zx3 (h : Heap) (a b : Addr) : Heap := (zx2 h a b).push { cls := .type "tuple", data := .seq #[.ref h.objs.size, .ref (zx1 h a).objs.size] }
abbrev zx4 (h : Heap) (a b : Addr) : Heap := (zx3 h a b).push { cls := .type "tuple", data := .seq #[.none, .none] }
abbrev zx5 (h : Heap) (a b : Addr) : Heap := (zx4 h a b).push { cls := .type "zip", data := .fields #[.none, .bool false, .bool false, .ref (zx2 h a b).objs.size, .ref (zx3 h a b).objs.size] }
theorem meets_zx (a b : Addr) (us vs : Array Value) :
    Meets (Builtin.«zip.__new__» ⟨[.type "zip", .ref a, .ref b], []⟩) (fun _ R s => s.heap.IsList a us ∧ s.heap.IsTuple b vs ∧ R (.ok (.ret (.ref (zx4 s.heap a b).objs.size))) { s with heap := zx5 s.heap a b }) :=
  .of_wp fun prog w A R s h => by
    obtain ⟨hp, g, d, tk, os⟩ := s
    obtain ⟨ha, hb, h⟩ := h
    have hsub := sub_zip
    have hA : Heap.IsList (Shared.heap ⟨hp, g, d, tk, os⟩) a us := ha
    have hB : Heap.IsTuple (Shared.heap ⟨hp.push { cls := .type "list_iterator", data := .fields #[.ref a, .int 0 0] }, g, d, tk, os⟩) b vs := Heap.IsTuple.push hb _
    wp_walk using wpAny_pyIter_list hA, wpAny_pyIter_tuple hB
    exact ⟨_, rfl, h⟩
theorem call_zx {prog : Program} {w : World} {A : Around} {E : Value → Shared → Prop} {s : Shared} {a b : Addr} {us vs : Array Value} {Q : Value → Shared → Prop} (ha : s.heap.IsList a us) (hb : s.heap.IsTuple b vs)
    (h : ∀ h', ZxSt (s.heap.objs.size + 4) (s.heap.objs.size + 2) (s.heap.objs.size + 3) s.heap.objs.size (s.heap.objs.size + 1) a b 0 h' → (∀ c o, s.heap.get? c = some o → h'.get? c = some o) → Q (.ref (s.heap.objs.size + 4)) { s with heap := h' }) :
    wpAny (model prog w) A (call (.type "zip") [.ref a, .ref b]) Q E s := by
  refine callType_new F.called_zip (by decide) (F.typeCall_zip_2 _ _) (F.newCall_zip_2 _ _) (fun o => F.args_object_init_3 o _ _) F.entry_zip_new (meets_zx a b us vs) ⟨ha, hb, ?_⟩
  have z1 : (zx1 s.heap a).objs.size = s.heap.objs.size + 1 := Heap.size_push ..
  have z2 : (zx2 s.heap a b).objs.size = s.heap.objs.size + 2 := by rw [Heap.size_push, z1]
  have z3 : (zx3 s.heap a b).objs.size = s.heap.objs.size + 3 := by rw [Heap.size_push, z2]
  have z4 : (zx4 s.heap a b).objs.size = s.heap.objs.size + 4 := by rw [Heap.size_push, z3]
  have g5 : (zx5 s.heap a b).get? (zx4 s.heap a b).objs.size = some _ := Heap.get?_push_size _ rfl
  have g4 : (zx5 s.heap a b).get? (zx3 s.heap a b).objs.size = some _ := Heap.get?_push_of_some _ (Heap.get?_push_size _ rfl)
  have g3 : (zx5 s.heap a b).get? (zx2 s.heap a b).objs.size = some _ := Heap.get?_push_of_some _ (Heap.get?_push_of_some _ (Heap.get?_push_size _ rfl))
  have g2 : (zx5 s.heap a b).get? (zx1 s.heap a).objs.size = some _ := Heap.get?_push_of_some _ (Heap.get?_push_of_some _ (Heap.get?_push_of_some _ (Heap.get?_push_size _ rfl)))
  have g1 : (zx5 s.heap a b).get? s.heap.objs.size = some _ := Heap.get?_push_of_some _ (Heap.get?_push_of_some _ (Heap.get?_push_of_some _ (Heap.get?_push_of_some _ (Heap.get?_push_size _ rfl))))
  show _ ∧ _
  rw [z2, z3, z4] at g5
  rw [z1, z2] at g3
  rw [z3] at g4
  rw [z1] at g2
  rw [z4]
  exact ⟨⟨_, g5, rfl⟩, h _ ⟨g5, g3, ⟨_, _, g4⟩, ⟨_, g1, rfl, rfl⟩, ⟨_, g2, rfl, rfl⟩⟩ fun c o x => Heap.get?_push_of_some _ (Heap.get?_push_of_some _ (Heap.get?_push_of_some _ (Heap.get?_push_of_some _ (Heap.get?_push_of_some _ x))))⟩
def iZipX (K : W.Frag) (ta : TA) : TI := fun σ H R => ta σ H fun xs H1 => ∃ a b us vs, xs = [.ref a, .ref b] ∧ SqL K H1 a us ∧ SqT K H1 b vs ∧ R (ItzX K a b) H1
theorem pi_zipX {X : Cx} {e e2 : Expr} {ta : TA} {p pos tpos : Pos} {elts : List Expr} {kk : Nat} (hg : Gl X "zip") (hm : X.mg "zip" = none) (ha : PA X [e, e2] ta)
    (hs : starEach [e, e2] X.env = (false, eval e X.env) :: starEach [e2] X.env := by rfl) (hpl : (backTo pos (starEach [e2] X.env)).any (·.1) = false := by rfl) :
    PI X (.Tuple elts kk tpos) (.Call (.Name "zip" p) [e, e2] [] pos) (iZipX X.K ta) := by
  refine ⟨fun pins s σ H R I h => ?_⟩
  refine Call_ (ld_blt I hg hm PyProof.Rows.boot_zip (PyProof.Rows.callWith_type1 (thn (ha.run pos pins s σ H _ I h) fun xs s1 ⟨ys, H1, I1, r1, q1⟩ => ?_) hs hpl))
  obtain ⟨a, b, us, vs, ex, qa, qb, q⟩ := q1
  subst ex
  obtain ⟨w1, w2, rfl, rr1, rr2⟩ : ∃ w1 w2, xs = [w1, w2] ∧ RelV (.ref a) w1 ∧ RelV (.ref b) w2 := by
    cases r1 with
    | cons y t =>
      cases t with
      | cons y' t =>
        cases t
        exact ⟨_, _, rfl, y, y'⟩
  obtain rfl : w1 = Value.ref a := rr1
  obtain rfl : w2 = Value.ref b := rr2
  obtain ⟨is1, m1, p1, _⟩ := I1.list qa
  obtain ⟨is2, m2, p2, _⟩ := I1.tuple qb
  obtain ⟨o2, e2, _⟩ := id p2
  refine call_zx p1.isList (show s1.heap.IsTuple b is2.toArray from p2) fun h' st hk => wpAny_pyIter_zip st.1 ?_
  have I2 : Inv X pins σ H1 { s1 with heap := h' } := I1.kept (t' := s1.toks) hk
  refine ⟨s1.heap.objs.size + 4, [s1.heap.objs.size + 4, s1.heap.objs.size + 2, s1.heap.objs.size + 3, s1.heap.objs.size, s1.heap.objs.size + 1], _, _, H1, rfl, I2, turn_zx (PySem.W.ktu_apart s1.heap.objs.size a b p1.lt (Heap.lt_size e2)), st, fun c hc => ?_, q⟩
  have le : s1.heap.objs.size ≤ c := by
    simp only [List.mem_cons, List.not_mem_nil, or_false] at hc
    rcases hc with rfl | rfl | rfl | rfl | rfl <;> simp
  exact I1.fpOk le (I1.hok.fresh le)
/-! ### walks over zips -/
section
variable {K : W.Frag} {a b : Addr} {us vs : List V} {H0 : Hp} {Qd : Hp → Prop} {B : V → Hp → (Hp → Prop) → Prop}
theorem loop_zipX (hn : us.length = vs.length) (Pv : Nat → Hp → Prop) (h0 : Pv 0 H0) (hl : ∀ i H, i ≤ us.length → Pv i H → SqL K H a us ∧ SqT K H b vs)
    (hs : ∀ i u v c H H', us[i]? = some u → vs[i]? = some v → Pv i H → Same H H' → H' c = some (.tup [u, v]) → B (.ref c) H' (Pv (i + 1))) (hd : ∀ H, Pv us.length H → Qd H) :
    ∃ W : Nat → Nat → Hp → Prop, (∃ m, W 0 m H0) ∧ ∀ i m H, W i m H → ((ItzX K a b).stop i H ∧ Qd H) ∨ ((ItzX K a b).go i H ∧ ∃ Nx : Hp → Prop, (∀ H', Nx H' → ∃ m', m' < m ∧ W (i + 1) m' H') ∧ ∀ x H', (ItzX K a b).yld i H x H' → B x H' Nx) := by
  refine ⟨fun i m H => m = us.length - i ∧ i ≤ us.length ∧ Pv i H, ⟨us.length, rfl, Nat.zero_le _, h0⟩, ?_⟩
  rintro i m H ⟨rfl, hi, p⟩
  obtain ⟨q, q'⟩ := hl i H hi p
  rcases Nat.lt_or_ge i us.length with lt | ge
  · have e1 := List.getElem?_eq_getElem lt
    have e2 := List.getElem?_eq_getElem (hn ▸ lt)
    refine .inr ⟨⟨us, vs, _, _, q, q', e1, e2⟩, Pv (i + 1), fun H' p' => ⟨us.length - (i + 1), by omega, rfl, lt, p'⟩, fun x H' y => ?_⟩
    obtain ⟨c, u, v, rfl, hc, rfl, f1, f2⟩ := y
    exact hs i u v c H _ (f1 us q) (f2 vs q') p (fun r o e => by rw [upd_ne (fun z => by rw [z, hc] at e; cases e)]; exact e) (upd_same ..)
  · obtain rfl : i = us.length := by omega
    exact .inl ⟨⟨us, vs, q, q', .inl ⟨rfl, Nat.le_of_eq hn⟩⟩, hd H p⟩
theorem loop_zipT {n : Nat} (hn : (n = us.length ∧ n ≤ vs.length) ∨ (n = vs.length ∧ n ≤ us.length)) (Pv : Nat → Hp → Prop) (h0 : Pv 0 H0) (hl : ∀ i H, i ≤ n → Pv i H → SqT K H a us ∧ SqT K H b vs)
    (hs : ∀ i u v c H H', us[i]? = some u → vs[i]? = some v → Pv i H → Same H H' → H' c = some (.tup [u, v]) → B (.ref c) H' (Pv (i + 1))) (hd : ∀ H, Pv n H → Qd H) :
    ∃ W : Nat → Nat → Hp → Prop, (∃ m, W 0 m H0) ∧ ∀ i m H, W i m H → ((RZ.ItzT K a b).stop i H ∧ Qd H) ∨ ((RZ.ItzT K a b).go i H ∧ ∃ Nx : Hp → Prop, (∀ H', Nx H' → ∃ m', m' < m ∧ W (i + 1) m' H') ∧ ∀ x H', (RZ.ItzT K a b).yld i H x H' → B x H' Nx) := by
  refine ⟨fun i m H => m = n - i ∧ i ≤ n ∧ Pv i H, ⟨n, rfl, Nat.zero_le _, h0⟩, ?_⟩
  rintro i m H ⟨rfl, hi, p⟩
  obtain ⟨q, q'⟩ := hl i H hi p
  rcases Nat.lt_or_ge i n with lt | ge
  · have e1 := List.getElem?_eq_getElem (show i < us.length by omega)
    have e2 := List.getElem?_eq_getElem (show i < vs.length by omega)
    refine .inr ⟨⟨us, vs, _, _, q, q', e1, e2⟩, Pv (i + 1), fun H' p' => ⟨n - (i + 1), by omega, rfl, lt, p'⟩, fun x H' y => ?_⟩
    obtain ⟨c, u, v, rfl, hc, rfl, f1, f2⟩ := y
    exact hs i u v c H _ (f1 us q) (f2 vs q') p (fun r o e => by rw [upd_ne (fun z => by rw [z, hc] at e; cases e)]; exact e) (upd_same ..)
  · obtain rfl : i = n := by omega
    exact .inl ⟨⟨us, vs, q, q', by omega⟩, hd H p⟩
/-- for u, v in zip(list, tuple) -/
theorem for_zipX {g : TG} {tb : TS} {D : Ends} {σ : L2.St} {H : Hp} (hn : us.length = vs.length) (Pv : Nat → L2.St → Hp → Prop) (h0 : Pv 0 σ H) (hl : ∀ i σ H, i ≤ us.length → Pv i σ H → SqL K H a us ∧ SqT K H b vs)
    (hs : ∀ i u v c σ H H', us[i]? = some u → vs[i]? = some v → Pv i σ H → Same H H' → H' c = some (.tup [u, v]) → g (.ref c) σ H' fun σ2 H2 => tb { D with nx := Pv (i + 1), ct := Pv (i + 1), bk := D.nx } σ2 H2) (hd : ∀ σ H, Pv us.length σ H → D.nx σ H) :
    ∃ W : Nat → Nat → L2.St → Hp → Prop, (∃ m, W 0 m σ H) ∧ ∀ i m σ H, W i m σ H →
      ((ItzX K a b).stop i H ∧ D.nx σ H) ∨ ((ItzX K a b).go i H ∧ ∃ N : L2.St → Hp → Prop, (∀ σ' H', N σ' H' → ∃ m', m' < m ∧ W (i + 1) m' σ' H') ∧ ∀ x H', (ItzX K a b).yld i H x H' → g x σ H' fun σ2 H2 => tb { D with nx := N, ct := N, bk := D.nx } σ2 H2) := by
  refine ⟨fun i m σ H => m = us.length - i ∧ i ≤ us.length ∧ Pv i σ H, ⟨us.length, rfl, Nat.zero_le _, h0⟩, ?_⟩
  rintro i m σ H ⟨rfl, hi, p⟩
  obtain ⟨q, q'⟩ := hl i σ H hi p
  rcases Nat.lt_or_ge i us.length with lt | ge
  · have e1 := List.getElem?_eq_getElem lt
    have e2 := List.getElem?_eq_getElem (hn ▸ lt)
    refine .inr ⟨⟨us, vs, _, _, q, q', e1, e2⟩, Pv (i + 1), fun σ' H' p' => ⟨us.length - (i + 1), by omega, rfl, lt, p'⟩, fun x H' y => ?_⟩
    obtain ⟨c, u, v, rfl, hc, rfl, f1, f2⟩ := y
    exact hs i u v c σ H _ (f1 us q) (f2 vs q') p (fun r o e => by rw [upd_ne (fun z => by rw [z, hc] at e; cases e)]; exact e) (upd_same ..)
  · obtain rfl : i = us.length := by omega
    exact .inl ⟨⟨us, vs, q, q', .inl ⟨rfl, Nat.le_of_eq hn⟩⟩, hd σ H p⟩
end
end EW
end

section
set_option maxHeartbeats 4000000
/-! EwShp2: kinds; shapes as dicts; the names of times and domains in order. -/
namespace EW
open PySem PySem.Spec PyProof.Rows L2
inductive Kd where
  | time
  | dom (l : List Str)
abbrev Shp := List (Str × Kd)
def Kd.isT : Kd → Bool
  | .time => true
  | .dom _ => false
def Kd.vals : Kd → List Str
  | .time => []
  | .dom l => l
def KdV (K : W.Frag) (H : Hp) (v : V) : Kd → Prop
  | .time => v = .str "time"
  | .dom l => Tp K H v (l.map V.str)
def kdD : Kd → PyData
  | .time => .str "time"
  | .dom l => .tuple (l.map PyData.str)
/-- the names of a shape are keys, the kinds their values -/
abbrev Ent (K : W.Frag) (H : Hp) : List (Key × V) → Shp → Prop := Paired fun kv s => kv.1 = Sum.inr s.1 ∧ KdV K H kv.2 s.2
def ShpAt (K : W.Frag) (H : Hp) (v : V) (S : Shp) : Prop := ∃ d kvs, v = .ref d ∧ H d = some (.dK kvs) ∧ Ent K H kvs S
section
variable {K : W.Frag} {H H' : Hp} {v : V} {S : Shp} {kvs : List (Key × V)} {k : Kd}
theorem KdV.same (h : KdV K H v k) (s : Same H H') : KdV K H' v k := by
  cases k with
  | time => exact h
  | dom l => exact Tp.same h s
theorem Ent.same (h : Ent K H kvs S) (s : Same H H') : Ent K H' kvs S := Paired.mono (fun _ _ q => ⟨q.1, q.2.same s⟩) h
theorem ShpAt.same (h : ShpAt K H v S) (s : Same H H') : ShpAt K H' v S := let ⟨d, kvs, e, h1, h2⟩ := h; ⟨d, kvs, e, s _ _ h1, h2.same s⟩
theorem Tp.keptD {d : Addr} {o : HO} {xs : List V} (h : Tp K H v xs) (hd : H d = some o) (n1 : ∀ ys, o ≠ .tup ys) (n2 : ∀ b u, o ≠ .frz b u) (k : Kept d H H') : Tp K H' v xs := let ⟨a, e, q⟩ := h; ⟨a, e, SqT.keptO q hd n1 n2 k⟩
theorem KdV.keptL {l : Addr} {ys : List V} (h : KdV K H v k) (hl : H l = some (.lst ys)) (q : Kept l H H') : KdV K H' v k := by
  cases k with
  | time => exact h
  | dom l => exact Tp.kept h hl q
theorem KdV.keptD {d : Addr} {kvs : List (Key × V)} (h : KdV K H v k) (hd : H d = some (.dK kvs)) (q : Kept d H H') : KdV K H' v k := by
  cases k with
  | time => exact h
  | dom l => exact Tp.keptD h hd (fun _ z => nomatch z) (fun _ _ z => nomatch z) q
theorem ShpAt.kept {l : Addr} {ys : List V} (h : ShpAt K H v S) (hl : H l = some (.lst ys)) (q : Kept l H H') : ShpAt K H' v S := by
  obtain ⟨d, kvs, e, h1, h2⟩ := h
  exact ⟨d, kvs, e, q _ _ (fun z => by rw [z, hl] at h1; cases h1) h1, Paired.mono (fun _ _ r => ⟨r.1, r.2.keptL hl q⟩) h2⟩
theorem same_lock {d : Addr} {u w : HO} (e : H d = some u) (s : Same (upd H d w) H') : Same H (upd H' d u) := fun c o h => by
  by_cases z : c = d
  · subst z
    rw [e] at h
    rw [upd_same, ← h]
  · rw [upd_ne z]
    exact s _ _ (by rw [upd_ne z]; exact h)
/-- the dict locked: the values stand -/
theorem Ent.lock {d : Addr} {o : Obj} {kvs' : List (Key × V)} (h : Ent K H kvs S) (hd : H d = some (.dK kvs')) : Ent K (upd H d (.frz o (.dK kvs'))) kvs S :=
  Paired.mono (fun _ _ r => ⟨r.1, r.2.keptD hd fun c o' n e => by rw [upd_ne n]; exact e⟩) h
theorem ent_at {i : Nat} {key : Key} {x : V} (h : Ent K H kvs S) (e : kvs[i]? = some (key, x)) : ∃ z kd, S[i]? = some (z, kd) ∧ key = Sum.inr z ∧ KdV K H x kd := by
  obtain ⟨⟨z, kd⟩, h1, h2, h3⟩ := pr_get h e
  exact ⟨z, kd, h1, h2, h3⟩
/-- a name's kind in the dict -/
theorem ent_val : ∀ {kvs : List (Key × V)} {S : Shp} {z : Str} {kd : Kd}, Ent K H kvs S → (S.map (·.1)).Nodup → (z, kd) ∈ S → ∃ x, valV kvs (Sum.inr z : Key) = some x ∧ KdV K H x kd
  | _, _, z, kd, .nil, _, hm => by cases hm
  | (key, x) :: kvs, (y, kd') :: S, z, kd, .cons h t, nd, hm => by
    obtain ⟨e, hk⟩ := h
    have e : key = Sum.inr y := e
    rw [List.map_cons, List.nodup_cons] at nd
    rcases List.mem_cons.mp hm with q | q
    · cases q
      exact ⟨x, valV_pos e, hk⟩
    · have ne : ¬ key = Sum.inr z := fun w => by
        rw [e] at w
        cases w
        exact nd.1 (List.mem_map.mpr ⟨_, q, rfl⟩)
      obtain ⟨x', h1, h2⟩ := ent_val t nd.2 q
      exact ⟨x', by rw [show valV ((key, x) :: kvs) (Sum.inr z : Key) = valV kvs (Sum.inr z) from valV_neg ne]; exact h1, h2⟩
theorem strs_dp : ∀ l : List Str, DpAll K H (l.map V.str) (l.map PyData.str)
  | [] => .nil
  | x :: r => .cons (.str x) (strs_dp r)
theorem kd_dp (h : KdV K H v k) : Dp K H v (kdD k) := by
  cases k with
  | time =>
    have h : v = .str "time" := h
    subst h
    exact .str _
  | dom l =>
    obtain ⟨a, rfl, q⟩ := h
    exact .tup q (strs_dp l)
theorem strs_depth : ∀ l : List Str, PyData.depthAll (l.map PyData.str) = 0
  | [] => rfl
  | x :: r => by simp [PyData.depthAll, PyData.depth, strs_depth r]
theorem kd_eqv (k : Kd) : PyData.eqv (kdD k) (.str "time") = k.isT := by
  cases k with
  | time => decide
  | dom l => rfl
end
/-! ### names in order -/
instance : DecidableRel leS := fun a b => inferInstanceAs (Decidable (¬ _))
def srt (l : List Str) : List Str := l.mergeSort fun a b => decide (leS a b)
theorem leS_total (a b : Str) : leS a b ∨ leS b a := by
  by_cases h : leS a b
  · exact .inl h
  · refine .inr fun w => h fun w' => ?_
    exact absurd (List.lt_trans w w') (List.lt_irrefl _)
theorem srt_perm (l : List Str) : (srt l).Perm l := List.mergeSort_perm ..
theorem srt_pw (l : List Str) : (srt l).Pairwise leS := by
  have h := List.pairwise_mergeSort (le := fun a b => decide (leS a b)) (fun a b c h1 h2 => decide_eq_true (leS_trans (of_decide_eq_true h1) (of_decide_eq_true h2)))
    (fun a b => by rcases leS_total a b with h | h <;> simp [h]) l
  exact h.imp fun h => of_decide_eq_true h
theorem srt_eq {l m : List Str} (p : m.Perm l) (h : sortedS m = true) : m = srt l := List.Perm.eq_of_pairwise (fun a b _ _ h h' => leS_anti h h') (pw_sortedS h) (srt_pw l) (p.trans (srt_perm l).symm)
def tms (S : Shp) : List Str := srt ((S.filter fun q => q.2.isT).map (·.1))
def dms (S : Shp) : List Str := srt ((S.filter fun q => !q.2.isT).map (·.1))
def letters : List Nat := Str.cps "abcdefghijklmnopqrstuvwxyz" |>.toList
def NameOk (z : Str) : Prop := 1 ≤ z.length ∧ z.length ≤ 8 ∧ ∀ c ∈ z.cps.toList, c ∈ letters
instance (z : Str) : Decidable (NameOk z) := inferInstanceAs (Decidable (_ ∧ _ ∧ _))
def Rise : List Str → Prop
  | [] => True
  | [_] => True
  | x :: y :: r => x.cps.toList < y.cps.toList ∧ Rise (y :: r)
instance : ∀ l : List Str, Decidable (Rise l)
  | [] => .isTrue True.intro
  | [_] => .isTrue True.intro
  | x :: y :: r => have := instDecidableRise (y :: r); inferInstanceAs (Decidable (_ ∧ _))
structure DomOk (l : List Str) : Prop where
  pos : 1 ≤ l.length
  few : l.length ≤ 8
  nam : ∀ z ∈ l, NameOk z ∧ z ≠ "time"
  up : Rise l
theorem NameOk.str {z : Str} (h : NameOk z) : PyData.strOk z = true := by
  have q : ∀ c ∈ letters, c < 0x110000 := by decide
  unfold PyData.strOk
  rw [Array.all_eq_true_iff_forall_mem]
  exact fun c hc => decide_eq_true (q c (h.2.2 c (Array.mem_def.mp hc)))
theorem strs_lay : ∀ l : List Str, (∀ z ∈ l, NameOk z) → PyData.canLayAll0 (l.map PyData.str) = true
  | [], _ => rfl
  | x :: r, h => by
    simp only [List.map_cons, PyData.canLayAll0, PyData.canLay0, (h x List.mem_cons_self).str, strs_lay r fun z hz => h z (List.mem_cons_of_mem _ hz)]
    rfl
theorem kd_shaped (k : Kd) (h : ∀ l, k = .dom l → DomOk l) : SeqAt.shaped (kdD k) = true := by
  cases k with
  | time => decide +kernel
  | dom l => simp [kdD, SeqAt.shaped, PyData.canLay0, strs_lay l fun z hz => ((h l rfl).nam z hz).1, PyData.depth, strs_depth]
structure ShpOk (S : Shp) : Prop where
  nd : (S.map (·.1)).Nodup
  nam : ∀ q ∈ S, NameOk q.1 ∧ q.1 ≠ "now"
  dom : ∀ q ∈ S, ∀ l, q.2 = .dom l → DomOk l
  tms : (tms S).length ≤ 2
  few : S.length - (EW.tms S).length ≤ 3
  all : S.length < 64
theorem rise_at : ∀ {l : List Str} {i : Nat} {x y : Str}, Rise l → l[i]? = some x → (l.drop 1)[i]? = some y → x.cps.toList < y.cps.toList
  | [], _, _, _, _, h, _ => by cases h
  | [_], i, x, y, _, _, h => by
    rw [List.getElem?_drop] at h
    have : ¬ (1 + i < 1) := by omega
    rw [List.getElem?_eq_none (by simp)] at h
    cases h
  | a :: b :: r, 0, x, y, h, h1, h2 => by
    cases h1
    cases h2
    exact h.1
  | a :: b :: r, i + 1, x, y, h, h1, h2 => by
    refine rise_at (l := b :: r) (i := i) h.2 h1 ?_
    simpa using h2
end EW
end

section
set_option maxHeartbeats 4000000
/-! EwSet3: set(l) with its members told, sorted(s) of fewer than 64. -/
namespace EW
open PySem PySem.Spec PyProof.Rows L2
section
variable {X : Cx}
theorem cr_setLm (K : W.Frag) (w : World) (h : X.K = K) (hw : X.w = w) (hc : X.calm = true) : CallR X (.type "set") (fun vs H Q => ∃ (a : Addr) (ns : List Int), vs = [V.ref a] ∧ SqL K H a (ns.map V.int) ∧ ns.length + 1 < scanBound ∧ ∀ (p : Addr) (c : Nat) (H' : Hp), H p = none → Same H H' → H' p = some (SetO w p (fun j => decide (j ∈ ns)) c) → c ≤ ns.length → Q (.ref p) H') := by
  subst h
  subst hw
  intro pins s σ H vs us Q I r h
  obtain ⟨a, ns, rfl, hS, hb, q⟩ := h
  obtain rfl := Vals.ref1 r
  obtain ⟨its, rv, hl, hz⟩ := I.list hS
  refine call_setL (I.ok.hd hc) hl.isList (show IntsAre its.toArray.toList ns from rv.ints) hb fun h' tk c R hcn kp => ?_
  have hf := I.hok.fresh (Nat.le_refl s.heap.objs.size)
  exact ⟨.ref _, upd H s.heap.objs.size (SetO X.w s.heap.objs.size (fun j => decide (j ∈ ns)) c), I.laid (t' := tk) kp (Nat.le_refl _) (setO_new R), rfl, q _ c _ hf (sameN hf) upd_same hcn⟩
theorem cr_sortedSetm (w : World) (hw : X.w = w) (hc : X.calm = true) : CallR X (.builtin "sorted") (fun vs H Q => ∃ (a : Addr) (S : Int → Bool) (n : Nat), vs = [V.ref a] ∧ H a = some (SetO w a S n) ∧ n < 64 ∧ ∀ ns : List Int, ns.Pairwise (· < ·) → (∀ k : Int, k ∈ ns ↔ S k = true) → ns.length = n → New H (fun _ => .lst (ns.map V.int)) Q) := by
  subst hw
  intro pins s σ H vs us Q I r h
  obtain ⟨a, S, n, e, h1, h2, q⟩ := h
  exact cr_sortedSet hc pins s σ H vs us Q I r ⟨a, S, n, e, h1, h2, fun ns p g1 g2 g3 hp => (q ns g1 g2 g3).at hp⟩
end
end EW
end

section
set_option maxHeartbeats 4000000
namespace EW
open PySem PySem.Spec PyProof.Rows L2
/-! ### str(o), o with an own __str__ -/
section
open Builtin Builtin.Str PySem.W PySem.Calls
variable {prog : Program} {w : World} {A : Around} {E : Value → Shared → Prop} {s : Shared} {K : W.Frag} {x C f : Addr} {ox : Obj} {od : Option Obj}
theorem str_own {Q : Value → Shared → Prop} (hu : A.in1.in1.units < cLine) (Kn : K.In s.heap) (J : W.InstAt s.heap x ox C od) (hs : W.findIn K (.ref C) "__str__" = some (some (.ref f))) (hf : W.isFn K (.ref f) = true)
    (h : wpAny (model prog w) A.in1.in1 (call (.ref f) [.ref x]) (fun v s' => ∃ y t, v = .str y t ∧ Q v s') E s) : wpAny (model prog w) A (call (.type "str") [.ref x]) Q E s := by
  refine callType_codes (T := "str") (Bi := Builtin.«object.__init__») (Q₁ := fun r s₁ => ∃ y u, r = .str y u ∧ Q r s₁) PySem.F.called_str (PySem.F.typeCall_str_1 _) PySem.F.entry_object_init ?_ ?_
  · refine codeAny_of_tree ?_
    show wpAny _ A.in1.in1 (do checkBuiltinCall "str.__new__" ⟨[.type "str", .ref x], []⟩; again (.builtin "str.__new__" ⟨[.type "str", .ref x], []⟩)) _ _ s
    refine wpAny_bind (wpAny_of_eq (PySem.F.newCall_str_1 _) (wpAny_pure ⟨plainId_quiet (by decide +kernel) _, codeAny_builtin PySem.F.entry_str_new ?_⟩))
    rw [Around.under_plainId (by decide +kernel) _]
    rw [str_new_tree]
    refine wpAny_bind (wpAny_pure ?_)
    refine wpAny_bind (wpAny_of_eq isSubtype_str_str ?_)
    have key : wpAny (model prog w) A.in1.in1 (PySem.Builtin.Str.strOf (.ref x)) (fun r s₁ => ∃ y u, r = .str y u ∧ Q r s₁) E s := by
      unfold PySem.Builtin.Str.strOf
      rw [show isExactStr (.ref x) = false from rfl]
      refine wpAny_bind (m := cRoomFor _ _) (wpAny_cRoomFor hu ?_)
      refine wpAny_bind (m := callSpecial? (.ref x) (Str.ofString "__str__")) (W.special_fn Kn J hs (beq_iff_eq.mp hf) (wpAny_mono h (fun r s' z => ?_) fun _ _ y => y))
      obtain ⟨y, t, rfl, z⟩ := z
      exact wpAny_pure ⟨_, _, rfl, z⟩
    exact wpAny_bind (wpAny_mono key (fun r s₁ hr => wpAny_pure hr) fun _ _ y => y)
  · rintro obj s₁ ⟨y, u, rfl, hq⟩
    exact ⟨typeIs_str _ _ _, PySem.F.args_object_init_2 _ _, object_init_meets PySem.F.called_str.init.lookup PySem.F.called_str.made (by decide) prog w A.in1 _ s₁ ⟨typeIs_str _ _ _, rfl, hq⟩⟩
end
section
variable {X : Cx} {k : Nat} {ps : List Str} {sp : Sp} {C : Addr}
theorem call_strO (M : Mt X.prog X.w X.K X.mg X.base k C "__str__" ps sp) (hr : Room (k + 2) X.A) : CallR X (.type "str") (fun xs H Q => ∃ x, xs = [x] ∧ IsC H C x ∧ sp [x] H (fun z H' => ∃ y, z = .str y ∧ Q (.str y) H') E0) := by
  intro pins s σ H xs us Q I r h
  obtain ⟨x, rfl, hi, h⟩ := h
  obtain ⟨u, rfl, ru⟩ := r.one
  obtain ⟨f, fd, F, hb, hs, hf⟩ := M.ex
  obtain ⟨a, ox, od, rfl, J⟩ := hi.at_ I ru
  refine str_own (by have := hr.units; show X.A.units + 1 + 1 < cLine; omega) I.kIn J hs hf ?_
  refine wpAny_mono (run_at F (Sub.in1 (Sub.in1 ⟨hr, rfl⟩)) hb I (.cons ru .nil) h) (fun v s' z => ?_) fun _ _ z => z
  obtain ⟨v', H', I', rv, y, rfl, q⟩ := z
  obtain ⟨t, rfl⟩ := rv
  exact ⟨y, t, rfl, .str y, H', I', ⟨t, rfl⟩, q⟩
end
theorem boot_str : bootBuiltins "str" = some (.type "str") := by decide +kernel
end EW
end

section
set_option maxHeartbeats 4000000
namespace EW
open PySem PySem.Spec PyProof.Rows L2
theorem boot_dict : bootBuiltins "dict" = some (.type "dict") := by decide +kernel
theorem iteD {c : Bool} {A B : Prop} (h : c = true) (a : A) : if c = true then A else B := by
  subst h
  exact a
theorem iteN {c : Bool} {A B : Prop} (h : c = false) (b : B) : if c = true then A else B := by
  subst h
  exact b
theorem same_upd {H H' : Hp} {D : Addr} {o : HO} (s : Same H H') (h : H D = none) : Same H (upd H' D o) := fun c u e => by
  rw [upd_ne (fun z => by rw [z, h] at e; cases e)]
  exact s _ _ e
theorem upd_new {H : Hp} {D : Addr} {o : HO} (h : H D = none) : Same H (upd H D o) := same_upd (Same.refl H) h
theorem op_inK {X : Cx} (K : W.Frag) (h : X.K = K) : OpR X (compareOp .In) (rIn K false) := by
  subst h
  exact op_in_seq
end EW
namespace TM
open PySem PySem.Spec PyProof.Rows L2 EW
abbrev NIsName : List Str := ["value", "sign"]
theorem IsName : FnScope NIsName ["value"] (defScope sIsName) := ⟨rfl, rfl, rfl, by decide +kernel, rfl, by decide +kernel, by decide +kernel⟩
abbrev NIsDomain : List Str := ["value", "one", "other"]
theorem IsDomain : FnScope NIsDomain ["value"] (defScope sIsDomain) := ⟨rfl, rfl, rfl, by decide +kernel, rfl, by decide +kernel, by decide +kernel⟩
abbrev NIsKind : List Str := ["value"]
theorem IsKind : FnScope NIsKind ["value"] (defScope sIsKind) := ⟨rfl, rfl, rfl, by decide +kernel, rfl, by decide +kernel, by decide +kernel⟩
abbrev NIsCol : List Str := ["value"]
theorem IsCol : FnScope NIsCol ["value"] (defScope sIsCol) := ⟨rfl, rfl, rfl, by decide +kernel, rfl, by decide +kernel, by decide +kernel⟩
abbrev NTimesIn : List Str := ["shape", "column"]
theorem TimesIn : FnScope NTimesIn ["shape"] (defScope sTimesIn) := ⟨rfl, rfl, rfl, by decide +kernel, rfl, by decide +kernel, by decide +kernel⟩
abbrev NDomsIn : List Str := ["shape", "column"]
theorem DomsIn : FnScope NDomsIn ["shape"] (defScope sDomsIn) := ⟨rfl, rfl, rfl, by decide +kernel, rfl, by decide +kernel, by decide +kernel⟩
def spName : Sp := fun vs H Q _ => ∃ z, vs = [.str z] ∧ NameOk z ∧ ∀ H', Same H H' → Q (.bl true) H'
def spDomain (K : W.Frag) : Sp := fun vs H Q _ => ∃ (v : V) (l : List Str), vs = [v] ∧ Tp K H v (l.map V.str) ∧ DomOk l ∧ ∀ H', Same H H' → Q (.bl true) H'
def spKind (K : W.Frag) : Sp := fun vs H Q _ => ∃ (v : V) (k : Kd), vs = [v] ∧ KdV K H v k ∧ (∀ l, k = .dom l → DomOk l) ∧ ∀ H', Same H H' → Q (.bl true) H'
def spCol : Sp := fun vs H Q _ => ∃ z, vs = [.str z] ∧ NameOk z ∧ z ≠ "now" ∧ ∀ H', Same H H' → Q (.bl true) H'
def spNames (K : W.Frag) (f : Shp → List Str) : Sp := fun vs H Q _ => ∃ (v : V) (S : Shp), vs = [v] ∧ ShpAt K H v S ∧ ShpOk S ∧ ∀ (p : Addr) (H' : Hp), Same H H' → H' p = some (.lst ((f S).map V.str)) → Q (.ref p) H'
section
variable {P : Program} {w : World} {K : W.Frag} {mg : Str → Option Value} {base : Heap}
theorem ok_name {fd : FuncData} (F : FnP K "is_name" sIsName fd) (T : Fre mg) (G : Glb K mg) : FnOk P w K mg base CX0 1 (He.ga K "is_name") fd ["value"] spName := by
  refine F.ok IsName (fun vs H Q E h => ?_) (fun cdv A outer s H vs Q E hr h => ?_)
  · obtain ⟨z, rfl, _⟩ := h
    rfl
  · obtain ⟨z, rfl, ⟨z1, z2, z3⟩, k⟩ := h
    have hbig : (64 : Nat) ≤ sizeLine := by decide
    refine ⟨_, PSs.nox (pss_one (ps_ret (pe_and (pe_callB (call_isiE K rfl) (by rfl) T.isinstance EW.boot_isinstance (pa_cons (pv 0) (pa_cons (pe_bltn (v := .ty "str") rfl T.str EW.boot_str rfl) pa_nil))) (pe_and (pe_chain op_le op_le pe_int (pe_callB (call_lenK K rfl) (by rfl) T.len PySem.boot_len (pa_cons (pv 0) pa_nil)) (pe_glob (v := .int 8) rfl G.ml.choose_spec ⟨_, rfl⟩)) (pe_one (pe_callB (cr_allK K rfl rfl) (by rfl) T.all EW.boot_all (pa_cons (pe_lc (own := [("sign", 1)]) (g := gName 1) (tt := tYes) (by rfl) IsName.nd (pi_str (pv 0)) (blkOk_by (own := [("sign", 1)]) (N := NIsName) (sc := defScope sIsName) (by decide +kernel)) (fun _ _ _ _ _ => (pg_name (i := 1) IsName.nd rfl (Or.inl rfl))) (fun _ _ _ _ _ => pts_nil) (fun _ _ _ _ _ => (pe_cmpR op_in_sign (pv 1) (pe_glob (v := .str "abcdefghijklmnopqrstuvwxyz") rfl G.letters.choose_spec ⟨_, rfl⟩) rfl))) pa_nil))))))), ?_⟩
    refine ⟨_, rfl, .str z, _, .type "str", _, true, rfl, .ty "str", .base (.str z), kit_ty kb5, true, rfl, iteT ?_⟩
    refine ⟨_, rfl, _, _, rfl, ⟨by omega, rfl⟩, _, _, rfl, rfl, _, rfl, ?_⟩
    refine iteD (decide_eq_true (by omega)) ?_
    refine ⟨_, _, rfl, rfl, _, rfl, iteD (decide_eq_true (by omega)) ?_⟩
    refine ⟨_, rfl, z, rfl, fun D hD => ?_⟩
    refine loop_str (fun i H' => ∃ bs : List Bool, H' D = some (.lst (bs.map V.bl)) ∧ Same H H' ∧ bs.length = i ∧ bs.all id = true) ⟨[], upd_same, upd_new hD, rfl, rfl⟩ ?_ ?_
    · rintro i c H1 hc ⟨bs, eD, s1, hl, ha⟩
      refine ⟨rfl, ?_⟩
      have hi : i < z.cps.toList.length := (List.getElem?_eq_some_iff.mp hc).1
      have hi : i < z.length := by simpa [Str.length] using hi
      have hm : c ∈ letters := z3 c (List.mem_of_getElem? hc)
      refine ⟨_, rfl, _, _, rfl, rfl, ?_⟩
      refine ⟨_, eD, by rw [List.length_map]; omega, bs ++ [true], by rw [upd_same, List.map_append]; rw [decide_eq_true (show c ∈ (Str.cps "abcdefghijklmnopqrstuvwxyz").toList from hm)]; rfl, same_upd s1 hD, by rw [List.length_append, hl]; rfl, by rw [List.all_append, ha]; rfl⟩
    · rintro H1 ⟨bs, eD, s1, hl, ha⟩
      refine ⟨D, bs, rfl, SqL.of eD, ?_⟩
      rw [ha]
      exact k H1 s1
theorem ok_col {fd : FuncData} (F : FnP K "is_column_name" sIsCol fd) (G : Glb K mg) (Dis_name : Df P w K mg base 1 "is_name" ["value"] spName) : FnOk P w K mg base CX0 2 (He.ga K "is_column_name") fd ["value"] spCol := by
  refine F.ok IsCol (fun vs H Q E h => ?_) (fun cdv A outer s H vs Q E hr h => ?_)
  · obtain ⟨z, rfl, _⟩ := h
    rfl
  · obtain ⟨z, rfl, zo, ne, k⟩ := h
    refine ⟨_, PSs.nox (pss_one (ps_ret (pe_and (pe_df Dis_name (hr.mono (by decide)) rfl (pa_cons (pv 0) pa_nil)) (pe_one (pe_cmpR op_ne (pv 0) (pe_glob (v := .str "now") rfl G.now.choose_spec ⟨_, rfl⟩) (nomark _)))))), ?_⟩
    refine ⟨_, rfl, z, rfl, zo, fun H' s1 => ⟨_, rfl, iteT ⟨_, rfl, rfl, ?_⟩⟩⟩
    have := k H' s1
    simpa [ne] using this
theorem ok_domain {fd : FuncData} (F : FnP K "is_domain" sIsDomain fd) (T : Fre mg) (G : Glb K mg) (Dis_name : Df P w K mg base 1 "is_name" ["value"] spName) : FnOk P w K mg base CX0 2 (He.ga K "is_domain") fd ["value"] (spDomain K) := by
  refine F.ok IsDomain (fun vs H Q E h => ?_) (fun cdv A outer s H vs Q E hr h => ?_)
  · obtain ⟨v, l, rfl, _⟩ := h
    rfl
  · obtain ⟨v, l, rfl, ⟨a, rfl, hS⟩, dk, k⟩ := h
    have hbig : (64 : Nat) ≤ sizeLine := by decide
    have d1 := dk.pos
    have d2 := dk.few
    refine ⟨_, PSs.nox (pss_cons (ps_if (PW.pt (pw_or (pt_not (pt_val (pe_callB (call_isiE K rfl) (by rfl) T.isinstance EW.boot_isinstance (pa_cons (pv 0) (pa_cons (pe_bltn (v := .ty "tuple") rfl T.tuple EW.boot_tuple rfl) pa_nil))))) (pw_or1 (pt_not (pt_chain op_le op_le pe_int (pe_callB (call_lenK K rfl) (by rfl) T.len PySem.boot_len (pa_cons (pv 0) pa_nil)) (pe_glob (v := .int 8) rfl G.mv.choose_spec ⟨_, rfl⟩)))))) (pss_one (ps_ret pe_bl)) pss_nil)
      (pss_cons (ps_if (pt_not (pt_val (pe_callB (cr_allK K rfl rfl) (by rfl) T.all EW.boot_all (pa_cons (pe_lc (own := [("one", 1)]) (g := gName 1) (tt := tYes) (by rfl) IsDomain.nd (pi_tupK (K := K) rfl (pv 0)) (blkOk_by (own := [("one", 1)]) (N := NIsDomain) (sc := defScope sIsDomain) (by decide +kernel)) (fun _ _ _ _ _ => (pg_name (i := 1) IsDomain.nd rfl (Or.inl rfl))) (fun _ _ _ _ _ => pts_nil) (fun _ _ _ _ _ => (pe_and (pe_df Dis_name (hr.mono (by decide)) rfl (pa_cons (pv 1) pa_nil)) (pe_one (pe_cmpR op_ne (pv 1) (pe_glob (v := .str "time") rfl G.time.choose_spec ⟨_, rfl⟩) (nomark _)))))) pa_nil)))) (pss_one (ps_ret pe_bl)) pss_nil)
      (pss_one (ps_ret (pe_callB (cr_allK K rfl rfl) (by rfl) T.all EW.boot_all (pa_cons (pe_lc (own := [("one", 1), ("other", 2)]) (g := gTup K 2 (gCons (gName 1) (gCons (gName 2) gNil))) (tt := tYes) (by rfl) IsDomain.nd (RZ.pi_zipA (by rfl) T.zip (pa_cons (pv 0) (pa_cons (pe_slice (sl_tupS K rfl) (pv 0) (po_some pe_int) po_none) pa_nil))) (blkOk_by (own := [("one", 1), ("other", 2)]) (N := NIsDomain) (sc := defScope sIsDomain) (by decide +kernel)) (fun _ _ _ _ _ => (pg_tup rfl (pgs_cons (pg_name (i := 1) IsDomain.nd rfl (Or.inl rfl)) (pgs_cons (pg_name (i := 2) IsDomain.nd rfl (Or.inl rfl)) pgs_nil)))) (fun _ _ _ _ _ => pts_nil) (fun _ _ _ _ _ => (pe_cmpR op_lt_str (pv 1) (pv 2) (nomark _)))) pa_nil)))))), ?_⟩
    refine ⟨_, rfl, .ref a, _, .type "tuple", _, true, rfl, .ty "tuple", tyT hS, kit_ty kb4, _, rfl, iteF ?_⟩
    refine ⟨_, rfl, _, _, rfl, .inr ⟨_, hS, rfl⟩, _, _, rfl, rfl, _, rfl, ?_⟩
    refine iteD (decide_eq_true (by rw [List.length_map]; omega)) ?_
    refine ⟨_, _, rfl, rfl, _, rfl, ?_⟩
    refine iteN (by rw [List.length_map, decide_eq_true (show (l.length : Int) ≤ 8 by omega)]; rfl) ?_
    refine ⟨_, rfl, a, rfl, ⟨_, hS⟩, fun D hD => ?_⟩
    refine loop_tup (xs := l.map V.str) (fun i H' => ∃ bs : List Bool, H' D = some (.lst (bs.map V.bl)) ∧ Same H H' ∧ bs.length = i ∧ bs.all id = true) ⟨[], upd_same, upd_new hD, rfl, rfl⟩ ?_ ?_ ?_
    · rintro i H1 _ ⟨bs, eD, s1, _⟩
      exact SqT.same hS s1
    · rintro i v H1 hv ⟨bs, eD, s1, hl, ha⟩
      rw [List.getElem?_map] at hv
      obtain ⟨z, hz, rfl⟩ := Option.map_eq_some_iff.mp hv
      have hi : i < l.length := (List.getElem?_eq_some_iff.mp hz).1
      obtain ⟨zo, zt⟩ := dk.nam z (List.mem_of_getElem? hz)
      refine ⟨rfl, ?_⟩
      refine ⟨_, rfl, z, rfl, zo, fun H2 s2 => ⟨_, rfl, iteT ⟨_, rfl, rfl, ?_⟩⟩⟩
      refine ⟨_, s2 _ _ eD, by rw [List.length_map]; omega, bs ++ [true], by rw [upd_same, List.map_append]; simp [zt], same_upd (s1.trans s2) hD, by rw [List.length_append, hl]; rfl, by rw [List.all_append, ha]; rfl⟩
    · rintro H1 ⟨bs, eD, s1, hl, ha⟩
      refine ⟨D, bs, rfl, SqL.of eD, _, rfl, ?_⟩
      refine iteN (by rw [ha]; rfl) ?_
      have hS1 := SqT.same hS s1
      refine ⟨_, rfl, _, rfl, _, rfl, a, _, rfl, hS1, fun ⟨z, _⟩ => by rw [show HT.sIx _ 0 (some 1) = _ from HT.sIx_nat _ 0 1, List.length_map] at z; omega, fun b H2 nb s2 eb => ?_⟩
      have ec : cutV (l.map V.str) (some 1) none = (l.drop 1).map V.str := by
        unfold cutV
        rw [show HT.sIx _ 0 (some 1) = _ from HT.sIx_nat _ 0 1, HT.sIx_none, List.length_map, show min 1 l.length = 1 by omega]
        rw [List.take_of_length_le (by simp), List.map_drop]
      refine ⟨a, b, _, _, rfl, .inr ⟨SqT.same hS1 s2, SqT.of eb, fun D2 hD2 => ?_⟩⟩
      rw [ec] at eb
      refine loop_zipT (n := l.length - 1) (us := l.map V.str) (vs := (l.drop 1).map V.str) (.inr ⟨by simp, by simp⟩) (fun i H' => ∃ bs : List Bool, H' D2 = some (.lst (bs.map V.bl)) ∧ Same H2 H' ∧ bs.length = i ∧ bs.all id = true) ⟨[], upd_same, upd_new hD2, rfl, rfl⟩ ?_ ?_ ?_
      · rintro i H3 _ ⟨_, _, s3, _⟩
        exact ⟨SqT.same (SqT.same hS1 s2) s3, SqT.same (SqT.of eb) s3⟩
      · rintro i u v c H3 H4 hu hv ⟨bs, eD, s3, hl, ha⟩ s4 ec
        rw [List.getElem?_map] at hu hv
        obtain ⟨x, hx, rfl⟩ := Option.map_eq_some_iff.mp hu
        obtain ⟨y, hy, rfl⟩ := Option.map_eq_some_iff.mp hv
        have hi : i < l.length := (List.getElem?_eq_some_iff.mp hx).1
        refine ⟨c, _, rfl, SqT.of ec, rfl, _, _, rfl, _, _, rfl, rfl, rfl, ?_⟩
        refine ⟨_, rfl, _, rfl, x, y, rfl, rfl, ?_⟩
        refine ⟨_, s4 _ _ eD, by rw [List.length_map]; omega, bs ++ [true], by rw [upd_same, List.map_append, decide_eq_true (rise_at dk.up hx hy)]; rfl, same_upd (s3.trans s4) hD2, by rw [List.length_append, hl]; rfl, by rw [List.all_append, ha]; rfl⟩
      · rintro H3 ⟨bs, eD, s3, hl, ha⟩
        refine ⟨D2, bs, rfl, SqL.of eD, ?_⟩
        rw [ha]
        exact k H3 (s1.trans (s2.trans s3))
theorem ok_timesIn {fd : FuncData} (F : FnP K "times_in" sTimesIn fd) (T : Fre mg) (G : Glb K mg) : FnOk P w K mg base CX0 1 (He.ga K "times_in") fd ["shape"] (spNames K tms) := by
  refine F.ok TimesIn (fun vs H Q E h => ?_) (fun cdv A outer s H vs Q E hr h => ?_)
  · obtain ⟨v, S, rfl, _⟩ := h
    rfl
  · obtain ⟨v, S, rfl, ⟨d, kvs, rfl, hd, en⟩, so, k⟩ := h
    have hbig : (64 : Nat) ≤ sizeLine := by decide
    refine ⟨_, PSs.nox (pss_one (ps_ret (pe_callB (cr_sortedS (X := _)) (by rfl) T.sorted EW.boot_sorted (pa_cons (pe_lock (pe_lc (own := [("column", 1)]) (g := gName 1) (tt := _) (by rfl) TimesIn.nd (pi_keys (pv 0)) (blkOk_by (own := [("column", 1)]) (N := NTimesIn) (sc := defScope sTimesIn) (by decide +kernel)) (fun _ _ _ _ _ => (pg_name (i := 1) TimesIn.nd rfl (Or.inl rfl))) (fun _ _ _ _ _ => (pts_one (pt_cmpR (op_eqDK K rfl hr.units) (pe_dget hr.u1 (pv 0) (pv 1) (fun _ _ => rfl)) (pe_glob (v := .str "time") rfl G.time.choose_spec ⟨_, rfl⟩) (nomark _)))) (fun _ _ _ _ _ => (pv 1)))) pa_nil)))), ?_⟩
    refine ⟨d, _, hd, True.intro, fun od => ?_⟩
    refine ⟨_, rfl, d, od, rfl, .inl ⟨kvs, upd_same, fun D hD => ?_⟩⟩
    have en2 := en.lock (o := od) hd
    have hlen := Paired.length en
    refine loop_keys (fun i H' => H' D = some (.lst ((((S.take i).filter fun q => q.2.isT).map (·.1)).map V.str)) ∧ Same (upd H d (.frz od (.dK kvs))) H') ⟨upd_same, upd_new hD⟩ ?_ ?_ ?_
    · rintro i H' _ ⟨_, s1⟩
      exact s1 _ _ upd_same
    · rintro i kk v H1 hkv ⟨eD, s1⟩
      obtain ⟨z, kd, hz, rfl, _⟩ := ent_at en2 hkv
      have hi : i < S.length := (List.getElem?_eq_some_iff.mp hz).1
      have et : S.take (i + 1) = S.take i ++ [(z, kd)] := by
        rw [List.take_add_one, hz]
        rfl
      have hm : (z, kd) ∈ S := List.mem_of_getElem? hz
      obtain ⟨x, hx, kx⟩ := ent_val (en2.same s1) so.nd hm
      refine ⟨rfl, ?_⟩
      refine ⟨_, rfl, _, rfl, d, x, rfl, .inl ⟨kvs, Sum.inr z, .inr ⟨od, s1 _ _ upd_same⟩, rfl, hx.symm⟩, ?_⟩
      refine ⟨kdD kd, .str "time", kd_dp kx, .str _, kd_shaped kd (so.dom _ hm), by decide +kernel, _, rfl, ?_⟩
      have hl : (((S.take i).filter fun q => q.2.isT).map (·.1)).length < 64 := by
        have := so.all
        have h2 := List.length_filter_le (fun q : Str × Kd => q.2.isT) (S.take i)
        rw [List.length_map]
        rw [List.length_take] at h2
        omega
      rw [kd_eqv]
      cases h : kd.isT with
      | true =>
        refine iteT ⟨_, rfl, ?_⟩
        refine ⟨_, eD, by rw [List.length_map]; omega, ?_, same_upd s1 hD⟩
        rw [upd_same, et, List.filter_append, List.map_append, List.map_append, List.filter_cons_of_pos (by simp [h])]
        rfl
      | false =>
        refine iteF ⟨?_, s1⟩
        rw [et, List.filter_append, List.filter_cons_of_neg (by simp [h]), List.filter_nil, List.append_nil]
        exact eD
    · rintro H1 ⟨eD, s1⟩
      refine ⟨s1 _ _ upd_same, ?_⟩
      have nD : D ≠ d := fun z => by
        rw [z, upd_same] at hD
        cases hD
      have e1 : S.take kvs.length = S := by rw [hlen, List.take_length]
      rw [e1] at eD
      have hl : (((S.filter fun q => q.2.isT).map (·.1))).length < 64 := by
        have := so.all
        have h2 := List.length_filter_le (fun q : Str × Kd => q.2.isT) S
        rw [List.length_map]
        omega
      refine ⟨D, _, rfl, SqL.of (by rw [upd_ne nD]; exact eD), hl, fun ys p pe so' hp => ?_⟩
      have ey := srt_eq pe so'
      refine k p _ (same_upd (same_lock hd s1) ?_) ?_
      · cases q : H p with
        | none => rfl
        | some o =>
          have := same_lock hd s1 _ _ q
          rw [hp] at this
          cases this
      · rw [upd_same, ey]
        rfl
theorem ok_domsIn {fd : FuncData} (F : FnP K "domains_in" sDomsIn fd) (T : Fre mg) (G : Glb K mg) : FnOk P w K mg base CX0 1 (He.ga K "domains_in") fd ["shape"] (spNames K dms) := by
  refine F.ok DomsIn (fun vs H Q E h => ?_) (fun cdv A outer s H vs Q E hr h => ?_)
  · obtain ⟨v, S, rfl, _⟩ := h
    rfl
  · obtain ⟨v, S, rfl, ⟨d, kvs, rfl, hd, en⟩, so, k⟩ := h
    have hbig : (64 : Nat) ≤ sizeLine := by decide
    refine ⟨_, PSs.nox (pss_one (ps_ret (pe_callB (cr_sortedS (X := _)) (by rfl) T.sorted EW.boot_sorted (pa_cons (pe_lock (pe_lc (own := [("column", 1)]) (g := gName 1) (tt := _) (by rfl) DomsIn.nd (pi_keys (pv 0)) (blkOk_by (own := [("column", 1)]) (N := NDomsIn) (sc := defScope sDomsIn) (by decide +kernel)) (fun _ _ _ _ _ => (pg_name (i := 1) DomsIn.nd rfl (Or.inl rfl))) (fun _ _ _ _ _ => (pts_one (pt_cmpR (op_neDK K rfl hr.units) (pe_dget hr.u1 (pv 0) (pv 1) (fun _ _ => rfl)) (pe_glob (v := .str "time") rfl G.time.choose_spec ⟨_, rfl⟩) (nomark _)))) (fun _ _ _ _ _ => (pv 1)))) pa_nil)))), ?_⟩
    refine ⟨d, _, hd, True.intro, fun od => ?_⟩
    refine ⟨_, rfl, d, od, rfl, .inl ⟨kvs, upd_same, fun D hD => ?_⟩⟩
    have en2 := en.lock (o := od) hd
    have hlen := Paired.length en
    refine loop_keys (fun i H' => H' D = some (.lst ((((S.take i).filter fun q => !q.2.isT).map (·.1)).map V.str)) ∧ Same (upd H d (.frz od (.dK kvs))) H') ⟨upd_same, upd_new hD⟩ ?_ ?_ ?_
    · rintro i H' _ ⟨_, s1⟩
      exact s1 _ _ upd_same
    · rintro i kk v H1 hkv ⟨eD, s1⟩
      obtain ⟨z, kd, hz, rfl, _⟩ := ent_at en2 hkv
      have hi : i < S.length := (List.getElem?_eq_some_iff.mp hz).1
      have et : S.take (i + 1) = S.take i ++ [(z, kd)] := by
        rw [List.take_add_one, hz]
        rfl
      have hm : (z, kd) ∈ S := List.mem_of_getElem? hz
      obtain ⟨x, hx, kx⟩ := ent_val (en2.same s1) so.nd hm
      refine ⟨rfl, ?_⟩
      refine ⟨_, rfl, _, rfl, d, x, rfl, .inl ⟨kvs, Sum.inr z, .inr ⟨od, s1 _ _ upd_same⟩, rfl, hx.symm⟩, ?_⟩
      refine ⟨kdD kd, .str "time", kd_dp kx, .str _, kd_shaped kd (so.dom _ hm), by decide +kernel, _, rfl, ?_⟩
      have hl : (((S.take i).filter fun q => !q.2.isT).map (·.1)).length < 64 := by
        have := so.all
        have h2 := List.length_filter_le (fun q : Str × Kd => !q.2.isT) (S.take i)
        rw [List.length_map]
        rw [List.length_take] at h2
        omega
      rw [kd_eqv]
      cases h : kd.isT with
      | false =>
        refine iteT ⟨_, rfl, ?_⟩
        refine ⟨_, eD, by rw [List.length_map]; omega, ?_, same_upd s1 hD⟩
        rw [upd_same, et, List.filter_append, List.map_append, List.map_append, List.filter_cons_of_pos (by simp [h])]
        rfl
      | true =>
        refine iteF ⟨?_, s1⟩
        rw [et, List.filter_append, List.filter_cons_of_neg (by simp [h]), List.filter_nil, List.append_nil]
        exact eD
    · rintro H1 ⟨eD, s1⟩
      refine ⟨s1 _ _ upd_same, ?_⟩
      have nD : D ≠ d := fun z => by
        rw [z, upd_same] at hD
        cases hD
      have e1 : S.take kvs.length = S := by rw [hlen, List.take_length]
      rw [e1] at eD
      have hl : (((S.filter fun q => !q.2.isT).map (·.1))).length < 64 := by
        have := so.all
        have h2 := List.length_filter_le (fun q : Str × Kd => !q.2.isT) S
        rw [List.length_map]
        omega
      refine ⟨D, _, rfl, SqL.of (by rw [upd_ne nD]; exact eD), hl, fun ys p pe so' hp => ?_⟩
      have ey := srt_eq pe so'
      refine k p _ (same_upd (same_lock hd s1) ?_) ?_
      · cases q : H p with
        | none => rfl
        | some o =>
          have := same_lock hd s1 _ _ q
          rw [hp] at this
          cases this
      · rw [upd_same, ey]
        rfl
end
end TM
end

section
set_option maxHeartbeats 4000000
namespace TM
open PySem PySem.Spec PyProof.Rows L2 EW
abbrev NIsShape : List Str := ["value", "column", "times"]
theorem IsShape : FnScope NIsShape ["value"] (defScope sIsShape) := ⟨rfl, rfl, rfl, by decide +kernel, rfl, by decide +kernel, by decide +kernel⟩
abbrev NReqShape : List Str := ["shape"]
theorem ReqShape : FnScope NReqShape ["shape"] (defScope sReqShape) := ⟨rfl, rfl, rfl, by decide +kernel, rfl, by decide +kernel, by decide +kernel⟩
abbrev NIsValue : List Str := ["kind", "value"]
theorem IsValue : FnScope NIsValue ["kind", "value"] (defScope sIsValue) := ⟨rfl, rfl, rfl, by decide +kernel, rfl, by decide +kernel, by decide +kernel⟩
def spShape (K : W.Frag) (r : V) : Sp := fun vs H Q _ => ∃ (v : V) (S : Shp), vs = [v] ∧ ShpAt K H v S ∧ ShpOk S ∧ ∀ H', Same H H' → Q r H'
def spReqC (K : W.Frag) : Sp := fun vs H Q _ => ∃ (v : V) (S : Shp) (z : Str), vs = [v, .str z] ∧ ShpAt K H v S ∧ ShpOk S ∧ (∃ k, (z, k) ∈ S) ∧ Q .non H
def spReqT (K : W.Frag) : Sp := fun vs H Q _ => ∃ (v : V) (S : Shp) (z : Str), vs = [v, .str z] ∧ ShpAt K H v S ∧ ShpOk S ∧ (z, Kd.time) ∈ S ∧ Q .non H
def spValue (K : W.Frag) : Sp := fun vs H Q _ => ∃ (v : V) (l : List Str) (x : Str), vs = [v, .str x] ∧ KdV K H v (.dom l) ∧ DomOk l ∧ x ∈ l ∧ Q (.bl true) H
section
variable {P : Program} {w : World} {K : W.Frag} {mg : Str → Option Value} {base : Heap}
theorem ok_kind {fd : FuncData} (F : FnP K "is_kind" sIsKind fd) (T : Fre mg) (G : Glb K mg) (Dis_domain : Df P w K mg base 2 "is_domain" ["value"] (spDomain K)) : FnOk P w K mg base CX0 3 (He.ga K "is_kind") fd ["value"] (spKind K) := by
  refine F.ok IsKind (fun vs H Q E h => ?_) (fun cdv A outer s H vs Q E hr h => ?_)
  · obtain ⟨v, kd, rfl, _⟩ := h
    rfl
  · obtain ⟨v, kd, rfl, hk, hd, k⟩ := h
    refine ⟨_, PSs.nox (pss_one (ps_ret (pe_or (pe_and (pe_callB (call_isiE K rfl) (by rfl) T.isinstance EW.boot_isinstance (pa_cons (pv 0) (pa_cons (pe_bltn (v := .ty "str") rfl T.str EW.boot_str rfl) pa_nil))) (pe_one (pe_cmpR op_eq (pv 0) (pe_glob (v := .str "time") rfl G.time.choose_spec ⟨_, rfl⟩) (nomark _)))) (pe_one (pe_df Dis_domain (hr.mono (by decide)) rfl (pa_cons (pv 0) pa_nil)))))), ?_⟩
    cases kd with
    | time =>
      have hk : v = .str "time" := hk
      subst hk
      refine ⟨_, rfl, _, _, .type "str", _, true, rfl, .ty "str", .base (.str _), kit_ty kb5, true, rfl, iteT ?_⟩
      exact ⟨_, rfl, rfl, _, rfl, iteT (k H (Same.refl H))⟩
    | dom l =>
      obtain ⟨a, rfl, hS⟩ := hk
      refine ⟨_, rfl, _, _, .type "tuple", _, false, rfl, .ty "str", tyT hS, kit_ty kb6, false, rfl, iteF ?_⟩
      exact ⟨_, rfl, iteF ⟨_, rfl, _, l, rfl, ⟨a, rfl, hS⟩, hd l rfl, k⟩⟩
theorem ok_shape {fd : FuncData} (F : FnP K "is_shape" sIsShape fd) (T : Fre mg) (G : Glb K mg) (Dis_column_name : Df P w K mg base 2 "is_column_name" ["value"] spCol) (Dis_kind : Df P w K mg base 3 "is_kind" ["value"] (spKind K)) (Dtimes_in : Df P w K mg base 1 "times_in" ["shape"] (spNames K tms)) :
    FnOk P w K mg base CX0 4 (He.ga K "is_shape") fd ["value"] (spShape K (.bl true)) := by
  refine F.ok IsShape (fun vs H Q E h => ?_) (fun cdv A outer s H vs Q E hr h => ?_)
  · obtain ⟨v, S, rfl, _⟩ := h
    rfl
  · obtain ⟨v, S, rfl, hv, so, k⟩ := h
    obtain ⟨d, kvs, rfl, hd, en⟩ := id hv
    have hbig : (64 : Nat) ≤ sizeLine := by decide
    have hlen := Paired.length en
    have hall := so.all
    refine ⟨_, PSs.nox (pss_cons (ps_if (PW.pt (pw_or (pt_not (pt_val (pe_callB (call_isiE K rfl) (by rfl) T.isinstance EW.boot_isinstance (pa_cons (pv 0) (pa_cons (pe_bltn (v := .ty "dict") rfl T.dict EW.boot_dict rfl) pa_nil))))) (pw_or1 (pt_not (pt_val (pe_lock (pe_callB (cr_allK K rfl rfl) (by rfl) T.all EW.boot_all (pa_cons (pe_lc (own := [("column", 1)]) (g := gName 1) (tt := tYes) (by rfl) IsShape.nd (pi_keys (pv 0)) (blkOk_by (own := [("column", 1)]) (N := NIsShape) (sc := defScope sIsShape) (by decide +kernel)) (fun _ _ _ _ _ => (pg_name (i := 1) IsShape.nd rfl (Or.inl rfl))) (fun _ _ _ _ _ => pts_nil) (fun _ _ _ _ _ => (pe_and (pe_df Dis_column_name (hr.mono (by decide)) rfl (pa_cons (pv 1) pa_nil)) (pe_one (pe_df Dis_kind (hr.mono (by decide)) rfl (pa_cons (pe_dget hr.u1 (pv 0) (pv 1) (fun _ _ => rfl)) pa_nil)))))) pa_nil)))))))) (pss_one (ps_ret pe_bl)) pss_nil)
      (pss_cons (ps_set (i := 2) IsShape.nd rfl (Or.inl rfl) (pe_callB (call_lenK K rfl) (by rfl) T.len PySem.boot_len (pa_cons (pe_df Dtimes_in (hr.mono (by decide)) rfl (pa_cons (pv 0) pa_nil)) pa_nil)))
      (pss_one (ps_ret (pe_and (pe_cmpR op_le (pv 2) (pe_glob (v := .int 2) rfl G.mt.choose_spec ⟨_, rfl⟩) (nomark _)) (pe_one (pe_cmpR op_le (pe_op op_sub (pe_callB call_lenD (by rfl) T.len PySem.boot_len (pa_cons (pv 0) pa_nil)) (pv 2)) (pe_glob (v := .int 3) rfl G.md.choose_spec ⟨_, rfl⟩) (nomark _)))))))), ?_⟩
    refine ⟨_, rfl, _, _, .type "dict", _, true, rfl, .ty "dict", .base (.dK hd), kit_ty kb7, true, rfl, iteF ?_⟩
    refine ⟨d, _, hd, True.intro, fun od => ?_⟩
    refine ⟨_, rfl, d, od, rfl, .inl ⟨kvs, upd_same, fun D hD => ?_⟩⟩
    have en2 := en.lock (o := od) hd
    refine loop_keys (fun i H' => ∃ bs : List Bool, H' D = some (.lst (bs.map V.bl)) ∧ Same (upd H d (.frz od (.dK kvs))) H' ∧ bs.length = i ∧ bs.all id = true) ⟨[], upd_same, upd_new hD, rfl, rfl⟩ ?_ ?_ ?_
    · rintro i H' _ ⟨_, _, s1, _⟩
      exact s1 _ _ upd_same
    · rintro i kk v H1 hkv ⟨bs, eD, s1, hl, ha⟩
      obtain ⟨z, kd, hz, rfl, _⟩ := ent_at en2 hkv
      have hi : i < S.length := (List.getElem?_eq_some_iff.mp hz).1
      have hm : (z, kd) ∈ S := List.mem_of_getElem? hz
      obtain ⟨zo, zn⟩ := so.nam _ hm
      refine ⟨rfl, ?_⟩
      refine ⟨_, rfl, z, rfl, zo, zn, fun H2 s2 => ⟨_, rfl, iteT ?_⟩⟩
      obtain ⟨x, hx, kx⟩ := ent_val (en2.same (s1.trans s2)) so.nd hm
      refine ⟨_, rfl, _, rfl, d, x, rfl, .inl ⟨kvs, Sum.inr z, .inr ⟨od, s2 _ _ (s1 _ _ upd_same)⟩, rfl, hx.symm⟩, ?_⟩
      refine ⟨x, kd, rfl, kx, so.dom _ hm, fun H3 s3 => ?_⟩
      exact ⟨_, s3 _ _ (s2 _ _ eD), by rw [List.length_map]; omega, bs ++ [true], by rw [upd_same, List.map_append]; rfl, same_upd ((s1.trans s2).trans s3) hD, by rw [List.length_append, hl]; rfl, by rw [List.all_append, ha]; rfl⟩
    · rintro H1 ⟨bs, eD, s1, hl, ha⟩
      refine ⟨D, bs, rfl, SqL.of eD, s1 _ _ upd_same, _, rfl, iteN (by rw [ha]; rfl) ?_⟩
      have s2 := same_lock hd s1
      refine ⟨_, rfl, _, S, rfl, hv.same s2, so, fun p H2 s3 ep => ?_⟩
      refine ⟨_, _, rfl, .inl ⟨_, SqL.of ep, rfl⟩, ?_⟩
      have t1 := so.tms
      have t2 := so.few
      refine ⟨_, rfl, _, _, rfl, rfl, _, rfl, iteD (decide_eq_true (by rw [List.length_map]; omega)) ?_⟩
      refine ⟨_, rfl, _, kvs, rfl, s3 _ _ (s2 _ _ hd), _, rfl, _, _, rfl, rfl, _, _, rfl, rfl, ?_⟩
      have q : (kvs.length : Int) - ((tms S).map V.str).length ≤ 3 := by
        rw [List.length_map]
        omega
      show Q (.bl (decide ((kvs.length : Int) - ((tms S).map V.str).length ≤ 3))) H2
      rw [decide_eq_true q]
      exact k H2 (s2.trans s3)
theorem ok_reqShape {fd : FuncData} (F : FnP K "require_shape" sReqShape fd) (Dis_shape : Df P w K mg base 4 "is_shape" ["value"] (spShape K (.bl true))) : FnOk P w K mg base CX0 5 (He.ga K "require_shape") fd ["shape"] (spShape K .non) := by
  refine F.ok ReqShape (fun vs H Q E h => ?_) (fun cdv A outer s H vs Q E hr h => ?_)
  · obtain ⟨v, S, rfl, _⟩ := h
    rfl
  · obtain ⟨v, S, rfl, hv, so, k⟩ := h
    refine ⟨_, PSs.nox (pss_one (ps_if (pt_not (pt_val (pe_df Dis_shape (hr.mono (by decide)) rfl (pa_cons (pv 0) pa_nil)))) (pss_one ps_never) pss_nil)), ?_⟩
    exact ⟨_, rfl, v, S, rfl, hv, so, fun H' s1 => ⟨_, rfl, iteF (k H' s1)⟩⟩
theorem in_strs {x : Str} {l : List Str} (h : x ∈ l) : inV (.str x) (l.map V.str) = true := by
  unfold inV
  rw [List.any_eq_true]
  exact ⟨.str x, List.mem_map.mpr ⟨x, h, rfl⟩, by simp [eqV]⟩
theorem flat_strs (l : List Str) : (l.map V.str).all flatV = true := by
  rw [List.all_eq_true]
  intro y hy
  obtain ⟨x, _, rfl⟩ := List.mem_map.mp hy
  rfl
theorem ok_value {fd : FuncData} (F : FnP K "is_value_of" sIsValue fd) (T : Fre mg) (G : Glb K mg) (Dis_integer : Df P w K mg base 1 "is_integer" ["value"] (spIsInt K)) : FnOk P w K mg base CX0 2 (He.ga K "is_value_of") fd ["kind", "value"] (spValue K) := by
  refine F.ok IsValue (fun vs H Q E h => ?_) (fun cdv A outer s H vs Q E hr h => ?_)
  · obtain ⟨v, l, x, rfl, _⟩ := h
    rfl
  · obtain ⟨v, l, x, rfl, hk, hd, hm, k⟩ := h
    obtain ⟨a, rfl, hS⟩ := id hk
    refine ⟨_, PSs.nox (pss_one (ps_ret (pe_ifExp (pt_cmpR (op_eqDK K rfl hr.units) (pv 0) (pe_glob (v := .str "time") rfl G.time.choose_spec ⟨_, rfl⟩) (nomark _)) (pe_df Dis_integer (hr.mono (by decide)) rfl (pa_cons (pv 1) pa_nil)) (pe_and (pe_callB (call_isiE K rfl) (by rfl) T.isinstance EW.boot_isinstance (pa_cons (pv 1) (pa_cons (pe_bltn (v := .ty "str") rfl T.str EW.boot_str rfl) pa_nil))) (pe_one (pe_cmpR (EW.op_inK K rfl) (pv 1) (pv 0) rfl)))))), ?_⟩
    refine ⟨_, rfl, kdD (.dom l), .str "time", kd_dp hk, .str _, kd_shaped _ (fun l' e => by cases e; exact hd), by decide +kernel, _, rfl, iteN rfl ?_⟩
    refine ⟨_, rfl, _, _, .type "str", _, true, rfl, .ty "str", .base (.str _), kit_ty kb5, true, rfl, iteT ?_⟩
    refine ⟨_, rfl, _, rfl, a, _, rfl, .inr hS, rfl, flat_strs l, ?_⟩
    rw [in_strs hm]
    exact k
end
end TM
end

section
set_option maxHeartbeats 4000000
/-! EwZnV: zones as values. -/
namespace EW
open PySem PySem.Spec PyProof.Rows L2
def ZnV (K : W.Frag) (H : Hp) (v : V) (z : Zn.Z) : Prop := ∃ (a b : Addr) (c : V) (us : List V), Tp K H v [.ref a, .ref b, c] ∧ SqT K H a (z.vs.map V.str) ∧ SqT K H b us ∧ Sns K H us z.ss ∧ Tp K H c [ob z.g.1, ob z.g.2]
/-- a zone of a shape by a period -/
structure ZOk (S : Shp) (p : Int) (z : Zn.Z) : Prop where
  nv : z.vs.length = (dms S).length
  vals : ∀ (i : Nat) (n x : Str), (dms S)[i]? = some n → z.vs[i]? = some x → ∃ l, (n, Kd.dom l) ∈ S ∧ x ∈ l
  ns : z.ss.length = (tms S).length
  res : ∀ s ∈ z.ss, ∀ r, s.res = some r → 0 ≤ r ∧ r < p
  gap : (tms S).length = 2 ∨ z.g = (none, none)
section
variable {K : W.Frag} {H H' : Hp} {v : V} {z : Zn.Z}
theorem ZnV.same (h : ZnV K H v z) (s : Same H H') : ZnV K H' v z := by
  obtain ⟨a, b, c, us, h1, h2, h3, h4, h5⟩ := h
  exact ⟨a, b, c, us, Tp.same h1 s, SqT.same h2 s, SqT.same h3 s, Sns.same h4 s, Tp.same h5 s⟩
theorem ZnV.kept {l : Addr} {ys : List V} (h : ZnV K H v z) (hl : H l = some (.lst ys)) (q : Kept l H H') : ZnV K H' v z := by
  obtain ⟨a, b, c, us, h1, h2, h3, h4, h5⟩ := h
  exact ⟨a, b, c, us, Tp.kept h1 hl q, SqT.kept h2 hl q, SqT.kept h3 hl q, Sns.kept h4 hl q, Tp.kept h5 hl q⟩
def znD (z : Zn.Z) : PyData := .tuple [.tuple (z.vs.map PyData.str), .tuple (z.ss.map spanD), pairD z.g]
theorem pair_dp {c : V} {q : OO} (h : Tp K H c [ob q.1, ob q.2]) : Dp K H c (pairD q) := by
  obtain ⟨a, rfl, h⟩ := h
  exact .tup h (.cons (od_dp _) (.cons (od_dp _) .nil))
theorem zn_dp (h : ZnV K H v z) : Dp K H v (znD z) := by
  obtain ⟨a, b, c, us, ⟨d, rfl, h1⟩, h2, h3, h4, h5⟩ := h
  exact .tup h1 (.cons (.tup h2 (strs_dp _)) (.cons (.tup h3 (spans_dp h4)) (.cons (pair_dp h5) .nil)))
theorem zn_shaped (z : Zn.Z) (h : ∀ x ∈ z.vs, NameOk x) : SeqAt.shaped (znD z) = true := by
  have d1 := spans_depth z.ss
  simp [znD, pairD, SeqAt.shaped, PyData.canLay0, PyData.canLayAll0, strs_lay _ h, spans_lay, od_lay, PyData.depth, PyData.depthAll, strs_depth, od_depth]
  omega
theorem strs_eqv : ∀ xs ys : List Str, PyData.eqvAll (xs.map PyData.str) (ys.map PyData.str) = decide (xs = ys)
  | [], [] => by simp [PyData.eqvAll]
  | [], y :: ys => by simp [PyData.eqvAll]
  | x :: xs, [] => by simp [PyData.eqvAll]
  | x :: xs, y :: ys => by
    rw [List.map_cons, List.map_cons, PyData.eqvAll, strs_eqv xs ys]
    by_cases h : x = y <;> simp [PyData.eqv, h]
theorem span_eqv (x y : Rn.Sp3) : PyData.eqv (spanD x) (spanD y) = decide (x = y) := by
  obtain ⟨a, b, c⟩ := x
  obtain ⟨d, e, f⟩ := y
  simp only [spanD, PyData.eqv, PyData.eqvAll, od_eqv, Bool.and_true]
  by_cases h1 : a = d <;> by_cases h2 : b = e <;> by_cases h3 : c = f <;> simp [h1, h2, h3]
theorem spans_eqv : ∀ xs ys : List Rn.Sp3, PyData.eqvAll (xs.map spanD) (ys.map spanD) = decide (xs = ys)
  | [], [] => by simp [PyData.eqvAll]
  | [], y :: ys => by simp [PyData.eqvAll]
  | x :: xs, [] => by simp [PyData.eqvAll]
  | x :: xs, y :: ys => by
    rw [List.map_cons, List.map_cons, PyData.eqvAll, span_eqv, spans_eqv xs ys]
    by_cases h : x = y <;> simp [h]
theorem zn_eqv_iff (x y : Zn.Z) : PyData.eqv (znD x) (znD y) = true ↔ x = y := by
  obtain ⟨a, b, c, d⟩ := x
  obtain ⟨e, f, g, h⟩ := y
  simp only [znD, PyData.eqv, PyData.eqvAll, pairD, od_eqv, strs_eqv, spans_eqv, Bool.and_true, Bool.and_eq_true, decide_eq_true_eq]
  constructor
  · rintro ⟨rfl, rfl, rfl, rfl⟩
    rfl
  · intro q
    cases q
    exact ⟨rfl, rfl, rfl, rfl⟩
end
end EW
end

section
set_option maxHeartbeats 4000000
namespace TM
open PySem PySem.Spec PyProof.Rows L2 EW
abbrev NIsSpan : List Str := ["period", "value"]
theorem IsSpan : FnScope NIsSpan ["period", "value"] (defScope sIsSpan) := ⟨rfl, rfl, rfl, by decide +kernel, rfl, by decide +kernel, by decide +kernel⟩
abbrev NIsGap : List Str := ["value", "times", "bound"]
theorem IsGap : FnScope NIsGap ["value", "times"] (defScope sIsGap) := ⟨rfl, rfl, rfl, by decide +kernel, rfl, by decide +kernel, by decide +kernel⟩
abbrev NIsZone : List Str := ["shape", "period", "value", "values", "spans", "gap", "domains", "times", "column", "one", "span"]
theorem IsZone : FnScope NIsZone ["shape", "period", "value"] (defScope sIsZone) := ⟨rfl, rfl, rfl, by decide +kernel, rfl, by decide +kernel, by decide +kernel⟩
abbrev NReqZone : List Str := ["shape", "period", "zone"]
theorem ReqZone : FnScope NReqZone ["shape", "period", "zone"] (defScope sReqZone) := ⟨rfl, rfl, rfl, by decide +kernel, rfl, by decide +kernel, by decide +kernel⟩
abbrev NReqAll : List Str := ["shape", "period", "zone"]
theorem ReqAll : FnScope NReqAll ["shape", "period", "zone"] (defScope sReqAll) := ⟨rfl, rfl, rfl, by decide +kernel, rfl, by decide +kernel, by decide +kernel⟩
def spSpan (K : W.Frag) : Sp := fun vs H Q _ => ∃ (p : Int) (v : V) (s : Rn.Sp3), vs = [.int p, v] ∧ Sn K H v s ∧ (∀ r, s.res = some r → 0 ≤ r ∧ r < p) ∧ Q (.bl true) H
def spGap (K : W.Frag) : Sp := fun vs H Q _ => ∃ (v : V) (q : OO) (n : Nat), vs = [v, .int n] ∧ Tp K H v [ob q.1, ob q.2] ∧ (n = 2 ∨ q = (none, none)) ∧ ∀ H', Same H H' → Q (.bl true) H'
def spZone (K : W.Frag) (r : V) : Sp := fun vs H Q _ => ∃ (u v : V) (S : Shp) (p : Int) (z : Zn.Z), vs = [u, .int p, v] ∧ ShpAt K H u S ∧ ShpOk S ∧ ZnV K H v z ∧ ZOk S p z ∧ ∀ H', Same H H' → Q r H'
def spAll (K : W.Frag) : Sp := fun vs H Q _ => ∃ (u v : V) (S : Shp) (p : Int) (z : Zn.Z), vs = [u, .int p, v] ∧ ShpAt K H u S ∧ ShpOk S ∧ 1 ≤ p ∧ p ≤ 400 ∧ ZnV K H v z ∧ ZOk S p z ∧ ∀ H', Same H H' → Q .non H'
/-- values that are no zones: None, tuples of other lengths, lists, {} -/
def Junk (K : W.Frag) (H : Hp) (v : V) : Prop := v = .non ∨ (∃ a xs, v = .ref a ∧ SqT K H a xs ∧ xs.length ≠ 3) ∨ (∃ a xs, v = .ref a ∧ H a = some (.lst xs)) ∨ ∃ a, v = .ref a ∧ H a = some (.dK [])
theorem Junk.same {K : W.Frag} {H H' : Hp} {v : V} (h : Junk K H v) (s : Same H H') : Junk K H' v := by
  rcases h with h | ⟨a, xs, e, h, n⟩ | ⟨a, xs, e, h⟩ | ⟨a, e, h⟩
  · exact .inl h
  · exact .inr (.inl ⟨a, xs, e, SqT.same h s, n⟩)
  · exact .inr (.inr (.inl ⟨a, xs, e, s _ _ h⟩))
  · exact .inr (.inr (.inr ⟨a, e, s _ _ h⟩))
/-- a zone, or no zone -/
def EltV (K : W.Frag) (H : Hp) (S : Shp) (p : Int) (v : V) : Option Zn.Z → Prop
  | none => Junk K H v
  | some z => ZnV K H v z ∧ ZOk S p z
theorem EltV.same {K : W.Frag} {H H' : Hp} {S : Shp} {p : Int} {v : V} {o : Option Zn.Z} (h : EltV K H S p v o) (s : Same H H') : EltV K H' S p v o := by
  cases o with
  | none => exact Junk.same h s
  | some z => exact ⟨h.1.same s, h.2⟩
def spZoneJ (K : W.Frag) : Sp := fun vs H Q _ => ∃ (u v : V) (S : Shp) (p : Int) (o : Option Zn.Z), vs = [u, .int p, v] ∧ ShpAt K H u S ∧ ShpOk S ∧ EltV K H S p v o ∧ ∀ H', Same H H' → Q (.bl o.isSome) H'
theorem kbN : kitB "NoneType" "tuple" = some false := by decide +kernel
theorem kbI : kitB "int" "tuple" = some false := by decide +kernel
theorem kbL : kitB "list" "tuple" = some false := by decide +kernel
theorem kbD : kitB "dict" "tuple" = some false := by decide +kernel
theorem dms_len (S : Shp) (h : ShpOk S) : (dms S).length < 64 := by
  have := h.all
  have h2 := List.length_filter_le (fun q : Str × Kd => !q.2.isT) S
  unfold dms
  rw [(srt_perm _).length_eq, List.length_map]
  omega
section
variable {P : Program} {w : World} {K : W.Frag} {mg : Str → Option Value} {base : Heap}
theorem ok_span {fd : FuncData} (F : FnP K "is_span" sIsSpan fd) (T : Fre mg) (Dis_bound : Df P w K mg base 2 "is_bound" ["value"] spBound) (Dis_between : Df P w K mg base 2 "is_between" ["value", "least", "most"] spBetween) : FnOk P w K mg base CX0 3 (He.ga K "is_span") fd ["period", "value"] (spSpan K) := by
  refine F.ok IsSpan (fun vs H Q E h => ?_) (fun cdv A outer s H vs Q E hr h => ?_)
  · obtain ⟨p, v, s, rfl, _⟩ := h
    rfl
  · obtain ⟨p, v, ⟨r, lo, hi⟩, rfl, ⟨a, rfl, hS⟩, hres, k⟩ := h
    refine ⟨_, PSs.nox (pss_cons (ps_if (PW.pt (pw_or (pt_not (pt_val (pe_callB (call_isiE K rfl) (by rfl) T.isinstance EW.boot_isinstance (pa_cons (pv 1) (pa_cons (pe_bltn (v := .ty "tuple") rfl T.tuple EW.boot_tuple rfl) pa_nil))))) (pw_or (pt_cmpR op_ne (pe_callB (call_lenK K rfl) (by rfl) T.len PySem.boot_len (pa_cons (pv 1) pa_nil)) pe_int (nomark _)) (pw_or (pt_not (pt_val (pe_df Dis_bound (hr.mono (by decide)) rfl (pa_cons (pe_ix (ix_tupK K rfl) (pv 1) pe_int (fun _ _ => rfl)) pa_nil)))) (pw_or1 (pt_not (pt_val (pe_df Dis_bound (hr.mono (by decide)) rfl (pa_cons (pe_ix (ix_tupK K rfl) (pv 1) pe_int (fun _ _ => rfl)) pa_nil))))))))) (pss_one (ps_ret pe_bl)) pss_nil)
      (pss_one (ps_ret (pe_or (pe_cmp (pc_isN (pe_ix (ix_tupK K rfl) (pv 1) pe_int (fun _ _ => rfl)))) (pe_one (pe_df Dis_between (hr.mono (by decide)) rfl (pa_cons (pe_ix (ix_tupK K rfl) (pv 1) pe_int (fun _ _ => rfl)) (pa_cons pe_int (pa_cons (pe_op op_sub (pv 0) pe_int) pa_nil))))))))), ?_⟩
    refine ⟨_, rfl, _, _, .type "tuple", _, true, rfl, .ty "tuple", tyT hS, kit_ty kb4, _, rfl, iteF ?_⟩
    refine ⟨_, rfl, _, _, rfl, .inr ⟨_, hS, rfl⟩, rfl, _, rfl, iteN rfl ?_⟩
    refine ⟨_, rfl, a, _, _, _, rfl, rfl, hS, rfl, lo, rfl, _, rfl, iteF ?_⟩
    refine ⟨_, rfl, a, _, _, _, rfl, rfl, hS, rfl, hi, rfl, _, rfl, iteF ?_⟩
    refine ⟨_, rfl, a, _, _, _, rfl, rfl, hS, rfl, _, rfl, ?_⟩
    cases r with
    | none => exact iteT k
    | some r =>
      obtain ⟨r0, r1⟩ := hres r rfl
      refine iteF ⟨_, rfl, a, _, _, _, rfl, rfl, hS, rfl, _, rfl, _, _, rfl, rfl, r, 0, p - 1, rfl, ?_⟩
      rw [decide_eq_true r0, decide_eq_true (show r ≤ p - 1 by omega)]
      exact k
theorem ok_gap {fd : FuncData} (F : FnP K "is_gap" sIsGap fd) (T : Fre mg) (G : Glb K mg) (Dis_bound : Df P w K mg base 2 "is_bound" ["value"] spBound) : FnOk P w K mg base CX0 3 (He.ga K "is_gap") fd ["value", "times"] (spGap K) := by
  refine F.ok IsGap (fun vs H Q E h => ?_) (fun cdv A outer s H vs Q E hr h => ?_)
  · obtain ⟨v, q, n, rfl, _⟩ := h
    rfl
  · obtain ⟨v, ⟨lo, hi⟩, n, rfl, hv, hg, k⟩ := h
    obtain ⟨a, rfl, hS⟩ := id hv
    have hbig : (64 : Nat) ≤ sizeLine := by decide
    refine ⟨_, PSs.nox (pss_cons (ps_if (PW.pt (pw_or (pt_not (pt_val (pe_callB (call_isiE K rfl) (by rfl) T.isinstance EW.boot_isinstance (pa_cons (pv 0) (pa_cons (pe_bltn (v := .ty "tuple") rfl T.tuple EW.boot_tuple rfl) pa_nil))))) (pw_or (pt_cmpR op_ne (pe_callB (call_lenK K rfl) (by rfl) T.len PySem.boot_len (pa_cons (pv 0) pa_nil)) pe_int (nomark _)) (pw_or1 (pt_not (pt_val (pe_callB (cr_allK K rfl rfl) (by rfl) T.all EW.boot_all (pa_cons (pe_lc (own := [("bound", 2)]) (g := gName 2) (tt := tYes) (by rfl) IsGap.nd (pi_tupK (K := K) rfl (pv 0)) (blkOk_by (own := [("bound", 2)]) (N := NIsGap) (sc := defScope sIsGap) (by decide +kernel)) (fun _ _ _ _ _ => (pg_name (i := 2) IsGap.nd rfl (Or.inl rfl))) (fun _ _ _ _ _ => pts_nil) (fun _ _ _ _ _ => (pe_df Dis_bound (hr.mono (by decide)) rfl (pa_cons (pv 2) pa_nil)))) pa_nil)))))))) (pss_one (ps_ret pe_bl)) pss_nil)
      (pss_one (ps_ret (pe_or (pe_cmpR op_eq (pv 1) (pe_glob (v := .int 2) rfl G.mt.choose_spec ⟨_, rfl⟩) (nomark _)) (pe_one (pe_cmpR (op_eqDK K rfl hr.units) (pv 0) (pe_glob (v := .ref (He.ga K "ANY")) rfl G.any rfl) (nomark _))))))), ?_⟩
    refine ⟨_, rfl, _, _, .type "tuple", _, true, rfl, .ty "tuple", tyT hS, kit_ty kb4, _, rfl, iteF ?_⟩
    refine ⟨_, rfl, _, _, rfl, .inr ⟨_, hS, rfl⟩, rfl, _, rfl, iteN rfl ?_⟩
    refine ⟨_, rfl, a, rfl, ⟨_, hS⟩, fun D hD => ?_⟩
    refine loop_tup (xs := [ob lo, ob hi]) (fun i H' => ∃ bs : List Bool, H' D = some (.lst (bs.map V.bl)) ∧ Same H H' ∧ bs.length = i ∧ bs.all id = true) ⟨[], upd_same, upd_new hD, rfl, rfl⟩ ?_ ?_ ?_
    · rintro i H1 _ ⟨bs, eD, s1, _⟩
      exact SqT.same hS s1
    · rintro i v H1 hv ⟨bs, eD, s1, hl, ha⟩
      have hi2 : i < 2 := (List.getElem?_eq_some_iff.mp hv).1
      obtain ⟨o, rfl⟩ : ∃ o, v = ob o := by
        have := List.mem_of_getElem? hv
        simp only [List.mem_cons, List.not_mem_nil, or_false] at this
        rcases this with rfl | rfl
        · exact ⟨_, rfl⟩
        · exact ⟨_, rfl⟩
      refine ⟨rfl, ?_⟩
      refine ⟨_, rfl, o, rfl, ?_⟩
      exact ⟨_, eD, by rw [List.length_map]; omega, bs ++ [true], by rw [upd_same, List.map_append]; rfl, same_upd s1 hD, by rw [List.length_append, hl]; rfl, by rw [List.all_append, ha]; rfl⟩
    · rintro H1 ⟨bs, eD, s1, hl, ha⟩
      refine ⟨D, bs, rfl, SqL.of eD, _, rfl, iteN (by rw [ha]; rfl) ?_⟩
      refine ⟨_, rfl, rfl, _, rfl, ?_⟩
      by_cases c : n = 2
      · subst c
        exact iteD rfl (k H1 s1)
      · have hg : ((lo, hi) : OO) = (none, none) := hg.resolve_left c
        cases hg
        refine iteN (by simp; omega) ?_
        refine ⟨_, rfl, pairD (none, none), pairD (none, none), pair_dp (q := (none, none)) (Tp.same hv s1), pair_dp (q := (none, none)) ⟨_, rfl, G.any2 H1⟩, pair_shaped _, pair_shaped _, ?_⟩
        rw [pair_eqv, decide_eq_true rfl]
        exact k H1 s1
theorem ok_zone {fd : FuncData} (F : FnP K "is_zone_in" sIsZone fd) (T : Fre mg) (G : Glb K mg) (Ddomains_in : Df P w K mg base 1 "domains_in" ["shape"] (spNames K dms)) (Dtimes_in : Df P w K mg base 1 "times_in" ["shape"] (spNames K tms))
    (Dis_value_of : Df P w K mg base 2 "is_value_of" ["kind", "value"] (spValue K)) (Dis_span : Df P w K mg base 3 "is_span" ["period", "value"] (spSpan K)) (Dis_gap : Df P w K mg base 3 "is_gap" ["value", "times"] (spGap K)) :
    FnOk P w K mg base CX0 4 (He.ga K "is_zone_in") fd ["shape", "period", "value"] (spZoneJ K) := by
  refine F.ok IsZone (fun vs H Q E h => ?_) (fun cdv A outer s H vs Q E hr h => ?_)
  · obtain ⟨u, v, S, p, z, rfl, _⟩ := h
    rfl
  · obtain ⟨u, v, S, p, o, rfl, hu, so, ho, k⟩ := h
    cases o with
    | none =>
      refine ⟨_, PSs.nox (pss_cons (ps_if (PW.pt (pw_or (pt_not (pt_val (pe_callB (call_isiE K rfl) (by rfl) T.isinstance EW.boot_isinstance (pa_cons (pv 2) (pa_cons (pe_bltn (v := .ty "tuple") rfl T.tuple EW.boot_tuple rfl) pa_nil))))) (pw_or1 (pt_cmpR op_ne (pe_callB (call_lenK K rfl) (by rfl) T.len PySem.boot_len (pa_cons (pv 2) pa_nil)) pe_int (nomark _))))) (pss_one (ps_ret pe_bl)) pss_nil)
      (pss_cons (ps_asg (pv 2) (pg_tup rfl (pgs_cons (pg_name (i := 3) IsZone.nd rfl (Or.inl rfl)) (pgs_cons (pg_name (i := 4) IsZone.nd rfl (Or.inl rfl)) (pgs_cons (pg_name (i := 5) IsZone.nd rfl (Or.inl rfl)) pgs_nil)))))
      (pss_cons (ps_cut (ps_par (i := 6) (j := 7) (by rfl) IsZone.nd rfl rfl (by decide) rfl rfl (pa_cons (pe_df Ddomains_in (hr.mono (by decide)) rfl (pa_cons (pv 0) pa_nil)) (pa_cons (pe_df Dtimes_in (hr.mono (by decide)) rfl (pa_cons (pv 0) pa_nil)) pa_nil)) (by rfl)))
      (pss_cons (ps_if (PW.pt (pw_or (pt_not (pt_val (pe_callB (call_isiE K rfl) (by rfl) T.isinstance EW.boot_isinstance (pa_cons (pv 3) (pa_cons (pe_bltn (v := .ty "tuple") rfl T.tuple EW.boot_tuple rfl) pa_nil))))) (pw_or1 (pt_cmpR op_ne (pe_callB (call_lenK K rfl) (by rfl) T.len PySem.boot_len (pa_cons (pv 3) pa_nil)) (pe_callB (call_lenK K rfl) (by rfl) T.len PySem.boot_len (pa_cons (pv 6) pa_nil)) (nomark _))))) (pss_one (ps_ret pe_bl)) pss_nil)
      (pss_cons (ps_cut (ps_if (pt_not (pt_val (pe_callB (cr_allK K rfl rfl) (by rfl) T.all EW.boot_all (pa_cons (pe_lc (own := [("column", 8), ("one", 9)]) (g := gTup K 2 (gCons (gName 8) (gCons (gName 9) gNil))) (tt := tYes) (by rfl) IsZone.nd (EW.pi_zipX (by rfl) T.zip (pa_cons (pv 6) (pa_cons (pv 3) pa_nil))) (blkOk_by (own := [("column", 8), ("one", 9)]) (N := NIsZone) (sc := defScope sIsZone) (by decide +kernel)) (fun _ _ _ _ _ => (pg_tup rfl (pgs_cons (pg_name (i := 8) IsZone.nd rfl (Or.inl rfl)) (pgs_cons (pg_name (i := 9) IsZone.nd rfl (Or.inl rfl)) pgs_nil)))) (fun _ _ _ _ _ => pts_nil) (fun _ _ _ _ _ => (pe_df Dis_value_of (hr.mono (by decide)) rfl (pa_cons (pe_dget hr.u1 (pv 0) (pv 8) (fun _ _ => rfl)) (pa_cons (pv 9) pa_nil))))) pa_nil)))) (pss_one (ps_ret pe_bl)) pss_nil))
      (pss_cons (ps_cut (ps_if (PW.pt (pw_or (pt_not (pt_val (pe_callB (call_isiE K rfl) (by rfl) T.isinstance EW.boot_isinstance (pa_cons (pv 4) (pa_cons (pe_bltn (v := .ty "tuple") rfl T.tuple EW.boot_tuple rfl) pa_nil))))) (pw_or1 (pt_cmpR op_ne (pe_callB (call_lenK K rfl) (by rfl) T.len PySem.boot_len (pa_cons (pv 4) pa_nil)) (pe_callB (call_lenK K rfl) (by rfl) T.len PySem.boot_len (pa_cons (pv 7) pa_nil)) (nomark _))))) (pss_one (ps_ret pe_bl)) pss_nil))
      (pss_one (ps_ret (pe_and (pe_callB (cr_allK K rfl rfl) (by rfl) T.all EW.boot_all (pa_cons (pe_lc (own := [("span", 10)]) (g := gName 10) (tt := tYes) (by rfl) IsZone.nd (pi_tupK (K := K) rfl (pv 4)) (blkOk_by (own := [("span", 10)]) (N := NIsZone) (sc := defScope sIsZone) (by decide +kernel)) (fun _ _ _ _ _ => (pg_name (i := 10) IsZone.nd rfl (Or.inl rfl))) (fun _ _ _ _ _ => pts_nil) (fun _ _ _ _ _ => (pe_df Dis_span (hr.mono (by decide)) rfl (pa_cons (pv 1) (pa_cons (pv 10) pa_nil))))) pa_nil)) (pe_one (pe_df Dis_gap (hr.mono (by decide)) rfl (pa_cons (pv 5) (pa_cons (pe_callB (call_lenK K rfl) (by rfl) T.len PySem.boot_len (pa_cons (pv 7) pa_nil)) pa_nil))))))))))))), ?_⟩
      rcases ho with rfl | ⟨a, xs, rfl, h, hn⟩ | ⟨a, xs, rfl, h⟩ | ⟨a, rfl, h⟩
      · exact ⟨_, rfl, _, _, .type "NoneType", _, false, rfl, .ty "tuple", .base .non, kit_ty kbN, _, rfl, iteT (k H (Same.refl H))⟩
      · refine ⟨_, rfl, _, _, .type "tuple", _, true, rfl, .ty "tuple", tyT h, kit_ty kb4, _, rfl, iteF ?_⟩
        exact ⟨_, rfl, _, _, rfl, .inr ⟨_, h, rfl⟩, rfl, _, rfl, iteD (by simp; omega) (k H (Same.refl H))⟩
      · exact ⟨_, rfl, _, _, .type "list", _, false, rfl, .ty "tuple", .base (.lst h), kit_ty kbL, _, rfl, iteT (k H (Same.refl H))⟩
      · exact ⟨_, rfl, _, _, .type "dict", _, false, rfl, .ty "tuple", .base (.dK h), kit_ty kbD, _, rfl, iteT (k H (Same.refl H))⟩
    | some z =>
    obtain ⟨hz, zo⟩ := ho
    obtain ⟨a, b, c, us, ⟨e, rfl, h1⟩, h2, h3, h4, h5⟩ := id hz
    have hbig : (64 : Nat) ≤ sizeLine := by decide
    have dl := dms_len S so
    have tl := so.tms
    refine ⟨_, PSs.nox (pss_cons (ps_if (PW.pt (pw_or (pt_not (pt_val (pe_callB (call_isiE K rfl) (by rfl) T.isinstance EW.boot_isinstance (pa_cons (pv 2) (pa_cons (pe_bltn (v := .ty "tuple") rfl T.tuple EW.boot_tuple rfl) pa_nil))))) (pw_or1 (pt_cmpR op_ne (pe_callB (call_lenK K rfl) (by rfl) T.len PySem.boot_len (pa_cons (pv 2) pa_nil)) pe_int (nomark _))))) (pss_one (ps_ret pe_bl)) pss_nil)
      (pss_cons (ps_asg (pv 2) (pg_tup rfl (pgs_cons (pg_name (i := 3) IsZone.nd rfl (Or.inl rfl)) (pgs_cons (pg_name (i := 4) IsZone.nd rfl (Or.inl rfl)) (pgs_cons (pg_name (i := 5) IsZone.nd rfl (Or.inl rfl)) pgs_nil)))))
      (pss_cons (ps_cut (ps_par (i := 6) (j := 7) (by rfl) IsZone.nd rfl rfl (by decide) rfl rfl (pa_cons (pe_df Ddomains_in (hr.mono (by decide)) rfl (pa_cons (pv 0) pa_nil)) (pa_cons (pe_df Dtimes_in (hr.mono (by decide)) rfl (pa_cons (pv 0) pa_nil)) pa_nil)) (by rfl)))
      (pss_cons (ps_if (PW.pt (pw_or (pt_not (pt_val (pe_callB (call_isiE K rfl) (by rfl) T.isinstance EW.boot_isinstance (pa_cons (pv 3) (pa_cons (pe_bltn (v := .ty "tuple") rfl T.tuple EW.boot_tuple rfl) pa_nil))))) (pw_or1 (pt_cmpR op_ne (pe_callB (call_lenK K rfl) (by rfl) T.len PySem.boot_len (pa_cons (pv 3) pa_nil)) (pe_callB (call_lenK K rfl) (by rfl) T.len PySem.boot_len (pa_cons (pv 6) pa_nil)) (nomark _))))) (pss_one (ps_ret pe_bl)) pss_nil)
      (pss_cons (ps_cut (ps_if (pt_not (pt_val (pe_callB (cr_allK K rfl rfl) (by rfl) T.all EW.boot_all (pa_cons (pe_lc (own := [("column", 8), ("one", 9)]) (g := gTup K 2 (gCons (gName 8) (gCons (gName 9) gNil))) (tt := tYes) (by rfl) IsZone.nd (EW.pi_zipX (by rfl) T.zip (pa_cons (pv 6) (pa_cons (pv 3) pa_nil))) (blkOk_by (own := [("column", 8), ("one", 9)]) (N := NIsZone) (sc := defScope sIsZone) (by decide +kernel)) (fun _ _ _ _ _ => (pg_tup rfl (pgs_cons (pg_name (i := 8) IsZone.nd rfl (Or.inl rfl)) (pgs_cons (pg_name (i := 9) IsZone.nd rfl (Or.inl rfl)) pgs_nil)))) (fun _ _ _ _ _ => pts_nil) (fun _ _ _ _ _ => (pe_df Dis_value_of (hr.mono (by decide)) rfl (pa_cons (pe_dget hr.u1 (pv 0) (pv 8) (fun _ _ => rfl)) (pa_cons (pv 9) pa_nil))))) pa_nil)))) (pss_one (ps_ret pe_bl)) pss_nil))
      (pss_cons (ps_cut (ps_if (PW.pt (pw_or (pt_not (pt_val (pe_callB (call_isiE K rfl) (by rfl) T.isinstance EW.boot_isinstance (pa_cons (pv 4) (pa_cons (pe_bltn (v := .ty "tuple") rfl T.tuple EW.boot_tuple rfl) pa_nil))))) (pw_or1 (pt_cmpR op_ne (pe_callB (call_lenK K rfl) (by rfl) T.len PySem.boot_len (pa_cons (pv 4) pa_nil)) (pe_callB (call_lenK K rfl) (by rfl) T.len PySem.boot_len (pa_cons (pv 7) pa_nil)) (nomark _))))) (pss_one (ps_ret pe_bl)) pss_nil))
      (pss_one (ps_ret (pe_and (pe_callB (cr_allK K rfl rfl) (by rfl) T.all EW.boot_all (pa_cons (pe_lc (own := [("span", 10)]) (g := gName 10) (tt := tYes) (by rfl) IsZone.nd (pi_tupK (K := K) rfl (pv 4)) (blkOk_by (own := [("span", 10)]) (N := NIsZone) (sc := defScope sIsZone) (by decide +kernel)) (fun _ _ _ _ _ => (pg_name (i := 10) IsZone.nd rfl (Or.inl rfl))) (fun _ _ _ _ _ => pts_nil) (fun _ _ _ _ _ => (pe_df Dis_span (hr.mono (by decide)) rfl (pa_cons (pv 1) (pa_cons (pv 10) pa_nil))))) pa_nil)) (pe_one (pe_df Dis_gap (hr.mono (by decide)) rfl (pa_cons (pv 5) (pa_cons (pe_callB (call_lenK K rfl) (by rfl) T.len PySem.boot_len (pa_cons (pv 7) pa_nil)) pa_nil))))))))))))), ?_⟩
    refine ⟨_, rfl, _, _, .type "tuple", _, true, rfl, .ty "tuple", tyT h1, kit_ty kb4, _, rfl, iteF ?_⟩
    refine ⟨_, rfl, _, _, rfl, .inr ⟨_, h1, rfl⟩, rfl, _, rfl, iteN rfl ?_⟩
    refine ⟨_, rfl, e, _, rfl, h1, rfl, _, _, rfl, _, _, rfl, _, _, rfl, rfl, ?_⟩
    refine ⟨fun σ' H' => ∃ pd pt : Addr, σ' = [some u, some (.int p), some (.ref e), some (.ref a), some (.ref b), some c, some (.ref pd), some (.ref pt), none, none, none] ∧ Same H H' ∧ H' pd = some (.lst ((dms S).map V.str)) ∧ H' pt = some (.lst ((tms S).map V.str)), ?_, ?_⟩
    · refine ⟨_, rfl, _, S, rfl, hu, so, fun pd H1 s1 e1 => ?_⟩
      refine ⟨_, rfl, _, S, rfl, hu.same s1, so, fun pt H2 s2 e2 => ?_⟩
      exact ⟨_, _, rfl, pd, pt, rfl, s1.trans s2, s2 _ _ e1, e2⟩
    · rintro σ' H1 ⟨pd, pt, rfl, s1, e1, e2⟩
      refine ⟨_, rfl, _, _, .type "tuple", _, true, rfl, .ty "tuple", tyT (SqT.same h2 s1), kit_ty kb4, _, rfl, iteF ?_⟩
      refine ⟨_, rfl, _, _, rfl, .inr ⟨_, SqT.same h2 s1, rfl⟩, _, rfl, _, _, rfl, .inl ⟨_, SqL.of e1, rfl⟩, rfl, _, rfl, iteN (by simp [zo.nv]) ?_⟩
      refine ⟨fun σ' H' => σ' = [some u, some (.int p), some (.ref e), some (.ref a), some (.ref b), some c, some (.ref pd), some (.ref pt), none, none, none] ∧ Same H H' ∧ H' pt = some (.lst ((tms S).map V.str)), ?_, ?_⟩
      · refine ⟨_, rfl, _, rfl, pd, a, _, _, rfl, SqL.of e1, SqT.same h2 s1, fun D hD => ?_⟩
        refine loop_zipX (us := (dms S).map V.str) (vs := z.vs.map V.str) (by simp [zo.nv]) (fun i H' => ∃ bs : List Bool, H' D = some (.lst (bs.map V.bl)) ∧ Same H1 H' ∧ bs.length = i ∧ bs.all id = true) ⟨[], upd_same, upd_new hD, rfl, rfl⟩ ?_ ?_ ?_
        · rintro i H2 _ ⟨_, _, s2, _⟩
          exact ⟨SqL.of (s2 _ _ e1), SqT.same (SqT.same h2 s1) s2⟩
        · rintro i x y cc H2 H3 hx hy ⟨bs, eD, s2, hl, ha⟩ s3 ec
          rw [List.getElem?_map] at hx hy
          obtain ⟨n, hn, rfl⟩ := Option.map_eq_some_iff.mp hx
          obtain ⟨q, hq, rfl⟩ := Option.map_eq_some_iff.mp hy
          have hi : i < (dms S).length := (List.getElem?_eq_some_iff.mp hn).1
          obtain ⟨l, hm, hin⟩ := zo.vals i n q hn hq
          have hu3 := hu.same (s1.trans (s2.trans s3))
          obtain ⟨d, kvs, rfl, hd, en⟩ := hu3
          obtain ⟨x, hx, kx⟩ := ent_val en so.nd hm
          refine ⟨cc, _, rfl, SqT.of ec, rfl, _, _, rfl, _, _, rfl, rfl, rfl, ?_⟩
          refine ⟨_, rfl, _, rfl, d, x, rfl, .inl ⟨kvs, Sum.inr n, .inl hd, rfl, hx.symm⟩, _, rfl, ?_⟩
          refine ⟨x, l, q, rfl, kx, so.dom _ hm l rfl, hin, ?_⟩
          exact ⟨_, s3 _ _ eD, by rw [List.length_map]; omega, bs ++ [true], by rw [upd_same, List.map_append]; rfl, same_upd (s2.trans s3) hD, by rw [List.length_append, hl]; rfl, by rw [List.all_append, ha]; rfl⟩
        · rintro H2 ⟨bs, eD, s2, hl, ha⟩
          exact ⟨D, bs, rfl, SqL.of eD, _, rfl, iteN (by rw [ha]; rfl) ⟨rfl, s1.trans s2, s2 _ _ e2⟩⟩
      · rintro σ' H2 ⟨rfl, s2, e2⟩
        have h3' := SqT.same h3 s2
        have nl : us.length = (tms S).length := (Paired.length h4).trans zo.ns
        refine ⟨fun σ' H' => σ' = [some u, some (.int p), some (.ref e), some (.ref a), some (.ref b), some c, some (.ref pd), some (.ref pt), none, none, none] ∧ H' = H2, ?_, ?_⟩
        · refine ⟨_, rfl, _, _, .type "tuple", _, true, rfl, .ty "tuple", tyT h3', kit_ty kb4, _, rfl, iteF ?_⟩
          exact ⟨_, rfl, _, _, rfl, .inr ⟨_, h3', rfl⟩, _, rfl, _, _, rfl, .inl ⟨_, SqL.of e2, rfl⟩, rfl, _, rfl, iteN (by simp [nl]) ⟨rfl, rfl⟩⟩
        · rintro σ' H2' ⟨rfl, rfl⟩
          refine ⟨_, rfl, b, rfl, ⟨_, h3'⟩, fun D hD => ?_⟩
          refine loop_tup (xs := us) (fun i H' => ∃ bs : List Bool, H' D = some (.lst (bs.map V.bl)) ∧ Same H2' H' ∧ bs.length = i ∧ bs.all id = true) ⟨[], upd_same, upd_new hD, rfl, rfl⟩ ?_ ?_ ?_
          · rintro i H3 _ ⟨_, _, s3, _⟩
            exact SqT.same h3' s3
          · rintro i x H3 hx ⟨bs, eD, s3, hl, ha⟩
            have hi : i < us.length := (List.getElem?_eq_some_iff.mp hx).1
            obtain ⟨sp, hsp, sn⟩ := pr_get h4 hx
            refine ⟨rfl, ?_⟩
            refine ⟨_, rfl, _, rfl, p, x, sp, rfl, Tp.same sn (s2.trans s3), zo.res sp (List.mem_of_getElem? hsp), ?_⟩
            exact ⟨_, eD, by rw [List.length_map]; omega, bs ++ [true], by rw [upd_same, List.map_append]; rfl, same_upd s3 hD, by rw [List.length_append, hl]; rfl, by rw [List.all_append, ha]; rfl⟩
          · rintro H3 ⟨bs, eD, s3, hl, ha⟩
            refine ⟨D, bs, rfl, SqL.of eD, _, rfl, iteD ha ?_⟩
            refine ⟨_, rfl, _, rfl, _, _, rfl, .inl ⟨_, SqL.of (s3 _ _ e2), rfl⟩, ?_⟩
            exact ⟨c, z.g, ((tms S).map V.str).length, rfl, Tp.same h5 (s2.trans s3), by rw [List.length_map]; exact zo.gap, fun H4 s4 => k H4 (s2.trans (s3.trans s4))⟩
theorem ok_reqZone {fd : FuncData} (F : FnP K "require_zone" sReqZone fd) (Dis_zone_in : Df P w K mg base 4 "is_zone_in" ["shape", "period", "value"] (spZoneJ K)) : FnOk P w K mg base CX0 5 (He.ga K "require_zone") fd ["shape", "period", "zone"] (spZone K .non) := by
  refine F.ok ReqZone (fun vs H Q E h => ?_) (fun cdv A outer s H vs Q E hr h => ?_)
  · obtain ⟨u, v, S, p, z, rfl, _⟩ := h
    rfl
  · obtain ⟨u, v, S, p, z, rfl, hu, so, hz, zo, k⟩ := h
    refine ⟨_, PSs.nox (pss_one (ps_if (pt_not (pt_val (pe_df Dis_zone_in (hr.mono (by decide)) rfl (pa_cons (pv 0) (pa_cons (pv 1) (pa_cons (pv 2) pa_nil)))))) (pss_one ps_never) pss_nil)), ?_⟩
    exact ⟨_, rfl, _, rfl, _, rfl, u, v, S, p, some z, rfl, hu, so, ⟨hz, zo⟩, fun H' s1 => ⟨_, rfl, iteF (k H' s1)⟩⟩
theorem ok_reqAll {fd : FuncData} (F : FnP K "require_all" sReqAll fd) (Drequire_shape : Df P w K mg base 5 "require_shape" ["shape"] (spShape K .non)) (Drequire_period : Df P w K mg base 3 "require_period" ["period"] spReqP) (Drequire_zone : Df P w K mg base 5 "require_zone" ["shape", "period", "zone"] (spZone K .non)) :
    FnOk P w K mg base CX0 6 (He.ga K "require_all") fd ["shape", "period", "zone"] (spAll K) := by
  refine F.ok ReqAll (fun vs H Q E h => ?_) (fun cdv A outer s H vs Q E hr h => ?_)
  · obtain ⟨u, v, S, p, z, rfl, _⟩ := h
    rfl
  · obtain ⟨u, v, S, p, z, rfl, hu, so, p1, p2, hz, zo, k⟩ := h
    refine ⟨_, PSs.nox (pss_cons (ps_expr (pe_df Drequire_shape (hr.mono (by decide)) rfl (pa_cons (pv 0) pa_nil)))
      (pss_cons (ps_expr (pe_df Drequire_period (hr.mono (by decide)) rfl (pa_cons (pv 1) pa_nil)))
      (pss_one (ps_expr (pe_df Drequire_zone (hr.mono (by decide)) rfl (pa_cons (pv 0) (pa_cons (pv 1) (pa_cons (pv 2) pa_nil)))))))), ?_⟩
    refine ⟨_, rfl, u, S, rfl, hu, so, fun H1 s1 => ?_⟩
    refine ⟨_, rfl, p, rfl, p1, p2, ?_⟩
    exact ⟨_, rfl, _, rfl, _, rfl, u, v, S, p, z, rfl, hu.same s1, so, hz.same s1, zo, fun H2 s2 => k H2 (s1.trans s2)⟩
end
end TM
end

section
set_option maxHeartbeats 4000000
/-! EwStarD: f(*e) of a plain def; (.., *e) inside blocks. -/
namespace EW
open PySem PySem.Spec PyProof.Rows L2
section
variable {X : Cx}
theorem pe_dfS {K : W.Frag} (hK : X.K = K) {k : Nat} {ps : List Str} {sp : Sp} {x : Str} {p sp_ pos : Pos} {e : Expr} {te : TE} (D : Df X.prog X.w X.K X.mg X.base k x ps sp) (hr : Room k X.A) (hg : Gl X x) (he : PE X e te) (hd : (x == ("__debug__" : Str)) = false := by decide)
    (hst : starEach [.Starred e sp_] X.env = [(true, eval e X.env)] := by rfl) :
    PE X (.Call (.Name x p) [.Starred e sp_] [] pos) (fun σ H Q => te σ H fun y H1 => ∃ a xs, y = V.ref a ∧ (SqT K H1 a xs ∨ SqL K H1 a xs) ∧ sp xs H1 Q E0) := by
  subst hK
  obtain ⟨fd, F, b⟩ := D.ex
  refine PE.imp (StX.pe_callS1 (fnR_of F b .nil) hr D.kp hg D.gl pass0 (PE.cl he) hd hst) fun σ H Q q => ⟨_, q, fun v H1 z => ?_⟩
  obtain ⟨a, xs, e, h, z⟩ := z
  exact ⟨a, xs, e, h, by rw [List.append_nil]; exact z⟩
theorem pa_starK (K : W.Frag) (hK : X.K = K) {e : Expr} {es : List Expr} {te : TE} {t : TA} {p : Pos} (he : PE X e te) (hr : PA X es t) (hs : starEach (.Starred e p :: es) X.env = (true, eval e X.env) :: starEach es X.env := by rfl) : PA X (.Starred e p :: es) (StX.tStar K te t) := by
  subst hK
  exact StX.pa_star he hr hs
end
end EW
end

section
set_option maxHeartbeats 4000000
/-! EwRep01: t * 0, t * 1 (t not empty); sealed. -/
namespace EW
open PySem PySem.Spec PyProof.Rows L2
theorem tuple_mulS (l : Addr) (items : Array Value) (n : Nat) (dd : Option Addr) (sl : Array (Option Value)) (u : Tok) :
    Meets (Builtin.«tuple.__mul__» ⟨[.ref l, .int 1 u], []⟩) (fun _ R s => s.heap.get? l = some { cls := .type "tuple", dict := dd, data := .seq items n, slots := sl } ∧ R (.ok (.ret (Value.ref l))) s) :=
  .of_wp fun prog w A R s h => by
    obtain ⟨hp, g, d, tk, os⟩ := s
    obtain ⟨hl, h⟩ := h
    have f1 := AutoSeq1.idx_int
    wp_walk using wpAny_loadPart' hl
    repeat (first
      | (refine wpAny_ite_false (by decide) ?_; wp_walk using wpAny_loadPart' hl)
      | (refine wpAny_ite_true (by simp) ?_; wp_walk using wpAny_loadPart' hl))
    exact ⟨_, rfl, h⟩
theorem tuple_mul0 (l : Addr) (items : Array Value) (n : Nat) (dd : Option Addr) (sl : Array (Option Value)) (u : Tok) (ne : items.isEmpty = false) :
    Meets (Builtin.«tuple.__mul__» ⟨[.ref l, .int 0 u], []⟩) (fun _ R s => s.heap.get? l = some { cls := .type "tuple", dict := dd, data := .seq items n, slots := sl } ∧
      R (.ok (.ret (Value.ref s.heap.objs.size))) { s with heap := s.heap.push { cls := Value.type "tuple", data := Data.seq #[] }, toks := s.toks }) :=
  .of_wp fun prog w A R s h => by
    obtain ⟨hp, g, d, tk, os⟩ := s
    obtain ⟨hl, h⟩ := h
    have f1 := AutoSeq1.idx_int
    wp_walk using wpAny_loadPart' hl
    repeat (first
      | (refine wpAny_ite_false (by decide) ?_; wp_walk using wpAny_loadPart' hl)
      | (refine wpAny_ite_false (by rw [ne]; decide) ?_; wp_walk using wpAny_loadPart' hl)
      | (refine wpAny_ite_true (by simp) ?_; wp_walk using wpAny_loadPart' hl))
    exact ⟨_, rfl, h⟩
def rRep01 (K : PySem.W.Frag) : R2 := fun x y H Q => ∃ l k xs, x = .ref l ∧ y = .int k ∧ SqT K H l xs ∧ xs ≠ [] ∧ ((k = 1 ∧ Q (.ref l) H) ∨ (k = 0 ∧ New H (fun _ => .tup []) Q))
section
variable {X : Cx}
theorem op_rep01 (K : PySem.W.Frag) (hK : X.K = K) : OpR X (binaryOp .Mult) (rRep01 K) := by
  subst hK
  intro pins s σ H x y v u Q I rx ry h
  obtain ⟨l, k, xs, rfl, rfl, hT, hne, h⟩ := h
  cases rx
  obtain ⟨t, rfl⟩ := ry
  obtain ⟨its, r, ⟨⟨cls, dd, data, sl⟩, ho, hc, n, hd⟩, hs⟩ := I.tuple hT
  simp only at hc hd
  subst hc hd
  have hle : its.length = xs.length := r.length.symm
  have hi : its.toArray.isEmpty = false := by
    cases its with
    | nil => exact absurd (List.eq_nil_of_length_eq_zero hle.symm) hne
    | cons a b => rfl
  rcases h with ⟨rfl, q⟩ | ⟨rfl, q⟩
  · refine wpAny_binaryOp_repeat_ref (T := "tuple") (U := "int") (by decide) ⟨_, ho, rfl⟩ (fun s' => typeIs_int s' 1 t) noFill_tuple_mul F.fills_int_mul F.slot_int_rmul repeat_tuple F.slot_int_index.lookup
      (call_meets F.slot_int_rmul (typeIs_int s 1 t) F.entry_int_rmul (F.args_int_rmul_2 _ _) (int_rmul_tuple 1 t l its.toArray n dd sl)
        ⟨ho, rfl, ⟨_, ho, rfl⟩, call_meets F.slot_tuple_mul ⟨_, ho, rfl⟩ F.entry_tuple_mul (F.args_tuple_mul_2 _ _) (tuple_mulS l its.toArray n dd sl t) ⟨ho, ?_⟩⟩)
    exact ⟨.ref l, H, I, rfl, q⟩
  · refine wpAny_binaryOp_repeat_ref (T := "tuple") (U := "int") (by decide) ⟨_, ho, rfl⟩ (fun s' => typeIs_int s' 0 t) noFill_tuple_mul F.fills_int_mul F.slot_int_rmul repeat_tuple F.slot_int_index.lookup
      (call_meets F.slot_int_rmul (typeIs_int s 0 t) F.entry_int_rmul (F.args_int_rmul_2 _ _) (int_rmul_tuple 0 t l its.toArray n dd sl)
        ⟨ho, rfl, ⟨_, ho, rfl⟩, call_meets F.slot_tuple_mul ⟨_, ho, rfl⟩ F.entry_tuple_mul (F.args_tuple_mul_2 _ _) (tuple_mul0 l its.toArray n dd sl t hi) ⟨ho, ?_⟩⟩)
    refine ⟨.ref s.heap.objs.size, _, I.laid (t' := s.toks) (o := .tup []) (fun b ob q => Heap.get?_push_of_some _ q) (Nat.le_refl _) ?_, rfl, q.at (I.hok.fresh (Nat.le_refl _))⟩
    exact ⟨by show 0 ≤ sizeLine; decide, [], .nil, IsTup.new _ _⟩
/-- t + u, sealed -/
def rCatAS (K : PySem.W.Frag) : R2 := fun x y H Q => ∃ a b xs ys, x = .ref a ∧ y = .ref b ∧ SqT K H a xs ∧ SqT K H b ys ∧ xs.length + ys.length ≤ sizeLine ∧ ∀ (q : Addr) (H' : Hp), Same H H' → SqT K H' q (xs ++ ys) → Q (.ref q) H'
theorem op_catAS (K : PySem.W.Frag) (hK : X.K = K) : OpR X (binaryOp .Add) (rCatAS K) := by
  subst hK
  intro pins s σ H x y v u Q I rx ry h
  obtain ⟨a, b, xs, ys, rfl, rfl, ha, hb, hz, k⟩ := h
  refine op_catA pins s σ H _ _ v u Q I rx ry ⟨a, b, xs, ys, rfl, rfl, ha, hb, hz, fun e => ?_, fun _ e => ?_, fun _ _ p hp => ?_⟩
  · subst e
    exact k b H (Same.refl _) hb
  · subst e
    exact k a H (Same.refl _) (by rw [List.append_nil]; exact ha)
  · exact k p _ (fun b o e => by rw [upd_ne (ne_of_none e hp)]; exact e) (SqT.of upd_same)
end
end EW
end

section
set_option maxHeartbeats 4000000
namespace TM
open PySem PySem.Spec PyProof.Rows L2 EW
abbrev NClosed : List Str := ["first", "second", "gap", "new_first", "new_second", "new_gap"]
theorem Closed : FnScope NClosed ["first", "second", "gap"] (defScope sClosed) := ⟨rfl, rfl, rfl, by decide +kernel, rfl, by decide +kernel, by decide +kernel⟩
abbrev NTight : List Str := ["period", "spans", "gap", "pairs", "residues", "turn", "residue", "pair"]
theorem Tight : FnScope NTight ["period", "spans", "gap"] (defScope sTight) := ⟨rfl, rfl, rfl, by decide +kernel, rfl, by decide +kernel, by decide +kernel⟩
/-- three pairs -/
def Trp (K : W.Frag) (H : Hp) (v : V) (q : Zn.Q3) : Prop := ∃ x y z : V, Tp K H v [x, y, z] ∧ Prs K H [x, y, z] [q.1, q.2.1, q.2.2]
def spClosed (K : W.Frag) : Sp := fun vs H Q _ => ∃ (x y z : V) (f s g : OO), vs = [x, y, z] ∧ Prs K H [x, y, z] [f, s, g] ∧ ∀ v H', Same H H' → Trp K H' v (Zn.closed f s g) → Q v H'
def TwoV (K : W.Frag) (H : Hp) (v : V) (t : Rn.Sp3 × Rn.Sp3 × OO) : Prop := ∃ (b : Addr) (c x y : V), Tp K H v [.ref b, c] ∧ SqT K H b [x, y] ∧ Sn K H x t.1 ∧ Sn K H y t.2.1 ∧ Tp K H c [ob t.2.2.1, ob t.2.2.2]
def spTight (K : W.Frag) : Sp := fun vs H Q _ => ∃ (p : Int) (v gv x y : V) (s t : Rn.Sp3) (g : OO), vs = [.int p, v, gv] ∧ 0 < p ∧ Tp K H v [x, y] ∧ Sn K H x s ∧ Sn K H y t ∧ Tp K H gv [ob g.1, ob g.2] ∧
  ∀ H', Same H H' → (Zn.tight p s t g = none → Q .non H') ∧ ∀ r, Zn.tight p s t g = some r → ∀ u, TwoV K H' u r → Q u H'
section
variable {P : Program} {w : World} {K : W.Frag} {mg : Str → Option Value} {base : Heap}
theorem ok_closed {fd : FuncData} (F : FnP K "closed" sClosed fd) (Dgreater_of : Df P w K mg base 1 "greater_of" ["one", "other"] (spTwo Zn.grt)) (Dlesser_of : Df P w K mg base 1 "lesser_of" ["one", "other"] (spTwo Zn.lst))
    (Dplus : Df P w K mg base 1 "plus" ["one", "other"] (spTwo Zn.pls)) (Dminus : Df P w K mg base 1 "minus" ["one", "other"] (spTwo Zn.mns)) :
    FnOk P w K mg base CX0 2 (He.ga K "closed") fd ["first", "second", "gap"] (spClosed K) := by
  refine F.ok Closed (fun vs H Q E h => ?_) (fun cdv A outer s H vs Q E hr h => ?_)
  · obtain ⟨x, y, z, f, s, g, rfl, _⟩ := h
    rfl
  · obtain ⟨x, y, z, ⟨f1, f2⟩, ⟨s1', s2⟩, ⟨g1, g2⟩, rfl, hp, k⟩ := h
    cases hp with
    | cons h1 hp =>
    cases hp with
    | cons h2 hp =>
    cases hp with
    | cons h3 _ =>
    obtain ⟨a, rfl, hA⟩ := h1
    obtain ⟨b, rfl, hB⟩ := h2
    obtain ⟨c, rfl, hC⟩ := h3
    refine ⟨_, PSs.nox (pss_cons (ps_cut (ps_set (i := 3) Closed.nd rfl (Or.inl rfl) (pe_tupS (pa_cons (pe_df Dgreater_of (hr.mono (by decide)) rfl (pa_cons (pe_ix (ix_tupK K rfl) (pv 0) pe_int (fun _ _ => rfl)) (pa_cons (pe_df Dminus (hr.mono (by decide)) rfl (pa_cons (pe_ix (ix_tupK K rfl) (pv 1) pe_int (fun _ _ => rfl)) (pa_cons (pe_ix (ix_tupK K rfl) (pv 2) pe_int (fun _ _ => rfl)) pa_nil))) pa_nil))) (pa_cons (pe_df Dlesser_of (hr.mono (by decide)) rfl (pa_cons (pe_ix (ix_tupK K rfl) (pv 0) pe_int (fun _ _ => rfl)) (pa_cons (pe_df Dminus (hr.mono (by decide)) rfl (pa_cons (pe_ix (ix_tupK K rfl) (pv 1) pe_int (fun _ _ => rfl)) (pa_cons (pe_ix (ix_tupK K rfl) (pv 2) pe_int (fun _ _ => rfl)) pa_nil))) pa_nil))) pa_nil)))))
      (pss_cons (ps_cut (ps_set (i := 4) Closed.nd rfl (Or.inl rfl) (pe_tupS (pa_cons (pe_df Dgreater_of (hr.mono (by decide)) rfl (pa_cons (pe_ix (ix_tupK K rfl) (pv 1) pe_int (fun _ _ => rfl)) (pa_cons (pe_df Dplus (hr.mono (by decide)) rfl (pa_cons (pe_ix (ix_tupK K rfl) (pv 0) pe_int (fun _ _ => rfl)) (pa_cons (pe_ix (ix_tupK K rfl) (pv 2) pe_int (fun _ _ => rfl)) pa_nil))) pa_nil))) (pa_cons (pe_df Dlesser_of (hr.mono (by decide)) rfl (pa_cons (pe_ix (ix_tupK K rfl) (pv 1) pe_int (fun _ _ => rfl)) (pa_cons (pe_df Dplus (hr.mono (by decide)) rfl (pa_cons (pe_ix (ix_tupK K rfl) (pv 0) pe_int (fun _ _ => rfl)) (pa_cons (pe_ix (ix_tupK K rfl) (pv 2) pe_int (fun _ _ => rfl)) pa_nil))) pa_nil))) pa_nil)))))
      (pss_cons (ps_set (i := 5) Closed.nd rfl (Or.inl rfl) (pe_tupS (pa_cons (pe_df Dgreater_of (hr.mono (by decide)) rfl (pa_cons (pe_ix (ix_tupK K rfl) (pv 2) pe_int (fun _ _ => rfl)) (pa_cons (pe_df Dminus (hr.mono (by decide)) rfl (pa_cons (pe_ix (ix_tupK K rfl) (pv 1) pe_int (fun _ _ => rfl)) (pa_cons (pe_ix (ix_tupK K rfl) (pv 0) pe_int (fun _ _ => rfl)) pa_nil))) pa_nil))) (pa_cons (pe_df Dlesser_of (hr.mono (by decide)) rfl (pa_cons (pe_ix (ix_tupK K rfl) (pv 2) pe_int (fun _ _ => rfl)) (pa_cons (pe_df Dminus (hr.mono (by decide)) rfl (pa_cons (pe_ix (ix_tupK K rfl) (pv 1) pe_int (fun _ _ => rfl)) (pa_cons (pe_ix (ix_tupK K rfl) (pv 0) pe_int (fun _ _ => rfl)) pa_nil))) pa_nil))) pa_nil))))
      (pss_one (ps_ret (pe_tupS (pa_cons (pv 3) (pa_cons (pv 4) (pa_cons (pv 5) pa_nil))))))))), ?_⟩
    refine ⟨fun σ' H' => ∃ q : Addr, σ' = [some (.ref a), some (.ref b), some (.ref c), some (.ref q), none, none] ∧ Same H H' ∧ H' q = some (.tup [ob (Zn.grt f1 (Zn.mns s1' g2)), ob (Zn.lst f2 (Zn.mns s2 g1))]), ?_, ?_⟩
    · refine ⟨_, rfl, a, _, _, _, rfl, rfl, hA, rfl, _, rfl, b, _, _, _, rfl, rfl, hB, rfl, _, rfl, c, _, _, _, rfl, rfl, hC, rfl, nil_ ⟨_, _, rfl, nil_ ⟨_, _, rfl, ?_⟩⟩⟩
      refine ⟨_, rfl, a, _, _, _, rfl, rfl, hA, rfl, _, rfl, b, _, _, _, rfl, rfl, hB, rfl, _, rfl, c, _, _, _, rfl, rfl, hC, rfl, nil_ ⟨_, _, rfl, nil_ ⟨_, _, rfl, nil_ ?_⟩⟩⟩
      exact ⟨(by show 2 ≤ sizeLine; decide), fun q H1 _ s1 e1 => ⟨q, rfl, s1, e1⟩⟩
    · rintro σ' H1 ⟨q1, rfl, s1, e1⟩
      have hA1 := SqT.same hA s1
      have hB1 := SqT.same hB s1
      have hC1 := SqT.same hC s1
      refine ⟨fun σ' H' => ∃ q : Addr, σ' = [some (.ref a), some (.ref b), some (.ref c), some (.ref q1), some (.ref q), none] ∧ Same H1 H' ∧ H' q = some (.tup [ob (Zn.grt s1' (Zn.pls f1 g1)), ob (Zn.lst s2 (Zn.pls f2 g2))]), ?_, ?_⟩
      · refine ⟨_, rfl, b, _, _, _, rfl, rfl, hB1, rfl, _, rfl, a, _, _, _, rfl, rfl, hA1, rfl, _, rfl, c, _, _, _, rfl, rfl, hC1, rfl, nil_ ⟨_, _, rfl, nil_ ⟨_, _, rfl, ?_⟩⟩⟩
        refine ⟨_, rfl, b, _, _, _, rfl, rfl, hB1, rfl, _, rfl, a, _, _, _, rfl, rfl, hA1, rfl, _, rfl, c, _, _, _, rfl, rfl, hC1, rfl, nil_ ⟨_, _, rfl, nil_ ⟨_, _, rfl, nil_ ?_⟩⟩⟩
        exact ⟨(by show 2 ≤ sizeLine; decide), fun q H2 _ s2 e2 => ⟨q, rfl, s2, e2⟩⟩
      · rintro σ' H2 ⟨q2, rfl, s2', e2⟩
        have hA2 := SqT.same hA1 s2'
        have hB2 := SqT.same hB1 s2'
        have hC2 := SqT.same hC1 s2'
        refine ⟨_, rfl, c, _, _, _, rfl, rfl, hC2, rfl, _, rfl, b, _, _, _, rfl, rfl, hB2, rfl, _, rfl, a, _, _, _, rfl, rfl, hA2, rfl, nil_ ⟨_, _, rfl, nil_ ⟨_, _, rfl, ?_⟩⟩⟩
        refine ⟨_, rfl, c, _, _, _, rfl, rfl, hC2, rfl, _, rfl, b, _, _, _, rfl, rfl, hB2, rfl, _, rfl, a, _, _, _, rfl, rfl, hA2, rfl, nil_ ⟨_, _, rfl, nil_ ⟨_, _, rfl, nil_ ?_⟩⟩⟩
        refine ⟨(by show 2 ≤ sizeLine; decide), fun q3 H3 _ s3 e3 => ?_⟩
        refine ⟨_, rfl, _, rfl, _, rfl, (by show 3 ≤ sizeLine; decide), fun q4 H4 _ s4 e4 => ?_⟩
        refine k _ _ (s1.trans (s2'.trans (s3.trans s4))) ⟨_, _, _, Tp.of e4, .cons (Tp.of (s4 _ _ (s3 _ _ (s2' _ _ e1)))) (.cons (Tp.of (s4 _ _ (s3 _ _ e2))) (.cons (Tp.of (s4 _ _ e3)) .nil))⟩
def itn (p : Int) (r : Option Int × Option Int × Option Int) (q0 : Zn.Q3) : Nat → Option Zn.Q3
  | 0 => some q0
  | n + 1 => (itn p r q0 n).bind (Zn.step p r)
theorem itn_none {p : Int} {r : Option Int × Option Int × Option Int} {q0 q : Zn.Q3} {j : Nat} (h : itn p r q0 j = some q) (hs : Zn.step p r q = none) (hj : j < 2) : itn p r q0 2 = none := by
  have e : itn p r q0 (j + 1) = none := by
    show (itn p r q0 j).bind (Zn.step p r) = none
    rw [h]
    exact hs
  match j, hj, e with
  | 0, _, e =>
    show (itn p r q0 1).bind (Zn.step p r) = none
    rw [e]
    rfl
  | 1, _, e => exact e
/-- any([is_empty_pair(pair) for pair in ..]): the walk's list of bits -/
theorem emp_bits (q : Zn.Q3) : ([q.1, q.2.1, q.2.2].map Zn.emp).any id = Zn.anyE q := by
  simp [Zn.anyE, Bool.or_assoc]
theorem ok_tight {fd : FuncData} (F : FnP K "tight_two" sTight fd) (T : Fre mg) (Dgap_residue : Df P w K mg base 1 "gap_residue" ["period", "spans"] (spGapRes K)) (Drounded : Df P w K mg base 1 "rounded" ["period", "residue", "pair"] (spRounded K))
    (Dis_empty_pair : Df P w K mg base 1 "is_empty_pair" ["pair"] (spEmptyP K)) (Dclosed : Df P w K mg base 2 "closed" ["first", "second", "gap"] (spClosed K)) :
    FnOk P w K mg base CX0 3 (He.ga K "tight_two") fd ["period", "spans", "gap"] (spTight K) := by
  refine F.ok Tight (fun vs H Q E h => ?_) (fun cdv A outer s H vs Q E hr h => ?_)
  · obtain ⟨p, v, gv, x, y, s, t, g, rfl, _⟩ := h
    rfl
  · obtain ⟨p, v, gv, x, y, s, t, g, rfl, hp, hV, hX, hY, hG, k⟩ := h
    obtain ⟨a, rfl, hA⟩ := id hV
    obtain ⟨b, rfl, hB⟩ := id hX
    obtain ⟨c, rfl, hC⟩ := id hY
    have hbig : (64 : Nat) ≤ sizeLine := by decide
    refine ⟨_, PSs.nox (pss_cons (ps_cut (ps_set (i := 3) Tight.nd rfl (Or.inl rfl) (pe_tupS (pa_cons (pe_tupS (pa_cons (pe_ix (ix_tupK K rfl) (pe_ix (ix_tupK K rfl) (pv 1) pe_int (fun _ _ => rfl)) pe_int (fun _ _ => rfl)) (pa_cons (pe_ix (ix_tupK K rfl) (pe_ix (ix_tupK K rfl) (pv 1) pe_int (fun _ _ => rfl)) pe_int (fun _ _ => rfl)) pa_nil))) (pa_cons (pe_tupS (pa_cons (pe_ix (ix_tupK K rfl) (pe_ix (ix_tupK K rfl) (pv 1) pe_int (fun _ _ => rfl)) pe_int (fun _ _ => rfl)) (pa_cons (pe_ix (ix_tupK K rfl) (pe_ix (ix_tupK K rfl) (pv 1) pe_int (fun _ _ => rfl)) pe_int (fun _ _ => rfl)) pa_nil))) (pa_cons (pv 2) pa_nil))))))
      (pss_cons (ps_cut (ps_set (i := 4) Tight.nd rfl (Or.inl rfl) (pe_tupS (pa_cons (pe_ix (ix_tupK K rfl) (pe_ix (ix_tupK K rfl) (pv 1) pe_int (fun _ _ => rfl)) pe_int (fun _ _ => rfl)) (pa_cons (pe_ix (ix_tupK K rfl) (pe_ix (ix_tupK K rfl) (pv 1) pe_int (fun _ _ => rfl)) pe_int (fun _ _ => rfl)) (pa_cons (pe_df Dgap_residue (hr.mono (by decide)) rfl (pa_cons (pv 0) (pa_cons (pv 1) pa_nil))) pa_nil))))))
      (pss_cons (ps_cut (ps_for PassesOwn.never rfl (pi_range1 rfl T.range (pa_cons pe_int pa_nil)) (pg_name (i := 5) Tight.nd rfl (Or.inl rfl)) (pss_cons (ps_cut (ps_setLc (i := 3) (own := [("residue", 6), ("pair", 7)]) (g := gTup K 2 (gCons (gName 6) (gCons (gName 7) gNil))) (tt := tYes) (by rfl) Tight.nd rfl rfl (sw_true rfl rfl rfl (by decide +kernel)) (RZ.pi_zipA (by rfl) T.zip (pa_cons (pv 4) (pa_cons (pv 3) pa_nil))) (blkOk_by (own := [("residue", 6), ("pair", 7)]) (N := NTight) (sc := defScope sTight) (by decide +kernel)) (fun _ _ _ _ _ => (pg_tup rfl (pgs_cons (pg_name (i := 6) Tight.nd rfl (Or.inl rfl)) (pgs_cons (pg_name (i := 7) Tight.nd rfl (Or.inl rfl)) pgs_nil)))) (fun _ _ _ _ _ => pts_nil) (fun _ _ _ _ _ => (pe_df Drounded (hr.mono (by decide)) rfl (pa_cons (pv 0) (pa_cons (pv 6) (pa_cons (pv 7) pa_nil)))))))
      (pss_cons (ps_cut (ps_if (pt_val (pe_callB (cr_anyK K rfl rfl) (by rfl) T.any EW.boot_any (pa_cons (pe_lc (own := [("pair", 7)]) (g := gName 7) (tt := tYes) (by rfl) Tight.nd (pi_seqK (K := K) rfl (pv 3)) (blkOk_by (own := [("pair", 7)]) (N := NTight) (sc := defScope sTight) (by decide +kernel)) (fun _ _ _ _ _ => (pg_name (i := 7) Tight.nd rfl (Or.inl rfl))) (fun _ _ _ _ _ => pts_nil) (fun _ _ _ _ _ => (pe_df Dis_empty_pair (hr.mono (by decide)) rfl (pa_cons (pv 7) pa_nil)))) pa_nil))) (pss_one (ps_ret pe_non)) pss_nil))
      (pss_cons (ps_cut (ps_set (i := 3) Tight.nd rfl (Or.inl rfl) (EW.pe_dfS (K := K) rfl Dclosed (hr.mono (by decide)) rfl (pv 3))))
      (pss_one (ps_cut (ps_if (pt_val (pe_callB (cr_anyK K rfl rfl) (by rfl) T.any EW.boot_any (pa_cons (pe_lc (own := [("pair", 7)]) (g := gName 7) (tt := tYes) (by rfl) Tight.nd (pi_seqK (K := K) rfl (pv 3)) (blkOk_by (own := [("pair", 7)]) (N := NTight) (sc := defScope sTight) (by decide +kernel)) (fun _ _ _ _ _ => (pg_name (i := 7) Tight.nd rfl (Or.inl rfl))) (fun _ _ _ _ _ => pts_nil) (fun _ _ _ _ _ => (pe_df Dis_empty_pair (hr.mono (by decide)) rfl (pa_cons (pv 7) pa_nil)))) pa_nil))) (pss_one (ps_ret pe_non)) pss_nil))))))))
      (pss_one (ps_ret (pe_tupS (pa_cons (pe_tupS (pa_cons (pe_tupS (pa_cons (pe_ix (ix_tupK K rfl) (pv 4) pe_int (fun _ _ => rfl)) (EW.pa_starK K rfl (pe_ix (ix_tupK K rfl) (pv 3) pe_int (fun _ _ => rfl)) pa_nil))) (pa_cons (pe_tupS (pa_cons (pe_ix (ix_tupK K rfl) (pv 4) pe_int (fun _ _ => rfl)) (EW.pa_starK K rfl (pe_ix (ix_tupK K rfl) (pv 3) pe_int (fun _ _ => rfl)) pa_nil))) pa_nil))) (pa_cons (pe_ix (ix_tupK K rfl) (pv 3) pe_int (fun _ _ => rfl)) pa_nil)))))))), ?_⟩
    refine ⟨fun σ' H' => ∃ u : V, σ' = [some (.int p), some (.ref a), some gv, some u, none, none, none, none] ∧ Same H H' ∧ Trp K H' u ((s.lo, s.hi), (t.lo, t.hi), g), ?_, ?_⟩
    · refine ⟨_, rfl, a, _, _, _, rfl, rfl, hA, rfl, b, _, _, _, rfl, rfl, hB, rfl, _, rfl, a, _, _, _, rfl, rfl, hA, rfl, b, _, _, _, rfl, rfl, hB, rfl, nil_ ?_⟩
      refine ⟨(by show 2 ≤ sizeLine; decide), fun q1 H1 _ s1 e1 => ?_⟩
      have hA1 := SqT.same hA s1
      have hC1 := SqT.same hC s1
      refine ⟨_, rfl, a, _, _, _, rfl, rfl, hA1, rfl, c, _, _, _, rfl, rfl, hC1, rfl, _, rfl, a, _, _, _, rfl, rfl, hA1, rfl, c, _, _, _, rfl, rfl, hC1, rfl, nil_ ?_⟩
      refine ⟨(by show 2 ≤ sizeLine; decide), fun q2 H2 _ s2 e2 => ?_⟩
      refine ⟨_, rfl, (by show 3 ≤ sizeLine; decide), fun q3 H3 _ s3 e3 => ?_⟩
      exact ⟨_, rfl, s1.trans (s2.trans s3), _, _, _, Tp.of e3, .cons (Tp.of (s3 _ _ (s2 _ _ e1))) (.cons (Tp.of (s3 _ _ e2)) (.cons (Tp.same hG (s1.trans (s2.trans s3))) .nil))⟩
    · rintro σ' H1 ⟨u, rfl, s1, hT⟩
      have hA1 := SqT.same hA s1
      have hB1 := SqT.same hB s1
      have hC1 := SqT.same hC s1
      refine ⟨fun σ' H' => ∃ rv : V, σ' = [some (.int p), some (.ref a), some gv, some u, some rv, none, none, none] ∧ Same H1 H' ∧ Tp K H' rv [ob s.res, ob t.res, ob (Zn.gres p s.res t.res)], ?_, ?_⟩
      · refine ⟨_, rfl, a, _, _, _, rfl, rfl, hA1, rfl, b, _, _, _, rfl, rfl, hB1, rfl, _, rfl, a, _, _, _, rfl, rfl, hA1, rfl, c, _, _, _, rfl, rfl, hC1, rfl, ?_⟩
        refine ⟨_, rfl, _, rfl, p, _, _, _, s, t, rfl, hp, Tp.same hV s1, Tp.same hX s1, Tp.same hY s1, nil_ ?_⟩
        exact ⟨(by show 3 ≤ sizeLine; decide), fun q1 H2 _ s2 e2 => ⟨_, rfl, s2, Tp.of e2⟩⟩
      · rintro σ' H2 ⟨rv, rfl, s2, hR⟩
        refine ⟨fun σ' H' => ∃ (u w6 : V) (o5 : Option V) (q : Zn.Q3), σ' = [some (.int p), some (.ref a), some gv, some u, some rv, o5, none, none] ∧ Same H2 H' ∧ Trp K H' u q ∧ itn p (s.res, t.res, Zn.gres p s.res t.res) ((s.lo, s.hi), (t.lo, t.hi), g) 2 = some q, ?_, ?_⟩
        · refine ⟨2, rfl, by decide, by decide, ?_⟩
          refine for_range (lo := 0) (n := 2) (fun j σ' H' => ∃ (u : V) (o5 : Option V) (q : Zn.Q3), σ' = [some (.int p), some (.ref a), some gv, some u, some rv, o5, none, none] ∧ Same H2 H' ∧ Trp K H' u q ∧ itn p (s.res, t.res, Zn.gres p s.res t.res) ((s.lo, s.hi), (t.lo, t.hi), g) j = some q)
            ⟨u, none, _, rfl, Same.refl _, ?_, rfl⟩ ?_ ?_
          · obtain ⟨x1, y1, z1, t1, t2⟩ := hT
            exact ⟨x1, y1, z1, Tp.same t1 s2, Prs.same t2 s2⟩
          · rintro j σ' H3 hj ⟨u3, o5, q, rfl, s3, ⟨x1, y1, z1, ⟨ua, rfl, hU⟩, hP⟩, hq⟩
            -- rounded
            refine ⟨fun σ' H' => ∃ (l : Addr) (us : List V), σ' = [some (.int p), some (.ref a), some gv, some (.ref l), some rv, some (.int (0 + (j : Int))), none, none] ∧ Same H3 H' ∧ H' l = some (.lst us) ∧ Prs K H' us [Zn.rnd p s.res q.1, Zn.rnd p t.res q.2.1, Zn.rnd p (Zn.gres p s.res t.res) q.2.2], ?_, ?_⟩
            · obtain ⟨ra, rfl, hRa⟩ := Tp.same hR s3
              refine ⟨_, rfl, _, rfl, ra, ua, _, _, rfl, .inr ⟨hRa, hU, fun D hD => ?_⟩⟩
              refine loop_zipT (n := 3) (us := [s.res, t.res, Zn.gres p s.res t.res].map ob) (vs := [x1, y1, z1]) (.inl ⟨rfl, Nat.le_refl _⟩) (fun i H' => ∃ us : List V, H' D = some (.lst us) ∧ Same H3 H' ∧ us.length = i ∧ Prs K H' us ((List.zipWith (Zn.rnd p) [s.res, t.res, Zn.gres p s.res t.res] [q.1, q.2.1, q.2.2]).take i)) ⟨[], upd_same, upd_new hD, rfl, .nil⟩ ?_ ?_ ?_
              · rintro i H4 _ ⟨_, _, s4, _⟩
                exact ⟨SqT.same hRa s4, SqT.same hU s4⟩
              · rintro i xu xv cc H4 H5 hxu hxv ⟨us, eD, s4, hl, hPu⟩ s5 ec
                rw [List.getElem?_map] at hxu
                obtain ⟨r, hr', rfl⟩ := Option.map_eq_some_iff.mp hxu
                obtain ⟨q', hq', tq⟩ := pr_get hP hxv
                have hi : i < 3 := (List.getElem?_eq_some_iff.mp hxv).1
                refine ⟨cc, _, rfl, SqT.of ec, rfl, _, _, rfl, _, _, rfl, rfl, rfl, ?_⟩
                refine ⟨_, rfl, _, rfl, _, rfl, p, r, xv, q', rfl, hp, Tp.same tq (s4.trans s5), fun w H6 s6 hw => ?_⟩
                have sD := same_upd (D := D) (o := .lst (us ++ [w])) (s4.trans (s5.trans s6)) hD
                refine ⟨us, s6 _ _ (s5 _ _ eD), by omega, us ++ [w], upd_same, sD, by rw [List.length_append, hl]; rfl, ?_⟩
                have kD : Kept D H6 (upd H6 D (.lst (us ++ [w]))) := Kept.upd
                rw [List.take_add_one, List.getElem?_zipWith, hr', hq']
                exact pr_append (Prs.kept (Prs.same hPu (s5.trans s6)) (s6 _ _ (s5 _ _ eD)) kD) (.cons (Tp.kept hw (s6 _ _ (s5 _ _ eD)) kD) .nil)
              · rintro H4 ⟨us, eD, s4, hl, hPu⟩
                exact ⟨D, us, rfl, s4, eD, hPu⟩
            · rintro σ' H4 ⟨l, us, rfl, s4, el, hPu⟩
              have stepE : Zn.step p (s.res, t.res, Zn.gres p s.res t.res) q = if Zn.anyE (Zn.rnd3 p (s.res, t.res, Zn.gres p s.res t.res) q) = true then none else
                if Zn.anyE (Zn.closed (Zn.rnd p s.res q.1) (Zn.rnd p t.res q.2.1) (Zn.rnd p (Zn.gres p s.res t.res) q.2.2)) = true then none else some (Zn.closed (Zn.rnd p s.res q.1) (Zn.rnd p t.res q.2.1) (Zn.rnd p (Zn.gres p s.res t.res) q.2.2)) := rfl
              have no : ∀ H', Same H H' → Zn.step p (s.res, t.res, Zn.gres p s.res t.res) q = none → Q .non H' := fun H' sH e => (k H' sH).1 (by
                have e2 := itn_none hq e hj
                unfold Zn.tight
                have e2 : (Zn.step p (s.res, t.res, Zn.gres p s.res t.res) ((s.lo, s.hi), (t.lo, t.hi), g)).bind (Zn.step p (s.res, t.res, Zn.gres p s.res t.res)) = none := e2
                rw [e2]
                rfl)
              have hul : us.length = 3 := Paired.length hPu
              -- any
              refine ⟨fun σ' H' => σ' = [some (.int p), some (.ref a), some gv, some (.ref l), some rv, some (.int (0 + (j : Int))), none, none] ∧ Same H4 H' ∧ Zn.anyE (Zn.rnd3 p (s.res, t.res, Zn.gres p s.res t.res) q) = false, ?_, ?_⟩
              · refine .inl ⟨_, rfl, l, rfl, ⟨_, SqL.of el⟩, fun D hD => ?_⟩
                refine loop_list (xs := us) (fun i H' => ∃ bs : List Bool, H' D = some (.lst (bs.map V.bl)) ∧ Same H4 H' ∧ bs = (([Zn.rnd p s.res q.1, Zn.rnd p t.res q.2.1, Zn.rnd p (Zn.gres p s.res t.res) q.2.2]).map Zn.emp).take i) ⟨[], upd_same, upd_new hD, rfl⟩ ?_ ?_ ?_
                · rintro i H5 _ ⟨_, _, s5, _⟩
                  exact SqL.of (s5 _ _ el)
                · rintro i w H5 hw ⟨bs, eD, s5, hb⟩
                  obtain ⟨q', hq', tq⟩ := pr_get hPu hw
                  have hi : i < 3 := by
                    have := (List.getElem?_eq_some_iff.mp hw).1
                    omega
                  have hbl : bs.length ≤ 3 := by
                    rw [hb]
                    exact Nat.le_trans (List.length_take_le' ..) (Nat.le_refl _)
                  refine ⟨rfl, ?_⟩
                  refine ⟨_, rfl, w, q', rfl, Tp.same tq s5, ?_⟩
                  refine ⟨_, eD, by rw [List.length_map]; omega, bs ++ [Zn.emp q'], by rw [upd_same, List.map_append]; rfl, same_upd s5 hD, ?_⟩
                  rw [hb, List.take_add_one, List.getElem?_map, hq']
                  rfl
                · rintro H5 ⟨bs, eD, s5, hb⟩
                  have hb : bs = ([Zn.rnd p s.res q.1, Zn.rnd p t.res q.2.1, Zn.rnd p (Zn.gres p s.res t.res) q.2.2]).map Zn.emp := by
                    rw [hb, hul]
                    rfl
                  have ha : bs.any id = Zn.anyE (Zn.rnd3 p (s.res, t.res, Zn.gres p s.res t.res) q) := by
                    rw [hb]
                    exact emp_bits (Zn.rnd p s.res q.1, Zn.rnd p t.res q.2.1, Zn.rnd p (Zn.gres p s.res t.res) q.2.2)
                  cases c1 : Zn.anyE (Zn.rnd3 p (s.res, t.res, Zn.gres p s.res t.res) q) with
                  | true =>
                    refine ⟨D, bs, rfl, SqL.of eD, _, rfl, iteD (by rw [ha, c1]) ?_⟩
                    exact no H5 (s1.trans (s2.trans (s3.trans (s4.trans s5)))) (by rw [stepE, if_pos c1])
                  | false => exact ⟨D, bs, rfl, SqL.of eD, _, rfl, iteN (by rw [ha, c1]) ⟨rfl, s5, rfl⟩⟩
              · rintro σ' H5 ⟨rfl, s5, c1⟩
                rw [if_neg (by rw [c1]; decide)] at stepE
                -- closed
                refine ⟨fun σ' H' => ∃ v5 : V, σ' = [some (.int p), some (.ref a), some gv, some v5, some rv, some (.int (0 + (j : Int))), none, none] ∧ Same H5 H' ∧ Trp K H' v5 (Zn.closed (Zn.rnd p s.res q.1) (Zn.rnd p t.res q.2.1) (Zn.rnd p (Zn.gres p s.res t.res) q.2.2)), ?_, ?_⟩
                · obtain ⟨z1', z2', z3', rfl⟩ : ∃ z1' z2' z3', us = [z1', z2', z3'] := by
                    match us, hul with
                    | [z1', z2', z3'], _ => exact ⟨_, _, _, rfl⟩
                  refine ⟨_, rfl, l, _, rfl, .inr (SqL.of (s5 _ _ el)), _, _, _, _, _, _, rfl, Prs.same hPu s5, fun v5 H6 s6 h6 => ⟨v5, rfl, s6, h6⟩⟩
                · rintro σ' H6 ⟨v5, rfl, s6, h6⟩
                  obtain ⟨x2, y2, z2, ⟨w2, rfl, hW⟩, hP2⟩ := id h6
                  generalize hQ : Zn.closed (Zn.rnd p s.res q.1) (Zn.rnd p t.res q.2.1) (Zn.rnd p (Zn.gres p s.res t.res) q.2.2) = q2 at *
                  refine ⟨fun σ' H' => σ' = [some (.int p), some (.ref a), some gv, some (.ref w2), some rv, some (.int (0 + (j : Int))), none, none] ∧ Same H6 H' ∧ Zn.anyE q2 = false, ?_, ?_⟩
                  · refine .inr ⟨_, rfl, w2, rfl, ⟨_, hW⟩, fun D hD => ?_⟩
                    refine loop_tup (xs := [x2, y2, z2]) (fun i H' => ∃ bs : List Bool, H' D = some (.lst (bs.map V.bl)) ∧ Same H6 H' ∧ bs = ([q2.1, q2.2.1, q2.2.2].map Zn.emp).take i) ⟨[], upd_same, upd_new hD, rfl⟩ ?_ ?_ ?_
                    · rintro i H7 _ ⟨_, _, s7, _⟩
                      exact SqT.same hW s7
                    · rintro i w H7 hw ⟨bs, eD, s7, hb⟩
                      obtain ⟨q', hq', tq⟩ := pr_get hP2 hw
                      have hbl : bs.length ≤ 3 := by
                        rw [hb]
                        exact Nat.le_trans (List.length_take_le' ..) (Nat.le_refl _)
                      refine ⟨rfl, ?_⟩
                      refine ⟨_, rfl, w, q', rfl, Tp.same tq s7, ?_⟩
                      refine ⟨_, eD, by rw [List.length_map]; omega, bs ++ [Zn.emp q'], by rw [upd_same, List.map_append]; rfl, same_upd s7 hD, ?_⟩
                      rw [hb, List.take_add_one, List.getElem?_map, hq']
                      rfl
                    · rintro H7 ⟨bs, eD, s7, hb⟩
                      have hb : bs = [q2.1, q2.2.1, q2.2.2].map Zn.emp := hb
                      have ha : bs.any id = Zn.anyE q2 := by
                        rw [hb]
                        exact emp_bits q2
                      cases c2 : Zn.anyE q2 with
                      | true =>
                        refine ⟨D, bs, rfl, SqL.of eD, _, rfl, iteD (by rw [ha, c2]) ?_⟩
                        exact no H7 (s1.trans (s2.trans (s3.trans (s4.trans (s5.trans (s6.trans s7)))))) (by rw [stepE, if_pos c2])
                      | false => exact ⟨D, bs, rfl, SqL.of eD, _, rfl, iteN (by rw [ha, c2]) ⟨rfl, s7, rfl⟩⟩
                  · rintro σ' H7 ⟨rfl, s7, c2⟩
                    refine ⟨_, _, q2, rfl, s3.trans (s4.trans (s5.trans (s6.trans s7))), ⟨x2, y2, z2, ⟨w2, rfl, SqT.same hW s7⟩, Prs.same hP2 s7⟩, ?_⟩
                    show (itn p (s.res, t.res, Zn.gres p s.res t.res) ((s.lo, s.hi), (t.lo, t.hi), g) j).bind _ = _
                    rw [hq]
                    show Zn.step p (s.res, t.res, Zn.gres p s.res t.res) q = some q2
                    rw [stepE, if_neg (by rw [c2]; decide)]
          · rintro σ' H3 ⟨u3, o5, q, rfl, s3, hT3, hq⟩
            exact ⟨u3, u3, o5, q, rfl, s3, hT3, hq⟩
        · rintro σ' H3 ⟨u3, _, o5, q, rfl, s3, ⟨x1, y1, z1, ⟨ua, rfl, hU⟩, hP⟩, hq⟩
          cases hP with
          | cons p1 hP =>
          cases hP with
          | cons p2 hP =>
          cases hP with
          | cons p3 _ =>
          obtain ⟨ra, rfl, hRa⟩ := Tp.same hR s3
          obtain ⟨a1, rfl, hA1⟩ := p1
          obtain ⟨a2, rfl, hA2⟩ := p2
          refine ⟨_, rfl, ra, _, _, _, rfl, rfl, hRa, rfl, _, rfl, ua, _, _, _, rfl, rfl, hU, rfl, a1, _, rfl, .inl hA1, nil_ ⟨(by show 3 ≤ sizeLine; decide), fun q4 H4 _ s4 e4 => ?_⟩⟩
          have hRa4 := SqT.same hRa s4
          have hU4 := SqT.same hU s4
          refine ⟨_, rfl, ra, _, _, _, rfl, rfl, hRa4, rfl, _, rfl, ua, _, _, _, rfl, rfl, hU4, rfl, a2, _, rfl, .inl (SqT.same hA2 s4), nil_ ⟨(by show 3 ≤ sizeLine; decide), fun q5 H5 _ s5 e5 => ?_⟩⟩
          refine nil_ ⟨(by show 2 ≤ sizeLine; decide), fun q6 H6 _ s6 e6 => ?_⟩
          have hU6 := SqT.same hU4 (s5.trans s6)
          refine ⟨_, rfl, ua, _, _, _, rfl, rfl, hU6, rfl, nil_ ⟨(by show 2 ≤ sizeLine; decide), fun q7 H7 _ s7 e7 => ?_⟩⟩
          refine (k H7 (s1.trans (s2.trans (s3.trans (s4.trans (s5.trans (s6.trans s7))))))).2 (⟨s.res, q.1.1, q.1.2⟩, ⟨t.res, q.2.1.1, q.2.1.2⟩, q.2.2) ?_ _ ?_
          · unfold Zn.tight
            have hq : (Zn.step p (s.res, t.res, Zn.gres p s.res t.res) ((s.lo, s.hi), (t.lo, t.hi), g)).bind (Zn.step p (s.res, t.res, Zn.gres p s.res t.res)) = some q := hq
            rw [hq]
            rfl
          · exact ⟨q6, _, _, _, Tp.of e7, SqT.of (s7 _ _ e6), Tp.of (s7 _ _ (s6 _ _ (s5 _ _ e4))), Tp.of (s7 _ _ (s6 _ _ e5)), Tp.same p3 (s4.trans (s5.trans (s6.trans s7)))⟩
end
end TM
end

section
set_option maxHeartbeats 4000000
namespace TM
open PySem PySem.Spec PyProof.Rows L2 EW
abbrev NNormIn : List Str := ["period", "zone", "values", "spans", "gap", "found", "told", "residue", "least", "most", "span"]
theorem NormIn : FnScope NNormIn ["period", "zone"] (defScope sNormIn) := ⟨rfl, rfl, rfl, by decide +kernel, rfl, by decide +kernel, by decide +kernel⟩
abbrev NNormal : List Str := ["shape", "period", "zone"]
theorem Normal : FnScope NNormal ["shape", "period", "zone"] (defScope sNormal) := ⟨rfl, rfl, rfl, by decide +kernel, rfl, by decide +kernel, by decide +kernel⟩
/-- None or the zone -/
def OutZ (K : W.Frag) (H : Hp) (o : Option Zn.Z) (Q : VK) : Prop := ∀ H', Same H H' → (o = none → Q .non H') ∧ ∀ z, o = some z → ∀ v, ZnV K H' v z → Q v H'
def spNormIn (K : W.Frag) : Sp := fun vs H Q _ => ∃ (p : Int) (v : V) (z : Zn.Z), vs = [.int p, v] ∧ 0 < p ∧ ZnV K H v z ∧ z.ss.length ≤ 2 ∧ OutZ K H (Zn.norm p z) Q
def spNormal (K : W.Frag) : Sp := fun vs H Q _ => ∃ (u v : V) (S : Shp) (p : Int) (z : Zn.Z), vs = [u, .int p, v] ∧ ShpAt K H u S ∧ ShpOk S ∧ 1 ≤ p ∧ p ≤ 400 ∧ ZnV K H v z ∧ ZOk S p z ∧ OutZ K H (Zn.norm p z) Q
section
variable {P : Program} {w : World} {K : W.Frag} {mg : Str → Option Value} {base : Heap}
theorem norm_two (p : Int) (z : Zn.Z) (s t : Rn.Sp3) (h : z.ss = [s, t]) : Zn.norm p z = (Zn.tight p s t z.g).map fun q => ⟨z.vs, [q.1, q.2.1], q.2.2⟩ := by
  unfold Zn.norm
  rw [h]
theorem norm_few (p : Int) (z : Zn.Z) (h : z.ss.length ≤ 2) (h2 : z.ss.length ≠ 2) : Zn.norm p z = if (z.ss.map (Zn.rndS p)).any Zn.empS = true then none else some ⟨z.vs, z.ss.map (Zn.rndS p), (none, none)⟩ := by
  obtain ⟨vs, ss, g⟩ := z
  match ss, h, h2 with
  | [], _, _ => rfl
  | [s], _, _ => rfl
  | [s, t], _, h2 => exact absurd rfl h2
theorem ok_normIn {fd : FuncData} (F : FnP K "normal_in" sNormIn fd) (T : Fre mg) (G : Glb K mg) (Dtight_two : Df P w K mg base 3 "tight_two" ["period", "spans", "gap"] (spTight K)) (Drounded : Df P w K mg base 1 "rounded" ["period", "residue", "pair"] (spRounded K))
    (Dis_empty_pair : Df P w K mg base 1 "is_empty_pair" ["pair"] (spEmptyP K)) : FnOk P w K mg base CX0 4 (He.ga K "normal_in") fd ["period", "zone"] (spNormIn K) := by
  refine F.ok NormIn (fun vs H Q E h => ?_) (fun cdv A outer s H vs Q E hr h => ?_)
  · obtain ⟨p, v, z, rfl, _⟩ := h
    rfl
  · obtain ⟨p, v, z, rfl, hp, hz, h2, k⟩ := h
    obtain ⟨a, b, c, us, ⟨e, rfl, g1⟩, g2, g3, g4, g5⟩ := id hz
    have hul := Paired.length g4
    have hbig : (64 : Nat) ≤ sizeLine := by decide
    refine ⟨_, PSs.nox (pss_cons (ps_asg (pv 1) (pg_tup rfl (pgs_cons (pg_name (i := 2) NormIn.nd rfl (Or.inl rfl)) (pgs_cons (pg_name (i := 3) NormIn.nd rfl (Or.inl rfl)) (pgs_cons (pg_name (i := 4) NormIn.nd rfl (Or.inl rfl)) pgs_nil)))))
      (pss_cons (ps_cut (ps_if (pt_cmpR op_eq (pe_callB (call_lenK K rfl) (by rfl) T.len PySem.boot_len (pa_cons (pv 3) pa_nil)) pe_int (nomark _)) (pss_cons (ps_set (i := 5) NormIn.nd rfl (Or.inl rfl) (pe_df Dtight_two (hr.mono (by decide)) rfl (pa_cons (pv 0) (pa_cons (pv 3) (pa_cons (pv 4) pa_nil)))))
      (pss_one (ps_ret (pe_ifExp (pt_cmp (pc_isN (pv 5))) pe_non (pe_tupS (pa_cons (pv 2) (EW.pa_starK K rfl (pv 5) pa_nil))))))) pss_nil))
      (pss_cons (ps_cut (ps_setLc (i := 6) (own := [("residue", 7), ("least", 8), ("most", 9)]) (g := gTup K 3 (gCons (gName 7) (gCons (gName 8) (gCons (gName 9) gNil)))) (tt := tYes) (by rfl) NormIn.nd rfl rfl (sw_true rfl rfl rfl (by decide +kernel)) (pi_tupK (K := K) rfl (pv 3)) (blkOk_by (own := [("residue", 7), ("least", 8), ("most", 9)]) (N := NNormIn) (sc := defScope sNormIn) (by decide +kernel)) (fun _ _ _ _ _ => (pg_tup rfl (pgs_cons (pg_name (i := 7) NormIn.nd rfl (Or.inl rfl)) (pgs_cons (pg_name (i := 8) NormIn.nd rfl (Or.inl rfl)) (pgs_cons (pg_name (i := 9) NormIn.nd rfl (Or.inl rfl)) pgs_nil))))) (fun _ _ _ _ _ => pts_nil) (fun _ _ _ _ _ => (pe_tupS (pa_cons (pv 7) (EW.pa_starK K rfl (pe_df Drounded (hr.mono (by decide)) rfl (pa_cons (pv 0) (pa_cons (pv 7) (pa_cons (pe_tupS (pa_cons (pv 8) (pa_cons (pv 9) pa_nil))) pa_nil)))) pa_nil))))))
      (pss_cons (ps_cut (ps_if (pt_val (pe_callB (cr_anyK K rfl rfl) (by rfl) T.any EW.boot_any (pa_cons (pe_lc (own := [("span", 10)]) (g := gName 10) (tt := tYes) (by rfl) NormIn.nd (pi_listK (K := K) rfl (pv 6)) (blkOk_by (own := [("span", 10)]) (N := NNormIn) (sc := defScope sNormIn) (by decide +kernel)) (fun _ _ _ _ _ => (pg_name (i := 10) NormIn.nd rfl (Or.inl rfl))) (fun _ _ _ _ _ => pts_nil) (fun _ _ _ _ _ => (pe_df Dis_empty_pair (hr.mono (by decide)) rfl (pa_cons (pe_slice (sl_tupS K rfl) (pv 10) (po_some pe_int) po_none) pa_nil)))) pa_nil))) (pss_one (ps_ret pe_non)) pss_nil))
      (pss_one (ps_ret (pe_tupS (pa_cons (pv 2) (pa_cons (pe_callTy (call_tupS K rfl) (by rfl) T.tuple EW.boot_tuple (pa_cons (pv 6) pa_nil)) (pa_cons (pe_glob (v := .ref (He.ga K "ANY")) rfl G.any rfl) pa_nil)))))))))), ?_⟩
    refine ⟨_, rfl, e, _, rfl, g1, rfl, _, _, rfl, _, _, rfl, _, _, rfl, rfl, ?_⟩
    refine ⟨fun σ' H' => σ' = [some (.int p), some (.ref e), some (.ref a), some (.ref b), some c, none, none, none, none, none, none] ∧ H' = H ∧ z.ss.length ≠ 2, ?_, ?_⟩
    · refine ⟨_, rfl, _, _, rfl, .inr ⟨_, g3, rfl⟩, rfl, _, rfl, ?_⟩
      by_cases c2 : us.length = 2
      · refine iteD (by rw [c2]; rfl) ?_
        obtain ⟨s, t, hst⟩ : ∃ s t, z.ss = [s, t] := by
          match hss : z.ss, (hul ▸ c2 : z.ss.length = 2) with
          | [s, t], _ => exact ⟨s, t, rfl⟩
        rw [hst] at g4
        cases g4 with
        | cons gx g4 =>
        cases g4 with
        | cons gy g4 =>
        cases g4
        refine ⟨_, rfl, _, rfl, _, rfl, p, _, _, _, _, s, t, z.g, rfl, hp, ⟨b, rfl, g3⟩, gx, gy, g5, fun H1 s1 => ⟨fun hn => ?_, fun r hr' u hu => ?_⟩⟩
        · exact ⟨_, rfl, _, rfl, iteT ((k H1 s1).1 (by rw [norm_two p z s t hst, hn]; rfl))⟩
        · obtain ⟨b', c', x', y', ⟨e', rfl, t1⟩, t2, t3, t4, t5⟩ := hu
          refine ⟨_, rfl, _, rfl, iteF ⟨_, rfl, _, rfl, e', _, rfl, .inl t1, nil_ ⟨(by show 3 ≤ sizeLine; decide), fun q H2 _ s2 e2 => ?_⟩⟩⟩
          refine (k H2 (s1.trans s2)).2 ⟨z.vs, [r.1, r.2.1], r.2.2⟩ (by rw [norm_two p z s t hst, hr']; rfl) _ ?_
          exact ⟨a, b', c', _, Tp.of e2, SqT.same g2 (s1.trans s2), SqT.same t2 s2, .cons (Tp.same t3 s2) (.cons (Tp.same t4 s2) .nil), Tp.same t5 s2⟩
      · exact iteN (by simp; omega) ⟨rfl, rfl, by omega⟩
    · rintro σ' H' ⟨rfl, rfl, ne2⟩
      have hn := norm_few p z h2 ne2
      refine ⟨fun σ' H1 => ∃ (l : Addr) (ts : List V), σ' = [some (.int p), some (.ref e), some (.ref a), some (.ref b), some c, none, some (.ref l), none, none, none, none] ∧ Same H' H1 ∧ H1 l = some (.lst ts) ∧ Sns K H1 ts (z.ss.map (Zn.rndS p)), ?_, ?_⟩
      · refine ⟨_, rfl, b, rfl, ⟨_, g3⟩, fun D hD => ?_⟩
        refine loop_tup (xs := us) (fun i H1 => ∃ ts : List V, H1 D = some (.lst ts) ∧ Same H' H1 ∧ ts.length = i ∧ Sns K H1 ts ((z.ss.map (Zn.rndS p)).take i)) ⟨[], upd_same, upd_new hD, rfl, .nil⟩ ?_ ?_ ?_
        · rintro i H1 _ ⟨_, _, s1, _⟩
          exact SqT.same g3 s1
        · rintro i x H1 hx ⟨ts, eD, s1, hl, hS⟩
          obtain ⟨⟨r, lo, hi⟩, hsp, sx⟩ := pr_get g4 hx
          obtain ⟨ax, rfl, hX⟩ := Tp.same sx s1
          have hi' : i < z.ss.length := (List.getElem?_eq_some_iff.mp hsp).1
          refine ⟨ax, _, rfl, hX, rfl, _, _, rfl, _, _, rfl, _, _, rfl, rfl, rfl, ?_⟩
          refine ⟨_, rfl, _, rfl, _, rfl, _, rfl, _, rfl, (by show 2 ≤ sizeLine; decide), fun q1 H2 _ s2 e2 => nil_ ?_⟩
          refine ⟨p, r, _, (lo, hi), rfl, hp, Tp.of e2, fun v' H3 s3 hv' => ?_⟩
          obtain ⟨a3, rfl, h3⟩ := hv'
          refine ⟨a3, _, rfl, .inl h3, nil_ ⟨(by show 3 ≤ sizeLine; decide), fun q4 H4 _ s4 e4 => ?_⟩⟩
          have sA := s2.trans (s3.trans s4)
          refine ⟨ts, sA _ _ eD, by omega, ts ++ [.ref q4], upd_same, same_upd (s1.trans sA) hD, by rw [List.length_append, hl]; rfl, ?_⟩
          have kD : Kept D H4 (upd H4 D (.lst (ts ++ [.ref q4]))) := Kept.upd
          rw [List.take_add_one, List.getElem?_map, hsp]
          refine pr_append (Sns.kept (Sns.same hS sA) (sA _ _ eD) kD) (.cons (Tp.kept ?_ (sA _ _ eD) kD) .nil)
          exact Tp.of e4
        · rintro H1 ⟨ts, eD, s1, hl, hS⟩
          refine ⟨D, ts, rfl, s1, eD, ?_⟩
          rw [hul, List.take_of_length_le (by simp)] at hS
          exact hS
      · rintro σ' H1 ⟨l, ts, rfl, s1, el, hS⟩
        have htl := Paired.length hS
        rw [List.length_map] at htl
        refine ⟨fun σ' H2 => σ' = [some (.int p), some (.ref e), some (.ref a), some (.ref b), some c, none, some (.ref l), none, none, none, none] ∧ Same H1 H2 ∧ (z.ss.map (Zn.rndS p)).any Zn.empS = false, ?_, ?_⟩
        · refine ⟨_, rfl, l, rfl, ⟨_, SqL.of el⟩, fun D hD => ?_⟩
          refine loop_list (xs := ts) (fun i H2 => ∃ bs : List Bool, H2 D = some (.lst (bs.map V.bl)) ∧ Same H1 H2 ∧ bs = ((z.ss.map (Zn.rndS p)).map Zn.empS).take i) ⟨[], upd_same, upd_new hD, rfl⟩ ?_ ?_ ?_
          · rintro i H2 _ ⟨_, _, s2, _⟩
            exact SqL.of (s2 _ _ el)
          · rintro i x H2 hx ⟨bs, eD, s2, hb⟩
            obtain ⟨sp, hsp, sx⟩ := pr_get hS hx
            obtain ⟨ax, rfl, hX⟩ := Tp.same sx s2
            have hbl : bs.length ≤ 2 := by
              rw [hb]
              refine Nat.le_trans (List.length_take_le' ..) ?_
              simp only [List.length_map]
              exact h2
            refine ⟨rfl, ?_⟩
            refine ⟨_, rfl, _, rfl, ax, _, rfl, hX, (fun ⟨z, _⟩ => by rw [show HT.sIx _ 0 (some 1) = _ from HT.sIx_nat _ 0 1] at z; cases z), fun q3 H3 _ s3 e3 => nil_ ?_⟩
            refine ⟨_, (sp.lo, sp.hi), rfl, Tp.of e3, ?_⟩
            refine ⟨_, s3 _ _ eD, by rw [List.length_map]; omega, bs ++ [Zn.emp (sp.lo, sp.hi)], by rw [upd_same, List.map_append]; rfl, same_upd (s2.trans s3) hD, ?_⟩
            rw [hb, List.take_add_one, List.getElem?_map, hsp]
            rfl
          · rintro H2 ⟨bs, eD, s2, hb⟩
            rw [htl, List.take_of_length_le (by simp)] at hb
            have ha : bs.any id = (z.ss.map (Zn.rndS p)).any Zn.empS := by
              rw [hb, List.any_map]
              rfl
            cases c1 : (z.ss.map (Zn.rndS p)).any Zn.empS with
            | true =>
              refine ⟨D, bs, rfl, SqL.of eD, _, rfl, iteD (by rw [ha, c1]) ?_⟩
              exact (k H2 (s1.trans s2)).1 (by rw [hn, if_pos c1])
            | false => exact ⟨D, bs, rfl, SqL.of eD, _, rfl, iteN (by rw [ha, c1]) ⟨rfl, s2, rfl⟩⟩
        · rintro σ' H2 ⟨rfl, s2, c1⟩
          refine ⟨_, rfl, _, rfl, l, ts, rfl, SqL.of (s2 _ _ el), fun q3 H3 _ s3 e3 => con1 ?_⟩
          refine ⟨(by show 3 ≤ sizeLine; decide), fun q4 H4 _ s4 e4 => ?_⟩
          refine (k H4 (s1.trans (s2.trans (s3.trans s4)))).2 ⟨z.vs, z.ss.map (Zn.rndS p), (none, none)⟩ (by rw [hn, if_neg (by rw [c1]; decide)]) _ ?_
          exact ⟨a, q3, _, ts, Tp.of e4, SqT.same g2 (s1.trans (s2.trans (s3.trans s4))), SqT.of (s4 _ _ e3), Sns.same hS (s2.trans (s3.trans s4)), ⟨_, rfl, G.any2 H4⟩⟩
theorem ok_normal {fd : FuncData} (F : FnP K "normal" sNormal fd) (Drequire_all : Df P w K mg base 6 "require_all" ["shape", "period", "zone"] (spAll K)) (Dnormal_in : Df P w K mg base 4 "normal_in" ["period", "zone"] (spNormIn K)) :
    FnOk P w K mg base CX0 7 (He.ga K "normal") fd ["shape", "period", "zone"] (spNormal K) := by
  refine F.ok Normal (fun vs H Q E h => ?_) (fun cdv A outer s H vs Q E hr h => ?_)
  · obtain ⟨u, v, S, p, z, rfl, _⟩ := h
    rfl
  · obtain ⟨u, v, S, p, z, rfl, hu, so, p1, p2, hz, zo, k⟩ := h
    have h2 : z.ss.length ≤ 2 := by
      rw [zo.ns]
      exact so.tms
    refine ⟨_, PSs.nox (pss_cons (ps_expr (pe_df Drequire_all (hr.mono (by decide)) rfl (pa_cons (pv 0) (pa_cons (pv 1) (pa_cons (pv 2) pa_nil)))))
      (pss_one (ps_ret (pe_df Dnormal_in (hr.mono (by decide)) rfl (pa_cons (pv 1) (pa_cons (pv 2) pa_nil)))))), ?_⟩
    refine ⟨_, rfl, _, rfl, _, rfl, u, v, S, p, z, rfl, hu, so, p1, p2, hz, zo, fun H1 s1 => ?_⟩
    exact ⟨_, rfl, _, rfl, p, v, z, rfl, by omega, hz.same s1, h2, fun H2 s2 => k H2 (s1.trans s2)⟩
theorem pls_sh1 (o : Option Int) (m : Int) : Zn.pls o (some m) = Zn.sh m o := by cases o <;> rfl
theorem pr_drop {α β : Type} {F : α → β → Prop} : ∀ {a : List α} {b : List β} (i : Nat), Paired F a b → Paired F (a.drop i) (b.drop i)
  | _, _, 0, h => by
    rw [List.drop_zero, List.drop_zero]
    exact h
  | _, _, _ + 1, .nil => by
    rw [List.drop_nil, List.drop_nil]
    exact .nil
  | _, _, i + 1, .cons h t => by
    rw [List.drop_succ_cons, List.drop_succ_cons]
    exact pr_drop i t
theorem cut_to (us : List V) (i : Nat) : cutV us none (some (i : Int)) = us.take i := by
  unfold cutV
  rw [HT.sIx_nat, HT.sIx_none, List.drop_zero, Nat.sub_zero, ← List.take_take, List.take_length]
theorem cut_from (us : List V) (i : Nat) (h : i < us.length) : cutV us (some ((i : Int) + 1)) none = us.drop (i + 1) := by
  unfold cutV
  rw [show (i : Int) + 1 = ((i + 1 : Nat) : Int) from rfl, HT.sIx_nat, HT.sIx_none, show min (i + 1) us.length = i + 1 by omega]
  exact List.take_of_length_le (by simp)
theorem tms_nodup {S : Shp} (h : ShpOk S) : (tms S).Nodup := by
  unfold tms
  rw [(srt_perm _).nodup_iff]
  exact (List.Sublist.map _ List.filter_sublist).nodup h.nd
theorem tms_mem {S : Shp} {n : Str} (h : n ∈ tms S) : (n, Kd.time) ∈ S := by
  unfold tms at h
  rw [(srt_perm _).mem_iff] at h
  obtain ⟨⟨x, k⟩, hq, rfl⟩ := List.mem_map.mp h
  rw [List.mem_filter] at hq
  cases k with
  | time => exact hq.1
  | dom l => cases hq.2
end
end TM
end

section
set_option maxHeartbeats 4000000
/-! EwZnL: items of lists or tuples; what the drawn shapes need. -/
namespace EW
open PySem PySem.Spec PyProof.Rows L2
def rIxQ (K : W.Frag) : R2 := fun x y H Q => ∃ p xs i v, x = .ref p ∧ y = .int i ∧ Sq K H p xs ∧ atI xs i = some v ∧ Q v H
theorem ix_seqK {X : Cx} (K : W.Frag) (h : X.K = K) : IxR X (rIxQ K) := by
  subst h
  intro value slice pins s σ H x y v u Q I rx ry q hs
  obtain ⟨p, xs, i, z, rfl, rfl, hq, he, q⟩ := q
  rcases hq with hq | hq
  · exact ix_list value slice pins s σ H _ _ v u Q I rx ry ⟨p, xs, i, z, rfl, rfl, hq, he, q⟩ hs
  · exact ix_tup value slice pins s σ H _ _ v u Q I rx ry ⟨p, xs, i, z, rfl, rfl, hq, he, q⟩ hs
end EW
end

section
set_option maxHeartbeats 4000000
namespace TM
open PySem PySem.Spec PyProof.Rows L2 EW
/-! ### the draws -/
theorem iteB {b : Bool} {A B : Prop} (e : b = true) (h : A) : if b = true then A else B := by
  rw [if_pos e]
  exact h
theorem iteC {b : Bool} {A B : Prop} (e : b = false) (h : B) : if b = true then A else B := by
  rw [if_neg (by rw [e]; decide)]
  exact h
theorem bits58 : (Builtin.Int.intBits ((10 : Int) ^ (58 : Int).toNat) : Int) * 11 ≤ 2 ^ 27 := by decide +kernel
abbrev MOD : Int := ((10 : Int) ^ (58 : Int).toNat) ^ (11 : Int).toNat
theorem mod_pos : 0 < MOD := by decide +kernel
theorem mod_lt : MOD < 2 ^ 2200 := by decide +kernel
theorem great_ok (n : Int) : 0 ≤ n % MOD ∧ n % MOD < 2 ^ 2200 := ⟨Int.emod_nonneg _ (Int.ne_of_gt mod_pos), Int.lt_trans (Int.emod_lt_of_pos _ mod_pos) mod_lt⟩
theorem two_ok {q one c : Int} (p0 : 0 ≤ q) (p1 : q < 36028797018963913) (o0 : 0 ≤ one) (o1 : one < 72057594037927931) (h0 : 0 ≤ c) (h1 : c ≤ 2000000) : (q * one + 15485863 * c).natAbs < 2 ^ 130 := by
  have t1 : q * one ≤ 36028797018963913 * 72057594037927931 := Int.mul_le_mul (by omega) (by omega) o0 (by decide)
  have t0 : 0 ≤ q * one := Int.mul_nonneg p0 o0
  omega
def spDice (K : W.Frag) : Sp := fun vs H Q _ => ∃ (a : Addr) (ns : List Int) (s : Int), vs = [.ref a, .int s] ∧ SqL K H a (ns.map V.int) ∧ 0 ≤ s ∧
  ∀ (d : Addr) (H' : Hp), H d = none → Same H H' → Dc H' d 0 → Q (.ref d) H'
def spRoll : Sp := fun vs H Q _ => ∃ (d : Addr) (m n : Int), vs = [.ref d, .int m] ∧ Dc H d n ∧ n ≤ 1000000 ∧ 0 < m ∧ m < 2 ^ 200 ∧
  ∀ (r : Int) (H' : Hp), 0 ≤ r → r < m → Kept d H H' → Dc H' d (n + 1) → Q (.int r) H'
abbrev NDice : List Str := ["_law_script", "_law_spot", "_law_cell", "_law_great", "_law_blend"]
theorem Dice : FnScope NDice ["_law_script", "_law_spot"] (defScope sDice) := ⟨rfl, rfl, rfl, by decide +kernel, rfl, by decide +kernel, by decide +kernel⟩
abbrev NRoll : List Str := ["_law_dice_here", "_law_many", "_law_found", "_law_one", "_law_two"]
theorem Roll : FnScope NRoll ["_law_dice_here", "_law_many"] (defScope sRoll) := ⟨rfl, rfl, rfl, by decide +kernel, rfl, by decide +kernel, by decide +kernel⟩
abbrev NPick : List Str := ["_law_dice_here", "_law_items"]
theorem Pick : FnScope NPick ["_law_dice_here", "_law_items"] (defScope sPick) := ⟨rfl, rfl, rfl, by decide +kernel, rfl, by decide +kernel, by decide +kernel⟩
theorem sqL_kept {K : W.Frag} {H H' : Hp} {l d : Addr} {xs : List V} (h : SqL K H l xs) (n : l ≠ d) (k : EW.Kept d H H') : SqL K H' l xs := by
  rcases h with (h | ⟨o, h⟩) | h
  · exact .inl (.inl (k _ _ n h))
  · exact .inl (.inr ⟨o, k _ _ n h⟩)
  · exact .inr h
theorem sq_kept {K : W.Frag} {H H' : Hp} {l d : Addr} {xs : List V} {n : Int} (D : Dc H d n) (h : (SqL K H l xs ∧ l ≠ d) ∨ SqT K H l xs) (k : EW.Kept d H H') : Sq K H' l xs := by
  obtain ⟨g, b, c, hd, _⟩ := D
  rcases h with ⟨h, n⟩ | h
  · exact .inl (sqL_kept h n k)
  · exact .inr (SqT.kept h hd k)
def spPick (K : W.Frag) : Sp := fun vs H Q _ => ∃ (d l : Addr) (xs : List V) (n : Int), vs = [.ref d, .ref l] ∧ Dc H d n ∧ n ≤ 1000000 ∧ ((SqL K H l xs ∧ l ≠ d) ∨ SqT K H l xs) ∧ 0 < xs.length ∧ xs.length < 1000 ∧
  ∀ (v : V) (H' : Hp), v ∈ xs → EW.Kept d H H' → Dc H' d (n + 1) → Q v H'
section
variable {P : Program} {w : World} {K : W.Frag} {mg : Str → Option Value} {base : Heap}
/-- what stands behind the drawn cell -/
theorem dice_end {H : Hp} {Q : VK} {great bl : Int} (k : ∀ (d : Addr) (H' : Hp), H d = none → Same H H' → Dc H' d 0 → Q (.ref d) H') (hg : 0 ≤ great ∧ great < 2 ^ 2200) (d : Addr) (hd : H d = none) (m : Int) (hm : m = if great - 10 ^ (18 : Int).toNat > 0 then great - 10 ^ (18 : Int).toNat else 0) :
    Q (.ref d) (upd H d (.lst [.int m, .int (bl % 2305843009213693907), .int 0])) := by
  refine k d _ hd (fun b o e => by rw [upd_ne (ne_of_none e hd)]; exact e) ⟨m, bl % 2305843009213693907, 0, upd_same, ?_, ?_, Int.emod_nonneg _ (by decide), ?_, Int.le_refl _, Int.le_refl _⟩
  · rw [hm]
    split <;> omega
  · have z : (0 : Int) ≤ 10 ^ (18 : Int).toNat := by decide +kernel
    have z2 : (0 : Int) < 2 ^ 2200 := by decide +kernel
    rw [hm]
    split <;> omega
  · have z := Int.emod_lt_of_pos bl (show (0 : Int) < 2305843009213693907 by decide)
    omega
theorem ok_dice {fd : FuncData} (F : FnP K "_law_dice" sDice fd) (T : Fre mg) : FnOk P w K mg base CX0 1 (He.ga K "_law_dice") fd ["_law_script", "_law_spot"] (spDice K) := by
  refine F.ok Dice (fun vs H Q E h => ?_) (fun cdv A outer s H vs Q E hr h => ?_)
  · obtain ⟨a, ns, s, rfl, _⟩ := h
    rfl
  · obtain ⟨a, ns, sp, rfl, hS, h0, k⟩ := h
    refine ⟨_, PSs.nox (pss_cons (ps_set (i := 2) Dice.nd rfl (Or.inl rfl) (pe_op op_add (pe_op op_mul pe_int (pv 1)) pe_int))
      (pss_cons (ps_if (pt_cmpR op_lt (pv 1) (pe_callB (call_lenK K rfl) (by rfl) T.len PySem.boot_len (pa_cons (pv 0) pa_nil)) (nomark _)) (pss_one (ps_set (i := 2) Dice.nd rfl (Or.inl rfl) (pe_ix (ix_listK K rfl) (pv 0) (pv 1) (fun _ _ => rfl)))) pss_nil)
      (pss_cons (ps_set (i := 3) Dice.nd rfl (Or.inl rfl) (pe_op op_mod (pe_callTy call_int1 (by rfl) T.int EW.boot_int (pa_cons (pe_callB call_abs (by rfl) T.abs EW.boot_abs (pa_cons (pv 2) pa_nil)) pa_nil)) (pe_op op_powW (pe_op op_pow pe_int pe_int) pe_int)))
      (pss_cons (ps_set (i := 4) Dice.nd rfl (Or.inl rfl) (pe_op op_mul (pe_op op_mod (pe_callTy call_int1 (by rfl) T.int EW.boot_int (pa_cons (pv 3) pa_nil)) pe_int) pe_int))
      (pss_cons (ps_set (i := 4) Dice.nd rfl (Or.inl rfl) (pe_op op_add (pe_op op_add (pe_op op_add (pv 4) (pe_op op_mul pe_int (pv 1))) (pe_op op_mul pe_int (pe_callTy call_int1 (by rfl) T.int EW.boot_int (pa_cons (pe_cmpR op_lt (pv 2) pe_int (nomark _)) pa_nil)))) pe_int))
      (pss_one (ps_ret (pe_lst (pa_cons (pe_callB (call_max2 rfl) (by rfl) T.max EW.boot_max (pa_cons pe_int (pa_cons (pe_op op_sub (pv 3) (pe_op op_pow pe_int pe_int)) pa_nil))) (pa_cons (pe_op op_mod (pe_callTy call_int1 (by rfl) T.int EW.boot_int (pa_cons (pv 4) pa_nil)) pe_int) (pa_cons pe_int pa_nil))))))))))), ?_⟩
    refine ⟨_, rfl, _, _, rfl, rfl, .inl ⟨by decide, by decide⟩, _, _, rfl, rfl, ?_⟩
    refine ⟨_, rfl, _, rfl, _, (ns.map V.int).length, rfl, Or.inl ⟨_, hS, rfl⟩, _, _, rfl, rfl, _, rfl, ?_⟩
    refine ite2 (fun c => ?_) (fun c => ?_)
    · have c' : sp < ((ns.map V.int).length : Int) := of_decide_eq_true c
      rw [List.length_map] at c'
      obtain ⟨j, rfl⟩ : ∃ j : Nat, sp = (j : Int) := ⟨sp.toNat, by omega⟩
      have hj : j < ns.length := by omega
      have ej : (ns.map V.int)[j]? = some (V.int ns[j]) := by
        rw [List.getElem?_map, List.getElem?_eq_getElem hj]
        rfl
      refine ⟨_, rfl, _, rfl, a, _, _, _, rfl, rfl, hS, atI_nat ej, ?_⟩
      refine ⟨_, rfl, _, rfl, Or.inl ⟨_, rfl, _, _, rfl, rfl, ⟨by decide, by decide, by decide⟩, _, _, rfl, rfl, ⟨by decide, bits58⟩, _, _, rfl, rfl, mod_pos, ?_⟩⟩
      refine ⟨_, rfl, Or.inl ⟨_, rfl, _, _, rfl, rfl, (by show (0 : Int) < 2305843009213693921; decide), _, _, rfl, rfl, .inr ⟨by decide, by decide⟩, ?_⟩⟩
      refine ⟨_, rfl, _, rfl, _, _, rfl, rfl, .inl ⟨by decide, by decide⟩, _, _, rfl, rfl, _, rfl, _, _, rfl, rfl, Or.inr ⟨_, rfl, _, _, rfl, rfl, .inl ⟨by decide, by decide⟩, _, _, rfl, rfl, _, _, rfl, rfl, ?_⟩⟩
      refine ⟨_, rfl, _, _, rfl, rfl, ⟨by decide, by decide, by decide⟩, _, _, rfl, rfl, _, _, rfl, ?_⟩
      refine ⟨_, rfl, Or.inl ⟨_, rfl, _, _, rfl, rfl, (by show (0 : Int) < 2305843009213693907; decide), (by show 3 ≤ sizeLine; decide), fun d hd => ?_⟩⟩
      exact dice_end k (great_ok _) d hd _ rfl
    · refine ⟨_, rfl, _, rfl, Or.inl ⟨_, rfl, _, _, rfl, rfl, ⟨by decide, by decide, by decide⟩, _, _, rfl, rfl, ⟨by decide, bits58⟩, _, _, rfl, rfl, mod_pos, ?_⟩⟩
      refine ⟨_, rfl, Or.inl ⟨_, rfl, _, _, rfl, rfl, (by show (0 : Int) < 2305843009213693921; decide), _, _, rfl, rfl, .inr ⟨by decide, by decide⟩, ?_⟩⟩
      refine ⟨_, rfl, _, rfl, _, _, rfl, rfl, .inl ⟨by decide, by decide⟩, _, _, rfl, rfl, _, rfl, _, _, rfl, rfl, Or.inr ⟨_, rfl, _, _, rfl, rfl, .inl ⟨by decide, by decide⟩, _, _, rfl, rfl, _, _, rfl, rfl, ?_⟩⟩
      refine ⟨_, rfl, _, _, rfl, rfl, ⟨by decide, by decide, by decide⟩, _, _, rfl, rfl, _, _, rfl, ?_⟩
      refine ⟨_, rfl, Or.inl ⟨_, rfl, _, _, rfl, rfl, (by show (0 : Int) < 2305843009213693907; decide), (by show 3 ≤ sizeLine; decide), fun d hd => ?_⟩⟩
      exact dice_end k (great_ok _) d hd _ rfl
theorem ok_roll {fd : FuncData} (F : FnP K "_law_roll" sRoll fd) (T : Fre mg) : FnOk P w K mg base CX0 1 (He.ga K "_law_roll") fd ["_law_dice_here", "_law_many"] spRoll := by
  refine F.ok Roll (fun vs H Q E h => ?_) (fun cdv A outer s H vs Q E hr h => ?_)
  · obtain ⟨d, m, n, rfl, _⟩ := h
    rfl
  · obtain ⟨d, m, n, rfl, D, hn, h0, h1, k⟩ := h
    refine ⟨_, PSs.nox (pss_cons (ps_if (pt_cmpR op_gt (pe_ix (ix_listK K rfl) (pv 0) pe_int (fun _ _ => rfl)) pe_int (nomark _)) (pss_cons (ps_set (i := 2) Roll.nd rfl (Or.inl rfl) (pe_op op_mod (pe_callTy call_int1 (by rfl) T.int EW.boot_int (pa_cons (pe_ix (ix_listK K rfl) (pv 0) pe_int (fun _ _ => rfl)) pa_nil)) (pv 1)))
      (pss_cons (ps_asg (pe_op op_fdivW (pe_ix (ix_listK K rfl) (pv 0) pe_int (fun _ _ => rfl)) (pv 1)) (pg_sub (pv 0) pe_int set_list))
      (pss_one (ps_ret (pv 2))))) pss_nil)
      (pss_cons (ps_asg (pe_op op_add (pe_ix (ix_listK K rfl) (pv 0) pe_int (fun _ _ => rfl)) pe_int) (pg_sub (pv 0) pe_int set_list))
      (pss_cons (ps_set (i := 3) Roll.nd rfl (Or.inl rfl) (pe_op op_mod (pe_callTy call_int1 (by rfl) T.int EW.boot_int (pa_cons (pe_op op_add (pe_ix (ix_listK K rfl) (pv 0) pe_int (fun _ _ => rfl)) (pe_op op_mul pe_int (pe_ix (ix_listK K rfl) (pv 0) pe_int (fun _ _ => rfl)))) pa_nil)) pe_int))
      (pss_cons (ps_set (i := 4) Roll.nd rfl (Or.inl rfl) (pe_op op_add (pe_op op_mul (pe_op op_mod (pe_callTy call_int1 (by rfl) T.int EW.boot_int (pa_cons (pe_op op_mul (pv 3) (pv 3)) pa_nil)) pe_int) (pv 3)) (pe_op op_mul pe_int (pe_ix (ix_listK K rfl) (pv 0) pe_int (fun _ _ => rfl)))))
      (pss_one (ps_ret (pe_op op_mod (pe_callTy call_int1 (by rfl) T.int EW.boot_int (pa_cons (pe_op op_fdivW (pe_op op_mod (pe_callTy call_int1 (by rfl) T.int EW.boot_int (pa_cons (pe_op op_add (pe_op op_mulW (pv 4) (pv 4)) (pe_ix (ix_listK K rfl) (pv 0) pe_int (fun _ _ => rfl))) pa_nil)) pe_int) pe_int) pa_nil)) (pv 1)))))))), ?_⟩
    obtain ⟨g, b, c, hd, hg0, hg1, hb0, hb1, hc0, hc1⟩ := D
    have sq : ∀ {g b c : Int} {H : Hp}, H d = some (.lst [.int g, .int b, .int c]) → SqL K H d [.int g, .int b, .int c] := fun h => SqL.of h
    refine ⟨_, rfl, d, _, _, _, rfl, rfl, sq hd, rfl, _, _, rfl, rfl, _, rfl, ?_⟩
    refine ite2 (fun q => ?_) (fun q => ?_)
    · refine ⟨_, rfl, d, _, _, _, rfl, rfl, sq hd, rfl, Or.inl ⟨_, rfl, ?_⟩⟩
      refine ⟨_, rfl, _, _, rfl, rfl, h0, ?_⟩
      refine ⟨_, rfl, d, _, _, _, rfl, rfl, sq hd, rfl, _, rfl, _, _, rfl, rfl, wide_div h0 (b := 200) (by omega) (by decide) (by decide), ?_⟩
      refine ⟨_, rfl, d, _, _, 0, rfl, rfl, hd, rfl, ?_⟩
      refine ⟨_, rfl, ?_⟩
      refine k _ _ (Int.emod_nonneg _ (by omega)) (Int.emod_lt_of_pos _ h0) Kept.upd ⟨g / m, b, c, upd_same, Int.ediv_nonneg hg0 (by omega), ?_, hb0, hb1, hc0, by omega⟩
      exact Int.lt_of_le_of_lt (Int.ediv_le_self _ hg0) hg1
    · have hc2 : H d = some (.lst [.int g, .int b, .int c]) := hd
      refine ⟨_, rfl, d, _, _, _, rfl, rfl, sq hd, rfl, _, _, rfl, rfl, _, rfl, d, _, _, 2, rfl, rfl, hd, rfl, ?_⟩
      have e1 : (upd H d (.lst ([V.int g, V.int b, V.int c].set 2 (.int (c + 1))))) d = some (.lst [.int g, .int b, .int (c + 1)]) := upd_same
      refine ⟨_, rfl, d, _, _, _, rfl, rfl, sq e1, rfl, _, rfl, d, _, _, _, rfl, rfl, sq e1, rfl, _, _, rfl, rfl, .inl ⟨by decide, by decide⟩, _, _, rfl, rfl, Or.inl ⟨_, rfl, _, _, rfl, rfl, (by show (0 : Int) < 72057594037927931; decide), ?_⟩⟩
      have o0 := Int.emod_nonneg (b + 1000000403 * (c + 1)) (show (72057594037927931 : Int) ≠ 0 by decide)
      have o1 := Int.emod_lt_of_pos (b + 1000000403 * (c + 1)) (show (0 : Int) < 72057594037927931 by decide)
      refine ⟨_, rfl, _, rfl, _, _, rfl, rfl, .inl ⟨by omega, by omega⟩, Or.inl ⟨_, rfl, _, _, rfl, rfl, (by show (0 : Int) < 36028797018963913; decide), ?_⟩⟩
      have p0 := Int.emod_nonneg ((b + 1000000403 * (c + 1)) % 72057594037927931 * ((b + 1000000403 * (c + 1)) % 72057594037927931)) (show (36028797018963913 : Int) ≠ 0 by decide)
      have p1 := Int.emod_lt_of_pos ((b + 1000000403 * (c + 1)) % 72057594037927931 * ((b + 1000000403 * (c + 1)) % 72057594037927931)) (show (0 : Int) < 36028797018963913 by decide)
      refine ⟨_, rfl, _, _, rfl, rfl, .inl ⟨by omega, by omega⟩, _, rfl, d, _, _, _, rfl, rfl, sq e1, rfl, _, _, rfl, rfl, .inl ⟨by decide, by decide⟩, _, _, rfl, rfl, ?_⟩
      have two_lt := two_ok p0 p1 o0 o1 (c := c + 1) (by omega) (by omega)
      refine ⟨_, rfl, _, rfl, _, _, rfl, rfl, wide_mul (a := 130) (b := 130) two_lt two_lt (by decide) (by decide) (by decide), ?_⟩
      refine ⟨_, rfl, d, _, _, _, rfl, rfl, sq e1, rfl, _, _, rfl, rfl, Or.inl ⟨_, rfl, _, _, rfl, rfl, (by show (0 : Int) < 1152921504606846883; decide), _, _, rfl, rfl, ⟨by decide, by decide⟩, Or.inl ⟨_, rfl, ?_⟩⟩⟩
      refine ⟨_, rfl, _, _, rfl, rfl, h0, ?_⟩
      exact k _ _ (Int.emod_nonneg _ (by omega)) (Int.emod_lt_of_pos _ h0) Kept.upd ⟨g, b, c + 1, e1, hg0, hg1, hb0, hb1, by omega, by omega⟩
theorem ok_pick {fd : FuncData} (F : FnP K "_law_pick" sPick fd) (T : Fre mg) (D_law_roll : Df P w K mg base 1 "_law_roll" ["_law_dice_here", "_law_many"] spRoll) : FnOk P w K mg base CX0 2 (He.ga K "_law_pick") fd ["_law_dice_here", "_law_items"] (spPick K) := by
  refine F.ok Pick (fun vs H Q E h => ?_) (fun cdv A outer s H vs Q E hr h => ?_)
  · obtain ⟨d, l, xs, n, rfl, _⟩ := h
    rfl
  · obtain ⟨d, l, xs, n, rfl, D, hn, hS, h0, h1, k⟩ := h
    refine ⟨_, PSs.nox (pss_one (ps_ret (pe_ix (EW.ix_seqK K rfl) (pv 1) (pe_df D_law_roll (hr.mono (by decide)) rfl (pa_cons (pv 0) (pa_cons (pe_callB (call_lenK K rfl) (by rfl) T.len PySem.boot_len (pa_cons (pv 1) pa_nil)) pa_nil))) (fun _ _ => rfl)))), ?_⟩
    refine ⟨_, rfl, _, rfl, _, rfl, _, xs.length, rfl, hS.elim (fun q => Or.inl ⟨_, q.1, rfl⟩) (fun q => Or.inr ⟨_, q, rfl⟩), ?_⟩
    refine ⟨d, _, n, rfl, D, hn, by omega, by omega, fun r H' r0 r1 kp D' => ?_⟩
    obtain ⟨j, rfl⟩ : ∃ j : Nat, r = (j : Int) := ⟨r.toNat, by omega⟩
    have hj : j < xs.length := by omega
    exact ⟨l, xs, _, _, rfl, rfl, sq_kept D hS kp, atI_nat (List.getElem?_eq_getElem hj), k _ _ (List.getElem_mem hj) kp D'⟩
end
end TM
end

section
set_option maxHeartbeats 4000000
namespace EW
open PySem PySem.Spec PyProof.Rows L2
theorem Dc.same {H H' : Hp} {d : Addr} {n : Int} (h : Dc H d n) (s : Same H H') : Dc H' d n := by
  obtain ⟨g, b, c, h1, r⟩ := h
  exact ⟨g, b, c, s _ _ h1, r⟩
theorem Dc.lst {H : Hp} {d : Addr} {n : Int} (h : Dc H d n) : ∃ xs, H d = some (.lst xs) := by
  obtain ⟨g, b, c, h1, _⟩ := h
  exact ⟨_, h1⟩
theorem kept_of {d : Addr} {H H' : Hp} (s : Same H H') : Kept d H H' := fun a o _ e => s a o e
/-- tuples put together, sealed -/
theorem op_catTS {X : Cx} (K : W.Frag) (h : X.K = K) : OpR X (binaryOp .Add) (fun x y H Q => ∃ (a b : Addr) (xs ys : List V), x = .ref a ∧ y = .ref b ∧ SqT K H a xs ∧ SqT K H b ys ∧ xs ≠ [] ∧ ys ≠ [] ∧ xs.length + ys.length ≤ sizeLine ∧ New H (fun _ => .tup (xs ++ ys)) Q) := by
  subst h
  intro pins s σ H x y v u Q I rx ry h
  obtain ⟨a, b, xs, ys, h1, h2, h3, h4, h5, h6, h7, h8⟩ := h
  exact op_catT pins s σ H x y v u Q I rx ry ⟨a, b, xs, ys, h1, h2, h3, h4, h5, h7, fun z => absurd z h6, fun _ p hp => h8.at hp⟩
end EW
namespace TM
open PySem PySem.Spec PyProof.Rows L2 EW
abbrev NNear : List Str := ["_law_dice_here", "_law_far"]
theorem Near : FnScope NNear ["_law_dice_here", "_law_far"] (defScope sNear) := ⟨rfl, rfl, rfl, by decide +kernel, rfl, by decide +kernel, by decide +kernel⟩
abbrev NBound : List Str := ["_law_dice_here", "_law_far", "_law_way"]
theorem Bound : FnScope NBound ["_law_dice_here", "_law_far"] (defScope sBound) := ⟨rfl, rfl, rfl, by decide +kernel, rfl, by decide +kernel, by decide +kernel⟩
abbrev NPair : List Str := ["_law_dice_here", "_law_far", "_law_one", "_law_two"]
theorem Pair : FnScope NPair ["_law_dice_here", "_law_far"] (defScope sPair) := ⟨rfl, rfl, rfl, by decide +kernel, rfl, by decide +kernel, by decide +kernel⟩
abbrev NResidue : List Str := ["_law_dice_here", "_law_period"]
theorem Residue : FnScope NResidue ["_law_dice_here", "_law_period"] (defScope sResidue) := ⟨rfl, rfl, rfl, by decide +kernel, rfl, by decide +kernel, by decide +kernel⟩
abbrev NSpan : List Str := ["_law_dice_here", "_law_period", "_law_far", "_law_residue_here"]
theorem Span : FnScope NSpan ["_law_dice_here", "_law_period", "_law_far"] (defScope sSpan) := ⟨rfl, rfl, rfl, by decide +kernel, rfl, by decide +kernel, by decide +kernel⟩
/-- a bound that is not too far -/
def Nr (o : Option Int) : Prop := ∀ i, o = some i → -1000000000000 ≤ i ∧ i ≤ 1000000000000
def spNear : Sp := fun vs H Q _ => ∃ (d : Addr) (f n : Int), vs = [.ref d, .int f] ∧ Dc H d n ∧ n ≤ 1000000 ∧ 0 ≤ f ∧ f ≤ 1000 ∧ ∀ (i : Int) (H' : Hp), -f ≤ i → i ≤ f → EW.Kept d H H' → Dc H' d (n + 1) → Q (.int i) H'
def spBoundL : Sp := fun vs H Q _ => ∃ (d : Addr) (f n : Int), vs = [.ref d, .int f] ∧ Dc H d n ∧ n + 3 ≤ 1000000 ∧ 0 ≤ f ∧ f ≤ 1000 ∧ ∀ (o : Option Int) (H' : Hp), Nr o → EW.Kept d H H' → Dc H' d (n + 3) → Q (ob o) H'
def spPair : Sp := fun vs H Q _ => ∃ (d : Addr) (f n : Int), vs = [.ref d, .int f] ∧ Dc H d n ∧ n + 7 ≤ 1000000 ∧ 0 ≤ f ∧ f ≤ 1000 ∧ ∀ (q : Addr) (lo hi : Option Int) (H' : Hp), Nr lo → Nr hi → EW.Kept d H H' → Dc H' d (n + 7) → H' q = some (.tup [ob lo, ob hi]) → Q (.ref q) H'
def spResidue : Sp := fun vs H Q _ => ∃ (d : Addr) (p n : Int), vs = [.ref d, .int p] ∧ Dc H d n ∧ n + 2 ≤ 1000000 ∧ 1 ≤ p ∧ p ≤ 400 ∧ ∀ (o : Option Int) (H' : Hp), (∀ r, o = some r → 0 ≤ r ∧ r < p) → EW.Kept d H H' → Dc H' d (n + 2) → Q (ob o) H'
/-- a drawn span -/
def Sok (p : Int) (s : Rn.Sp3) : Prop := Rn.SpOk p s ∧ Nr s.lo ∧ Nr s.hi
def spSpanL : Sp := fun vs H Q _ => ∃ (d : Addr) (p f n : Int), vs = [.ref d, .int p, .int f] ∧ Dc H d n ∧ n + 9 ≤ 1000000 ∧ 1 ≤ p ∧ p ≤ 400 ∧ 0 ≤ f ∧ f ≤ 1000 ∧ ∀ (q : Addr) (s : Rn.Sp3) (H' : Hp), Sok p s → EW.Kept d H H' → Dc H' d (n + 9) → H' q = some (.tup [ob s.res, ob s.lo, ob s.hi]) → Q (.ref q) H'
def spPeriodL : Sp := fun vs H Q _ => ∃ (d : Addr) (n : Int), vs = [.ref d] ∧ Dc H d n ∧ n + 1 ≤ 1000000 ∧ ∀ (p : Int) (H' : Hp), 1 ≤ p → p ≤ 12 → EW.Kept d H H' → Dc H' d (n + 1) → Q (.int p) H'
def spSpansL (K : W.Frag) : Sp := fun vs H Q _ => ∃ (d : Addr) (p m n : Int), vs = [.ref d, .int p, .int m] ∧ Dc H d n ∧ n + 100 ≤ 1000000 ∧ 1 ≤ p ∧ p ≤ 400 ∧ 0 ≤ m ∧ m ≤ 10 ∧
  ∀ (l : Addr) (xs : List V) (ss : List Rn.Sp3) (H' : Hp), H l = none → (∀ s ∈ ss, Sok p s) → (ss.length : Int) ≤ m → EW.Kept d H H' → Dc H' d (n + 100) → H' l = some (.lst xs) → Sns K H' xs ss → Q (.ref l) H'
section
variable {P : Program} {w : World} {K : W.Frag} {mg : Str → Option Value} {base : Heap}
theorem ok_near {fd : FuncData} (F : FnP K "_law_near" sNear fd) (D_law_roll : Df P w K mg base 1 "_law_roll" ["_law_dice_here", "_law_many"] spRoll) : FnOk P w K mg base CX0 2 (He.ga K "_law_near") fd ["_law_dice_here", "_law_far"] spNear := by
  refine F.ok Near (fun vs H Q E h => ?_) (fun cdv A outer s H vs Q E hr h => ?_)
  · obtain ⟨d, f, n, rfl, _⟩ := h
    rfl
  · obtain ⟨d, f, n, rfl, D, hn, f0, f1, k⟩ := h
    refine ⟨_, PSs.nox (pss_one (ps_ret (pe_op op_sub (pe_df D_law_roll (hr.mono (by decide)) rfl (pa_cons (pv 0) (pa_cons (pe_op op_add (pe_op op_mul pe_int (pv 1)) pe_int) pa_nil))) (pv 1)))), ?_⟩
    refine ⟨_, rfl, _, rfl, _, _, rfl, rfl, .inl ⟨by decide, by decide⟩, _, _, rfl, rfl, d, _, n, rfl, D, hn, by omega, by omega, fun r H1 r0 r1 k1 D1 => ?_⟩
    exact ⟨_, rfl, _, _, rfl, rfl, k _ H1 (by omega) (by omega) k1 D1⟩
theorem ok_boundL {fd : FuncData} (F : FnP K "_law_bound" sBound fd) (D_law_roll : Df P w K mg base 1 "_law_roll" ["_law_dice_here", "_law_many"] spRoll) (D_law_near : Df P w K mg base 2 "_law_near" ["_law_dice_here", "_law_far"] spNear) (D_law_pick : Df P w K mg base 2 "_law_pick" ["_law_dice_here", "_law_items"] (spPick K)) :
    FnOk P w K mg base CX0 3 (He.ga K "_law_bound") fd ["_law_dice_here", "_law_far"] spBoundL := by
  refine F.ok Bound (fun vs H Q E h => ?_) (fun cdv A outer s H vs Q E hr h => ?_)
  · obtain ⟨d, f, n, rfl, _⟩ := h
    rfl
  · obtain ⟨d, f, n, rfl, D, hn, f0, f1, k⟩ := h
    refine ⟨_, PSs.nox (pss_cons (ps_set (i := 2) Bound.nd rfl (Or.inl rfl) (pe_df D_law_roll (hr.mono (by decide)) rfl (pa_cons (pv 0) (pa_cons pe_int pa_nil))))
      (pss_cons (ps_if (pt_cmpR op_lt (pv 2) pe_int (nomark _)) (pss_one (ps_ret pe_non)) pss_nil)
      (pss_cons (ps_if (pt_cmpR op_lt (pv 2) pe_int (nomark _)) (pss_one (ps_ret (pe_df D_law_near (hr.mono (by decide)) rfl (pa_cons (pv 0) (pa_cons (pv 1) pa_nil))))) pss_nil)
      (pss_one (ps_ret (pe_op op_mul (pe_df D_law_pick (hr.mono (by decide)) rfl (pa_cons (pv 0) (pa_cons (pe_lstS (pa_cons pe_int (pa_cons (pe_un un_neg pe_int) pa_nil))) pa_nil))) (pe_op op_add (pe_op op_pow pe_int pe_int) (pe_df D_law_roll (hr.mono (by decide)) rfl (pa_cons (pv 0) (pa_cons pe_int pa_nil)))))))))), ?_⟩
    refine ⟨_, rfl, d, 12, n, rfl, D, by omega, by decide, by decide, fun r H1 r0 r1 k1 D1 => ?_⟩
    refine ⟨_, rfl, _, _, rfl, rfl, _, rfl, ite2 (fun _ => ?_) fun _ => ?_⟩
    · exact k none H1 (fun i e => by cases e) k1 (D1.mono (by omega))
    · refine ⟨_, rfl, _, _, rfl, rfl, _, rfl, ite2 (fun _ => ?_) fun _ => ?_⟩
      · refine ⟨_, rfl, _, rfl, d, f, _, rfl, D1, by omega, f0, f1, fun i H2 i0 i1 k2 D2 => ?_⟩
        exact k (some i) H2 (fun j e => by cases e; omega) (k1.trans k2) (D2.mono (by omega))
      · refine ⟨_, rfl, _, rfl, (by show 2 ≤ sizeLine; decide), fun q H2 n2 s2 e2 => ?_⟩
        refine ⟨d, q, _, _, rfl, D1.same s2, by omega, .inl ⟨SqL.of e2, D1.nn n2⟩, by decide, by decide, fun v H3 hv k3 D3 => ?_⟩
        refine ⟨_, _, rfl, rfl, ⟨by decide, by decide, by decide⟩, _, rfl, d, 1000, _, rfl, D3, by omega, by decide, by decide, fun r2 H4 r20 r21 k4 D4 => ?_⟩
        refine ⟨_, _, rfl, rfl, ?_⟩
        have e11 : (10 : Int) ^ (11 : Int).toNat = 100000000000 := by decide +kernel
        have kk := k1.trans ((kept_of s2).trans (k3.trans k4))
        simp only [List.mem_cons, List.not_mem_nil, or_false] at hv
        rcases hv with rfl | rfl
        · refine ⟨_, _, rfl, rfl, .inl ⟨by decide, by decide⟩, k (some _) H4 (fun j e => ?_) kk (D4.mono (by omega))⟩
          injection e with e
          omega
        · refine ⟨_, _, rfl, rfl, .inl ⟨by decide, by decide⟩, k (some _) H4 (fun j e => ?_) kk (D4.mono (by omega))⟩
          injection e with e
          omega
end
end TM
end

section
set_option maxHeartbeats 4000000
namespace TM
open PySem PySem.Spec PyProof.Rows L2 EW
section
variable {P : Program} {w : World} {K : W.Frag} {mg : Str → Option Value} {base : Heap}
theorem ok_pair {fd : FuncData} (F : FnP K "_law_pair" sPair fd) (D_law_roll : Df P w K mg base 1 "_law_roll" ["_law_dice_here", "_law_many"] spRoll) (D_law_bound : Df P w K mg base 3 "_law_bound" ["_law_dice_here", "_law_far"] spBoundL) :
    FnOk P w K mg base CX0 4 (He.ga K "_law_pair") fd ["_law_dice_here", "_law_far"] spPair := by
  refine F.ok Pair (fun vs H Q E h => ?_) (fun cdv A outer s H vs Q E hr h => ?_)
  · obtain ⟨d, f, n, rfl, _⟩ := h
    rfl
  · obtain ⟨d, f, n, rfl, D, hn, f0, f1, k⟩ := h
    refine ⟨_, PSs.nox (pss_cons (ps_par (i := 2) (j := 3) (by rfl) Pair.nd rfl rfl (by decide) rfl rfl (pa_cons (pe_df D_law_bound (hr.mono (by decide)) rfl (pa_cons (pv 0) (pa_cons (pv 1) pa_nil))) (pa_cons (pe_df D_law_bound (hr.mono (by decide)) rfl (pa_cons (pv 0) (pa_cons (pv 1) pa_nil))) pa_nil)) (by rfl))
      (pss_cons (ps_if (PW.pt (pw_and (pt_cmp (pc_notN (pv 2))) (pw_and (pt_cmp (pc_notN (pv 3))) (pw_and (pt_cmpR op_gt (pv 2) (pv 3) (nomark _)) (pw_and1 (pt_cmpR op_gt (pe_df D_law_roll (hr.mono (by decide)) rfl (pa_cons (pv 0) (pa_cons pe_int pa_nil))) pe_int (nomark _))))))) (pss_one (ps_ret (pe_tupS (pa_cons (pv 3) (pa_cons (pv 2) pa_nil))))) pss_nil)
      (pss_one (ps_ret (pe_tupS (pa_cons (pv 2) (pa_cons (pv 3) pa_nil))))))), ?_⟩
    refine ⟨_, rfl, _, rfl, d, f, n, rfl, D, by omega, f0, f1, fun a H1 ra k1 D1 => ?_⟩
    refine ⟨_, rfl, _, rfl, d, f, _, rfl, D1, by omega, f0, f1, fun b H2 rb k2 D2 => ?_⟩
    refine ⟨_, _, rfl, ?_⟩
    have fin : ∀ (lo hi : Option Int) (H3 : Hp), Nr lo → Nr hi → EW.Kept d H2 H3 → Dc H3 d (n + 7) → New H3 (fun _ => .tup [ob lo, ob hi]) Q := fun lo hi H3 rl rh k3 D3 q H4 n4 s4 e4 =>
      k q lo hi H4 rl rh (k1.trans (k2.trans (k3.trans (kept_of s4)))) (D3.same s4) e4
    cases a with
    | none => exact ⟨_, rfl, _, rfl, iteF (iteF ⟨_, rfl, _, rfl, (by show 2 ≤ sizeLine; decide), fin none b H2 ra rb (EW.Kept.refl _ _) (D2.mono (by omega))⟩)⟩
    | some u =>
      cases b with
      | none => exact ⟨_, rfl, _, rfl, iteT ⟨_, rfl, _, rfl, iteF (iteF ⟨_, rfl, _, rfl, (by show 2 ≤ sizeLine; decide), fin (some u) none H2 ra rb (EW.Kept.refl _ _) (D2.mono (by omega))⟩)⟩⟩
      | some v =>
        refine ⟨_, rfl, _, rfl, iteT ⟨_, rfl, _, rfl, iteT ⟨_, rfl, _, rfl, _, _, rfl, rfl, _, rfl, ?_⟩⟩⟩
        by_cases c : u > v
        · refine iteB (decide_eq_true c) ?_
          refine ⟨_, rfl, d, 5, _, rfl, D2, by omega, by decide, by decide, fun r H3 r0 r1 k3 D3 => ?_⟩
          refine ⟨_, _, rfl, rfl, _, rfl, ite2 (fun _ => ?_) fun _ => ?_⟩
          · exact ⟨_, rfl, _, rfl, (by show 2 ≤ sizeLine; decide), fin (some v) (some u) H3 rb ra k3 (D3.mono (by omega))⟩
          · exact ⟨_, rfl, _, rfl, (by show 2 ≤ sizeLine; decide), fin (some u) (some v) H3 ra rb k3 (D3.mono (by omega))⟩
        · refine iteC (decide_eq_false c) (iteF ?_)
          exact ⟨_, rfl, _, rfl, (by show 2 ≤ sizeLine; decide), fin (some u) (some v) H2 ra rb (EW.Kept.refl _ _) (D2.mono (by omega))⟩
theorem ok_residue {fd : FuncData} (F : FnP K "_law_residue" sResidue fd) (D_law_roll : Df P w K mg base 1 "_law_roll" ["_law_dice_here", "_law_many"] spRoll) : FnOk P w K mg base CX0 2 (He.ga K "_law_residue") fd ["_law_dice_here", "_law_period"] spResidue := by
  refine F.ok Residue (fun vs H Q E h => ?_) (fun cdv A outer s H vs Q E hr h => ?_)
  · obtain ⟨d, p, n, rfl, _⟩ := h
    rfl
  · obtain ⟨d, p, n, rfl, D, hn, p1, p2, k⟩ := h
    refine ⟨_, PSs.nox (pss_one (ps_ret (pe_ifExp (pt_cmpR op_eq (pe_df D_law_roll (hr.mono (by decide)) rfl (pa_cons (pv 0) (pa_cons pe_int pa_nil))) pe_int (nomark _)) (pe_df D_law_roll (hr.mono (by decide)) rfl (pa_cons (pv 0) (pa_cons (pv 1) pa_nil))) pe_non))), ?_⟩
    refine ⟨_, rfl, d, 2, n, rfl, D, by omega, by decide, by decide, fun r H1 r0 r1 k1 D1 => ?_⟩
    refine ⟨rfl, _, rfl, ite2 (fun _ => ?_) fun _ => ?_⟩
    · refine ⟨_, rfl, _, rfl, d, p, _, rfl, D1, by omega, by omega, by omega, fun r2 H2 r20 r21 k2 D2 => ?_⟩
      exact k (some r2) H2 (fun q e => by cases e; exact ⟨r20, r21⟩) (k1.trans k2) (D2.mono (by omega))
    · exact k none H1 (fun q e => by cases e) k1 (D1.mono (by omega))
theorem ok_spanL {fd : FuncData} (F : FnP K "_law_span" sSpan fd) (D_law_residue : Df P w K mg base 2 "_law_residue" ["_law_dice_here", "_law_period"] spResidue) (D_law_pair : Df P w K mg base 4 "_law_pair" ["_law_dice_here", "_law_far"] spPair) :
    FnOk P w K mg base CX0 5 (He.ga K "_law_span") fd ["_law_dice_here", "_law_period", "_law_far"] spSpanL := by
  refine F.ok Span (fun vs H Q E h => ?_) (fun cdv A outer s H vs Q E hr h => ?_)
  · obtain ⟨d, p, f, n, rfl, _⟩ := h
    rfl
  · obtain ⟨d, p, f, n, rfl, D, hn, p1, p2, f0, f1, k⟩ := h
    refine ⟨_, PSs.nox (pss_cons (ps_set (i := 3) Span.nd rfl (Or.inl rfl) (pe_df D_law_residue (hr.mono (by decide)) rfl (pa_cons (pv 0) (pa_cons (pv 1) pa_nil))))
      (pss_one (ps_ret (pe_op (op_catTS K rfl) (pe_tupS (pa_cons (pv 3) pa_nil)) (pe_df D_law_pair (hr.mono (by decide)) rfl (pa_cons (pv 0) (pa_cons (pv 2) pa_nil))))))), ?_⟩
    refine ⟨_, rfl, _, rfl, d, p, n, rfl, D, by omega, p1, p2, fun o H1 ho k1 D1 => ?_⟩
    refine ⟨_, rfl, (by show 1 ≤ sizeLine; decide), fun q1 H2 n2 s2 e2 => ?_⟩
    refine ⟨_, rfl, _, rfl, d, f, _, rfl, D1.same s2, by omega, f0, f1, fun q3 lo hi H3 rl rh k3 D3 e3 => ?_⟩
    have nq : q1 ≠ d := D1.nn n2
    refine ⟨q1, q3, _, _, rfl, rfl, SqT.of (k3 _ _ nq e2), SqT.of e3, List.cons_ne_nil _ _, List.cons_ne_nil _ _, (by show 3 ≤ sizeLine; decide), fun q4 H4 n4 s4 e4 => ?_⟩
    exact k q4 ⟨o, lo, hi⟩ H4 ⟨ho, rl, rh⟩ (k1.trans ((kept_of s2).trans (k3.trans (kept_of s4)))) ((D3.same s4).mono (by omega)) e4
end
end TM
end

section
set_option maxHeartbeats 4000000
namespace TM
open PySem PySem.Spec PyProof.Rows L2 EW
abbrev NMixed : List Str := ["_law_dice_here", "_law_items", "_law_left", "_law_found"]
theorem Mixed : FnScope NMixed ["_law_dice_here", "_law_items"] (defScope sMixed) := ⟨rfl, rfl, rfl, by decide +kernel, rfl, by decide +kernel, by decide +kernel⟩
def spMixed (K : W.Frag) : Sp := fun vs H Q _ => ∃ (d l : Addr) (xs : List Str) (n : Int), vs = [.ref d, .ref l] ∧ Dc H d n ∧ n + xs.length ≤ 1000000 ∧ SqL K H l (xs.map V.str) ∧ xs.length ≤ 20 ∧ (∀ x ∈ xs, NameOk x) ∧
  ∀ (p : Addr) (ys : List Str) (H' : Hp), ys.Perm xs → H p = none → EW.Kept d H H' → Dc H' d (n + xs.length) → H' p = some (.lst (ys.map V.str)) → Q (.ref p) H'
section
variable {P : Program} {w : World} {K : W.Frag} {mg : Str → Option Value} {base : Heap}
theorem strs_shaped (l : List Str) (h : ∀ x ∈ l, NameOk x) : SeqAt.shaped (.list (l.map PyData.str)) = true := by
  simp [SeqAt.shaped, PyData.canLay0, strs_lay l h, PyData.depth, strs_depth]
theorem er_map {α β : Type} (f : α → β) : ∀ (l : List α) (j : Nat), (l.map f).eraseIdx j = (l.eraseIdx j).map f
  | [], j => by cases j <;> rfl
  | _ :: _, 0 => rfl
  | x :: r, j + 1 => by
    show f x :: (r.map f).eraseIdx j = f x :: (r.eraseIdx j).map f
    rw [er_map f r j]
theorem er_perm {α : Type} : ∀ (l : List α) (j : Nat) (h : j < l.length), (l[j] :: l.eraseIdx j).Perm l
  | _ :: _, 0, _ => List.Perm.refl _
  | x :: r, j + 1, h => by
    have h' : j < r.length := Nat.lt_of_succ_lt_succ h
    show (r[j] :: x :: r.eraseIdx j).Perm (x :: r)
    exact (List.Perm.swap x r[j] _).trans ((er_perm r j h').cons x)
theorem ok_mixed {fd : FuncData} (F : FnP K "_law_mixed" sMixed fd) (T : Fre mg) (D_law_roll : Df P w K mg base 1 "_law_roll" ["_law_dice_here", "_law_many"] spRoll) : FnOk P w K mg base CX0 2 (He.ga K "_law_mixed") fd ["_law_dice_here", "_law_items"] (spMixed K) := by
  refine F.ok Mixed (fun vs H Q E h => ?_) (fun cdv A outer s H vs Q E hr h => ?_)
  · obtain ⟨d, l, xs, n, rfl, _⟩ := h
    rfl
  · obtain ⟨d, l, xs, n, rfl, D, hn, hS, hl, hN, k⟩ := h
    have hbig : (64 : Nat) ≤ sizeLine := by decide
    refine ⟨_, PSs.nox (pss_cons (ps_cut (ps_par (i := 2) (j := 3) (by rfl) Mixed.nd rfl rfl (by decide) rfl rfl (pa_cons (pe_callTy (call_listS K rfl) (by rfl) T.list EW.boot_list (pa_cons (pv 1) pa_nil)) (pa_cons (pe_lstS pa_nil) pa_nil)) (by rfl)))
      (pss_cons (ps_while PassesOwn.never (pt_cmpR (op_neDK K rfl hr.units) (pv 2) (pe_lstS pa_nil) (nomark _)) (pss_one (ps_expr (pe_bm PySem.F.plainAttrs_list PySem.F.slot_list_append PySem.F.type_list_append mt_append (pv 3) (pa_cons (pe_bm PySem.F.plainAttrs_list PySem.F.slot_list_pop PySem.F.type_list_pop mt_popAt (pv 2) (pa_cons (pe_df D_law_roll (hr.mono (by decide)) rfl (pa_cons (pv 0) (pa_cons (pe_callB (call_lenK K rfl) (by rfl) T.len PySem.boot_len (pa_cons (pv 2) pa_nil)) pa_nil))) pa_nil)) pa_nil)))))
      (pss_one (ps_ret (pv 3))))), ?_⟩
    refine ⟨fun σ' H' => ∃ L Fd : Addr, σ' = [some (.ref d), some (.ref l), some (.ref L), some (.ref Fd)] ∧ H L = none ∧ H Fd = none ∧ L ≠ Fd ∧ Same H H' ∧ H' L = some (.lst (xs.map V.str)) ∧ H' Fd = some (.lst []), ?_, ?_⟩
    · refine ⟨_, rfl, l, _, rfl, .inl hS, fun L H1 n1 s1 e1 => ?_⟩
      refine ⟨by decide, fun Fd H2 n2 s2 e2 => nil_ ⟨_, _, rfl, L, Fd, rfl, n1, ?_, fun z => ?_, s1.trans s2, s2 _ _ e1, e2⟩⟩
      · cases q : H Fd with
        | none => rfl
        | some o =>
          rw [s1 _ _ q] at n2
          cases n2
      · rw [← z, e1] at n2
        cases n2
    · rintro σ' H1 ⟨L, Fd, rfl, nL, nF, ne, s1, eL, eF⟩
      have Ld : L ≠ d := fun z => by
        obtain ⟨g, b, c, h1, _⟩ := D
        rw [z, h1] at nL
        cases nL
      have Fdd : Fd ≠ d := fun z => by
        obtain ⟨g, b, c, h1, _⟩ := D
        rw [z, h1] at nF
        cases nF
      refine ⟨fun m σ' H' => ∃ us vs : List Str, m = us.length ∧ σ' = [some (.ref d), some (.ref l), some (.ref L), some (.ref Fd)] ∧ H' L = some (.lst (us.map V.str)) ∧ H' Fd = some (.lst (vs.map V.str)) ∧ (vs ++ us).Perm xs ∧ EW.Kept d H H' ∧ Dc H' d (n + vs.length), ⟨_, xs, [], rfl, rfl, eL, eF, List.Perm.refl _, kept_of s1, (D.same s1).mono (by simp)⟩, ?_⟩
      rintro m σ' H2 ⟨us, vs, rfl, rfl, eL2, eF2, pe, k2, D2⟩
      have hlen : vs.length + us.length = xs.length := by
        rw [← List.length_append]
        exact pe.length_eq
      have hNu : ∀ x ∈ us, NameOk x := fun x hx => hN x (pe.mem_iff.mp (List.mem_append_right _ hx))
      refine ⟨_, rfl, by decide, fun q H3 n3 s3 e3 => ?_⟩
      refine neNil (.lst (SqL.of (s3 _ _ eL2)) (strs_dp us)) (strs_shaped us hNu) (.lst (SqL.of e3) .nil) ⟨_, rfl, ?_⟩
      have k3 : EW.Kept d H H3 := k2.trans (kept_of s3)
      have D3 := D2.same s3
      have eL3 := s3 _ _ eL2
      have eF3 := s3 _ _ eF2
      cases us with
      | nil =>
        refine iteN rfl ⟨_, rfl, k Fd vs H3 (by rw [List.append_nil] at pe; exact pe) nF k3 (D3.mono ?_) eF3⟩
        simp at hlen
        omega
      | cons u0 us0 =>
        refine iteD rfl ⟨fun σ' H' => ∃ us vs : List Str, us.length < (u0 :: us0).length ∧ σ' = [some (.ref d), some (.ref l), some (.ref L), some (.ref Fd)] ∧ H' L = some (.lst (us.map V.str)) ∧ H' Fd = some (.lst (vs.map V.str)) ∧ (vs ++ us).Perm xs ∧ EW.Kept d H H' ∧ Dc H' d (n + vs.length), fun σ' H' ⟨us, vs, lt, r⟩ => ⟨us.length, lt, us, vs, rfl, r⟩, ?_⟩
        generalize hus : u0 :: us0 = us at *
        have hpos : 0 < us.length := by
          rw [← hus]
          simp
        refine ⟨_, rfl, .inl ⟨rfl, _, SqL.of eF3⟩, _, rfl, .inl ⟨rfl, _, SqL.of eL3⟩, ?_⟩
        refine ⟨_, rfl, _, rfl, _, _, rfl, .inl ⟨_, SqL.of eL3, rfl⟩, nil_ ?_⟩
        refine ⟨d, _, _, rfl, D3, by omega, by rw [List.length_map]; omega, by rw [List.length_map]; omega, fun r H4 r0 r1 k4 D4 => nil_ ?_⟩
        rw [List.length_map] at r1
        obtain ⟨j, rfl⟩ : ∃ j : Nat, r = (j : Int) := ⟨r.toNat, by omega⟩
        have hj : j < us.length := by omega
        have eL4 := k4 _ _ Ld eL3
        have eF4 := k4 _ _ Fdd eF3
        have hy : (us.map V.str)[j]? = some (.str us[j]) := by
          rw [List.getElem?_map, List.getElem?_eq_getElem hj]
          rfl
        refine ⟨L, _, _, j, _, rfl, rfl, eL4, by omega, by omega, by rw [List.length_map]; exact seqIx hj, hy, nil_ ?_⟩
        have eF5 : upd H4 L (.lst ((us.map V.str).eraseIdx j)) Fd = some (.lst (vs.map V.str)) := by
          rw [upd_ne (Ne.symm ne)]
          exact eF4
        refine ⟨Fd, _, _, rfl, rfl, eF5, by rw [List.length_map]; omega, ?_⟩
        refine ⟨us.eraseIdx j, vs ++ [us[j]], by rw [List.length_eraseIdx_of_lt hj]; omega, rfl, ?_, by rw [upd_same, List.map_append]; rfl, ?_, ?_, ?_⟩
        · rw [upd_ne ne, upd_same, er_map]
        · refine List.Perm.trans ?_ pe
          rw [List.append_assoc]
          refine List.Perm.append_left vs ?_
          exact er_perm us j hj
        · intro b o nb hb
          have h4 := k4 b o nb (k3 b o nb hb)
          rw [upd_ne (fun z => by rw [z, nF] at hb; cases hb), upd_ne (fun z => by rw [z, nL] at hb; cases hb)]
          exact h4
        · obtain ⟨g, b, c, h1, r⟩ := D4
          refine Dc.mono ⟨g, b, c, ?_, r⟩ (by rw [List.length_append]; show _ ≤ n + ((vs.length + 1 : Nat) : Int); omega)
          rw [upd_ne (Ne.symm Fdd), upd_ne (Ne.symm Ld)]
          exact h1
end
end TM
end

section
set_option maxHeartbeats 4000000
namespace TM
open PySem PySem.Spec PyProof.Rows L2 EW
abbrev NTimesOf : List Str := ["_law_shape_here", "_law_name"]
theorem TimesOf : FnScope NTimesOf ["_law_shape_here"] (defScope sTimesOf) := ⟨rfl, rfl, rfl, by decide +kernel, rfl, by decide +kernel, by decide +kernel⟩
abbrev NDomsOf : List Str := ["_law_shape_here", "_law_name"]
theorem DomsOf : FnScope NDomsOf ["_law_shape_here"] (defScope sDomsOf) := ⟨rfl, rfl, rfl, by decide +kernel, rfl, by decide +kernel, by decide +kernel⟩
section
variable {P : Program} {w : World} {K : W.Frag} {mg : Str → Option Value} {base : Heap}
theorem ok_timesOf {fd : FuncData} (F : FnP K "_law_times_of" sTimesOf fd) (T : Fre mg) : FnOk P w K mg base CX0 1 (He.ga K "_law_times_of") fd ["_law_shape_here"] (spNames K tms) := by
  refine F.ok TimesOf (fun vs H Q E h => ?_) (fun cdv A outer s H vs Q E hr h => ?_)
  · obtain ⟨v, S, rfl, _⟩ := h
    rfl
  · obtain ⟨v, S, rfl, ⟨d, kvs, rfl, hd, en⟩, so, k⟩ := h
    have hbig : (64 : Nat) ≤ sizeLine := by decide
    refine ⟨_, PSs.nox (pss_one (ps_ret (pe_callB (cr_sortedS (X := _)) (by rfl) T.sorted EW.boot_sorted (pa_cons (pe_lock (pe_lc (own := [("_law_name", 1)]) (g := gName 1) (tt := _) (by rfl) TimesOf.nd (pi_keys (pv 0)) (blkOk_by (own := [("_law_name", 1)]) (N := NTimesOf) (sc := defScope sTimesOf) (by decide +kernel)) (fun _ _ _ _ _ => (pg_name (i := 1) TimesOf.nd rfl (Or.inl rfl))) (fun _ _ _ _ _ => (pts_one (pt_cmpR (op_eqDK K rfl hr.units) (pe_dget hr.u1 (pv 0) (pv 1) (fun _ _ => rfl)) pe_str (nomark _)))) (fun _ _ _ _ _ => (pe_callTy SkE.call_str_str (by rfl) T.str EW.boot_str (pa_cons (pv 1) pa_nil))))) pa_nil)))), ?_⟩
    refine ⟨d, _, hd, True.intro, fun od => ?_⟩
    refine ⟨_, rfl, d, od, rfl, .inl ⟨kvs, upd_same, fun D hD => ?_⟩⟩
    have en2 := en.lock (o := od) hd
    have hlen := Paired.length en
    refine loop_keys (fun i H' => H' D = some (.lst ((((S.take i).filter fun q => q.2.isT).map (·.1)).map V.str)) ∧ Same (upd H d (.frz od (.dK kvs))) H') ⟨upd_same, upd_new hD⟩ ?_ ?_ ?_
    · rintro i H' _ ⟨_, s1⟩
      exact s1 _ _ upd_same
    · rintro i kk v H1 hkv ⟨eD, s1⟩
      obtain ⟨z, kd, hz, rfl, _⟩ := ent_at en2 hkv
      have hi : i < S.length := (List.getElem?_eq_some_iff.mp hz).1
      have et : S.take (i + 1) = S.take i ++ [(z, kd)] := by
        rw [List.take_add_one, hz]
        rfl
      have hm : (z, kd) ∈ S := List.mem_of_getElem? hz
      obtain ⟨x, hx, kx⟩ := ent_val (en2.same s1) so.nd hm
      refine ⟨rfl, ?_⟩
      refine ⟨_, rfl, _, rfl, d, x, rfl, .inl ⟨kvs, Sum.inr z, .inr ⟨od, s1 _ _ upd_same⟩, rfl, hx.symm⟩, ?_⟩
      refine ⟨kdD kd, .str "time", kd_dp kx, .str _, kd_shaped kd (so.dom _ hm), by decide +kernel, _, rfl, ?_⟩
      have hl : (((S.take i).filter fun q => q.2.isT).map (·.1)).length < 64 := by
        have := so.all
        have h2 := List.length_filter_le (fun q : Str × Kd => q.2.isT) (S.take i)
        rw [List.length_map]
        rw [List.length_take] at h2
        omega
      rw [kd_eqv]
      cases h : kd.isT with
      | true =>
        refine iteT ⟨_, rfl, _, rfl, ?_⟩
        refine ⟨_, eD, by rw [List.length_map]; omega, ?_, same_upd s1 hD⟩
        rw [upd_same, et, List.filter_append, List.map_append, List.map_append, List.filter_cons_of_pos (by simp [h])]
        rfl
      | false =>
        refine iteF ⟨?_, s1⟩
        rw [et, List.filter_append, List.filter_cons_of_neg (by simp [h]), List.filter_nil, List.append_nil]
        exact eD
    · rintro H1 ⟨eD, s1⟩
      refine ⟨s1 _ _ upd_same, ?_⟩
      have nD : D ≠ d := fun z => by
        rw [z, upd_same] at hD
        cases hD
      have e1 : S.take kvs.length = S := by rw [hlen, List.take_length]
      rw [e1] at eD
      have hl : (((S.filter fun q => q.2.isT).map (·.1))).length < 64 := by
        have := so.all
        have h2 := List.length_filter_le (fun q : Str × Kd => q.2.isT) S
        rw [List.length_map]
        omega
      refine ⟨D, _, rfl, SqL.of (by rw [upd_ne nD]; exact eD), hl, fun ys p pe so' hp => ?_⟩
      have ey := srt_eq pe so'
      refine k p _ (same_upd (same_lock hd s1) ?_) ?_
      · cases q : H p with
        | none => rfl
        | some o =>
          have := same_lock hd s1 _ _ q
          rw [hp] at this
          cases this
      · rw [upd_same, ey]
        rfl
theorem ok_domsOf {fd : FuncData} (F : FnP K "_law_domains_of" sDomsOf fd) (T : Fre mg) : FnOk P w K mg base CX0 1 (He.ga K "_law_domains_of") fd ["_law_shape_here"] (spNames K dms) := by
  refine F.ok DomsOf (fun vs H Q E h => ?_) (fun cdv A outer s H vs Q E hr h => ?_)
  · obtain ⟨v, S, rfl, _⟩ := h
    rfl
  · obtain ⟨v, S, rfl, ⟨d, kvs, rfl, hd, en⟩, so, k⟩ := h
    have hbig : (64 : Nat) ≤ sizeLine := by decide
    refine ⟨_, PSs.nox (pss_one (ps_ret (pe_callB (cr_sortedS (X := _)) (by rfl) T.sorted EW.boot_sorted (pa_cons (pe_lock (pe_lc (own := [("_law_name", 1)]) (g := gName 1) (tt := _) (by rfl) DomsOf.nd (pi_keys (pv 0)) (blkOk_by (own := [("_law_name", 1)]) (N := NDomsOf) (sc := defScope sDomsOf) (by decide +kernel)) (fun _ _ _ _ _ => (pg_name (i := 1) DomsOf.nd rfl (Or.inl rfl))) (fun _ _ _ _ _ => (pts_one (pt_cmpR (op_neDK K rfl hr.units) (pe_dget hr.u1 (pv 0) (pv 1) (fun _ _ => rfl)) pe_str (nomark _)))) (fun _ _ _ _ _ => (pe_callTy SkE.call_str_str (by rfl) T.str EW.boot_str (pa_cons (pv 1) pa_nil))))) pa_nil)))), ?_⟩
    refine ⟨d, _, hd, True.intro, fun od => ?_⟩
    refine ⟨_, rfl, d, od, rfl, .inl ⟨kvs, upd_same, fun D hD => ?_⟩⟩
    have en2 := en.lock (o := od) hd
    have hlen := Paired.length en
    refine loop_keys (fun i H' => H' D = some (.lst ((((S.take i).filter fun q => !q.2.isT).map (·.1)).map V.str)) ∧ Same (upd H d (.frz od (.dK kvs))) H') ⟨upd_same, upd_new hD⟩ ?_ ?_ ?_
    · rintro i H' _ ⟨_, s1⟩
      exact s1 _ _ upd_same
    · rintro i kk v H1 hkv ⟨eD, s1⟩
      obtain ⟨z, kd, hz, rfl, _⟩ := ent_at en2 hkv
      have hi : i < S.length := (List.getElem?_eq_some_iff.mp hz).1
      have et : S.take (i + 1) = S.take i ++ [(z, kd)] := by
        rw [List.take_add_one, hz]
        rfl
      have hm : (z, kd) ∈ S := List.mem_of_getElem? hz
      obtain ⟨x, hx, kx⟩ := ent_val (en2.same s1) so.nd hm
      refine ⟨rfl, ?_⟩
      refine ⟨_, rfl, _, rfl, d, x, rfl, .inl ⟨kvs, Sum.inr z, .inr ⟨od, s1 _ _ upd_same⟩, rfl, hx.symm⟩, ?_⟩
      refine ⟨kdD kd, .str "time", kd_dp kx, .str _, kd_shaped kd (so.dom _ hm), by decide +kernel, _, rfl, ?_⟩
      have hl : (((S.take i).filter fun q => !q.2.isT).map (·.1)).length < 64 := by
        have := so.all
        have h2 := List.length_filter_le (fun q : Str × Kd => !q.2.isT) (S.take i)
        rw [List.length_map]
        rw [List.length_take] at h2
        omega
      rw [kd_eqv]
      cases h : kd.isT with
      | false =>
        refine iteT ⟨_, rfl, _, rfl, ?_⟩
        refine ⟨_, eD, by rw [List.length_map]; omega, ?_, same_upd s1 hD⟩
        rw [upd_same, et, List.filter_append, List.map_append, List.map_append, List.filter_cons_of_pos (by simp [h])]
        rfl
      | true =>
        refine iteF ⟨?_, s1⟩
        rw [et, List.filter_append, List.filter_cons_of_neg (by simp [h]), List.filter_nil, List.append_nil]
        exact eD
    · rintro H1 ⟨eD, s1⟩
      refine ⟨s1 _ _ upd_same, ?_⟩
      have nD : D ≠ d := fun z => by
        rw [z, upd_same] at hD
        cases hD
      have e1 : S.take kvs.length = S := by rw [hlen, List.take_length]
      rw [e1] at eD
      have hl : (((S.filter fun q => !q.2.isT).map (·.1))).length < 64 := by
        have := so.all
        have h2 := List.length_filter_le (fun q : Str × Kd => !q.2.isT) S
        rw [List.length_map]
        omega
      refine ⟨D, _, rfl, SqL.of (by rw [upd_ne nD]; exact eD), hl, fun ys p pe so' hp => ?_⟩
      have ey := srt_eq pe so'
      refine k p _ (same_upd (same_lock hd s1) ?_) ?_
      · cases q : H p with
        | none => rfl
        | some o =>
          have := same_lock hd s1 _ _ q
          rw [hp] at this
          cases this
      · rw [upd_same, ey]
        rfl
end
end TM
end

section
set_option maxHeartbeats 4000000
namespace TM
open PySem PySem.Spec PyProof.Rows L2 EW
abbrev NShape : List Str := ["_law_dice_here", "_law_most", "_law_names", "_law_times", "_law_domains", "_law_found", "_law_name"]
theorem Shape : FnScope NShape ["_law_dice_here", "_law_most"] (defScope sShape) := ⟨rfl, rfl, rfl, by decide +kernel, rfl, by decide +kernel, by decide +kernel⟩
def NM : List Str := ["a", "begin", "day", "end", "room", "x", "zz"]
def DOMS : List (List Str) := [["blue", "red"], ["a"], ["b", "begin", "c"]]
theorem nm_ok : ∀ x ∈ NM, NameOk x ∧ x ≠ "now" := by decide +kernel
theorem nm_nodup : NM.Nodup := by decide +kernel
theorem doms_ok : ∀ l ∈ DOMS, DomOk l := by
  have h : ∀ l ∈ DOMS, 1 ≤ l.length ∧ l.length ≤ 8 ∧ (∀ z ∈ l, NameOk z ∧ z ≠ "time") ∧ Rise l := by decide +kernel
  exact fun l hl => ⟨(h l hl).1, (h l hl).2.1, (h l hl).2.2.1, (h l hl).2.2.2⟩
/-- a drawn shape -/
structure Drawn (S : Shp) : Prop where
  ok : ShpOk S
  nm : ∀ q ∈ S, q.1 ∈ NM
  kd : ∀ q ∈ S, ∀ l, q.2 = .dom l → l ∈ DOMS
  two : S.length - (tms S).length ≤ 2
def spShapeL (K : W.Frag) : Sp := fun vs H Q _ => ∃ (d : Addr) (most n : Int), vs = [.ref d, .int most] ∧ Dc H d n ∧ n + 20 ≤ 1000000 ∧ 0 ≤ most ∧ most ≤ 2 ∧
  ∀ (p : Addr) (S : Shp) (H' : Hp), H p = none → ShpAt K H' (.ref p) S → Drawn S → ((tms S).length : Int) ≤ most → EW.Kept d H H' → Dc H' d (n + 20) → Q (.ref p) H'
theorem mergeK_new : ∀ (more acc : List (Key × V)), (∀ q ∈ more, valV acc q.1 = none) → (more.map (·.1)).Nodup → mergeK acc more = acc ++ more
  | [], acc, _, _ => (List.append_nil acc).symm
  | p :: r, acc, h, nd => by
    rw [List.map_cons, List.nodup_cons] at nd
    show mergeK (putK acc p.1 p.2) r = _
    have h0 := h p List.mem_cons_self
    rw [putK_new p.2 h0, mergeK_new r _ (fun q hq => ?_) nd.2, List.append_assoc]
    · rfl
    · rw [valV_snoc p.1 q.1 p.2 acc h0, if_neg (fun e => nd.1 (List.mem_map.mpr ⟨q, hq, e⟩))]
      exact h q (List.mem_cons_of_mem _ hq)
theorem ent_none {K : W.Frag} {H : Hp} {z : Str} : ∀ {kvs : List (Key × V)} {S : Shp}, Ent K H kvs S → z ∉ S.map (·.1) → valV kvs (Sum.inr z : Key) = none
  | _, _, .nil, _ => rfl
  | (key, x) :: kvs, (y, k) :: S, .cons h t, hz => by
    have e : key = Sum.inr y := h.1
    rw [List.map_cons, List.mem_cons, not_or] at hz
    rw [show valV ((key, x) :: kvs) (Sum.inr z : Key) = valV kvs (Sum.inr z) from valV_neg (fun w => by rw [e] at w; cases w; exact hz.1 rfl)]
    exact ent_none t hz.2
theorem ent_times {K : W.Frag} {H : Hp} : ∀ l : List Str, Ent K H (l.map fun x => ((Sum.inr x : Key), V.str "time")) (l.map fun x => (x, Kd.time))
  | [] => .nil
  | x :: r => .cons ⟨rfl, rfl⟩ (ent_times r)
theorem tms_len (S : Shp) : (tms S).length = (S.filter fun q => q.2.isT).length := by
  unfold tms
  rw [(srt_perm _).length_eq, List.length_map]
section
variable {P : Program} {w : World} {K : W.Frag} {mg : Str → Option Value} {base : Heap}
theorem ok_shapeL {fd : FuncData} (F : FnP K "_law_shape" sShape fd) (T : Fre mg) (D_law_mixed : Df P w K mg base 2 "_law_mixed" ["_law_dice_here", "_law_items"] (spMixed K)) (D_law_pick : Df P w K mg base 2 "_law_pick" ["_law_dice_here", "_law_items"] (spPick K)) :
    FnOk P w K mg base CX0 3 (He.ga K "_law_shape") fd ["_law_dice_here", "_law_most"] (spShapeL K) := by
  refine F.ok Shape (fun vs H Q E h => ?_) (fun cdv A outer s H vs Q E hr h => ?_)
  · obtain ⟨d, most, n, rfl, _⟩ := h
    rfl
  · obtain ⟨d, most, n, rfl, D, hn, m0, m2, k⟩ := h
    have hbig : (64 : Nat) ≤ sizeLine := by decide
    refine ⟨_, PSs.nox (pss_cons (ps_cut (ps_set (i := 2) Shape.nd rfl (Or.inl rfl) (pe_df D_law_mixed (hr.mono (by decide)) rfl (pa_cons (pv 0) (pa_cons (pe_lstS (pa_cons pe_str (pa_cons pe_str (pa_cons pe_str (pa_cons pe_str (pa_cons pe_str (pa_cons pe_str (pa_cons pe_str pa_nil)))))))) pa_nil)))))
      (pss_cons (ps_cut (ps_par (i := 3) (j := 4) (by rfl) Shape.nd rfl rfl (by decide) rfl rfl (pa_cons (pe_df D_law_pick (hr.mono (by decide)) rfl (pa_cons (pv 0) (pa_cons (pe_slice (sl_listS K rfl) (pe_lstS (pa_cons pe_int (pa_cons pe_int (pa_cons pe_int (pa_cons pe_int (pa_cons pe_int pa_nil)))))) po_none (po_some (pe_op op_add pe_int (pv 1)))) pa_nil))) (pa_cons (pe_df D_law_pick (hr.mono (by decide)) rfl (pa_cons (pv 0) (pa_cons (pe_lstS (pa_cons pe_int (pa_cons pe_int (pa_cons pe_int (pa_cons pe_int (pa_cons pe_int pa_nil)))))) pa_nil))) pa_nil)) (by rfl)))
      (pss_cons (ps_cut (ps_if (pt_cmpR op_gt (pv 3) (pv 1) (nomark _)) (pss_one (ps_set (i := 3) Shape.nd rfl (Or.inl rfl) (pv 1))) pss_nil))
      (pss_cons (ps_cut (ps_set (i := 5) Shape.nd rfl (Or.inl rfl) (pe_callTy (call_dictP rfl) (by rfl) T.dict EW.boot_dict (pa_cons (pe_lc (own := [("_law_name", 6)]) (g := gName 6) (tt := tYes) (by rfl) Shape.nd (pi_listK (K := K) rfl (pe_slice (sl_listS K rfl) (pv 2) po_none (po_some (pv 3)))) (blkOk_by (own := [("_law_name", 6)]) (N := NShape) (sc := defScope sShape) (by decide +kernel)) (fun _ _ _ _ _ => (pg_name (i := 6) Shape.nd rfl (Or.inl rfl))) (fun _ _ _ _ _ => pts_nil) (fun _ _ _ _ _ => (pe_tupS (pa_cons (pv 6) (pa_cons pe_str pa_nil))))) pa_nil))))
      (pss_cons (ps_cut (ps_for PassesOwn.never rfl (pi_listK (K := K) rfl (pe_slice (sl_listS K rfl) (pv 2) (po_some (pv 3)) (po_some (pe_op op_add (pv 3) (pv 4))))) (pg_name (i := 6) Shape.nd rfl (Or.inl rfl)) (pss_one (ps_dput hr.u1 (pv 5) (pv 6) (pe_df D_law_pick (hr.mono (by decide)) rfl (pa_cons (pv 0) (pa_cons (pe_lstS (pa_cons (pe_tupS (pa_cons pe_str (pa_cons pe_str pa_nil))) (pa_cons (pe_tupS (pa_cons pe_str pa_nil)) (pa_cons (pe_tupS (pa_cons pe_str (pa_cons pe_str (pa_cons pe_str pa_nil)))) pa_nil)))) pa_nil))) rfl))))
      (pss_one (ps_ret (pv 5)))))))), ?_⟩
    -- names
    refine ⟨fun σ' H' => ∃ (pn : Addr) (ys : List Str), σ' = [some (.ref d), some (.int most), some (.ref pn), none, none, none, none] ∧ ys.Perm NM ∧ H pn = none ∧ EW.Kept d H H' ∧ Dc H' d (n + 7) ∧ H' pn = some (.lst (ys.map V.str)), ?_, ?_⟩
    · refine ⟨_, rfl, (by show 7 ≤ sizeLine; decide), fun q H1 n1 s1 e1 => nil_ ?_⟩
      refine ⟨d, q, NM, n, rfl, D.same s1, by show n + ((7 : Nat) : Int) ≤ _; omega, SqL.of e1, by decide, fun x hx => (nm_ok x hx).1, fun p ys H2 pe np k2 D2 e2 => ?_⟩
      refine ⟨p, ys, rfl, pe, ?_, (kept_of s1).trans k2, D2, e2⟩
      cases q2 : H p with
      | none => rfl
      | some o =>
        rw [s1 _ _ q2] at np
        cases np
    · rintro σ' H1 ⟨pn, ys, rfl, pe, nn, k1, D1, e1⟩
      have pnd : pn ≠ d := fun z => by
        obtain ⟨g, b, c, h1, _⟩ := D
        rw [z, h1] at nn
        cases nn
      have ylen : ys.length = 7 := pe.length_eq
      have ynd : ys.Nodup := pe.nodup_iff.mpr nm_nodup
      have ymem : ∀ x ∈ ys, x ∈ NM := fun x hx => pe.mem_iff.mp hx
      -- numbers
      refine ⟨fun σ' H' => ∃ t m : Nat, σ' = [some (.ref d), some (.int most), some (.ref pn), some (.int t), some (.int m), none, none] ∧ t ≤ 2 ∧ m ≤ 2 ∧ EW.Kept d H H' ∧ Dc H' d (n + 9) ∧ H' pn = some (.lst (ys.map V.str)), ?_, ?_⟩
      · refine ⟨_, rfl, (by show 5 ≤ sizeLine; decide), fun q H2 n2 s2 e2 => ?_⟩
        refine ⟨_, rfl, _, _, rfl, rfl, _, rfl, q, _, rfl, SqL.of e2, fun q2 H3 n3 s3 e3 => nil_ ?_⟩
        rw [show 3 + most = ((3 + most.toNat : Nat) : Int) by omega, cut_to] at e3
        refine ⟨d, q2, _, _, rfl, D1.same (s2.trans s3), by omega, .inl ⟨SqL.of e3, (D1.same s2).nn n3⟩, by rw [List.length_take]; show 0 < min _ 5; omega, by rw [List.length_take]; show min _ 5 < 1000; omega, fun v H4 hv k4 D4 => ?_⟩
        obtain ⟨t, rfl, ht⟩ : ∃ t : Nat, v = .int t ∧ t ≤ 2 := by
          have hv := List.mem_of_mem_take hv
          simp only [List.mem_cons, List.not_mem_nil, or_false] at hv
          rcases hv with rfl | rfl | rfl | rfl | rfl
          · exact ⟨1, rfl, by decide⟩
          · exact ⟨1, rfl, by decide⟩
          · exact ⟨2, rfl, by decide⟩
          · exact ⟨2, rfl, by decide⟩
          · exact ⟨0, rfl, by decide⟩
        refine ⟨_, rfl, (by show 5 ≤ sizeLine; decide), fun q3 H5 n5 s5 e5 => nil_ ?_⟩
        refine ⟨d, q3, _, _, rfl, D4.same s5, by omega, .inl ⟨SqL.of e5, D4.nn n5⟩, by decide, by decide, fun v H6 hv k6 D6 => ?_⟩
        obtain ⟨m, rfl, hm⟩ : ∃ t : Nat, v = .int t ∧ t ≤ 2 := by
          simp only [List.mem_cons, List.not_mem_nil, or_false] at hv
          rcases hv with rfl | rfl | rfl | rfl | rfl
          · exact ⟨0, rfl, by decide⟩
          · exact ⟨0, rfl, by decide⟩
          · exact ⟨1, rfl, by decide⟩
          · exact ⟨1, rfl, by decide⟩
          · exact ⟨2, rfl, by decide⟩
        exact nil_ ⟨_, _, rfl, t, m, rfl, ht, hm, k1.trans ((kept_of (s2.trans s3)).trans (k4.trans ((kept_of s5).trans k6))), D6.mono (by omega), k6 _ _ pnd (s5 _ _ (k4 _ _ pnd (s3 _ _ (s2 _ _ e1))))⟩
      · rintro σ' H2 ⟨t0, m, rfl, ht0, hm, k2, D2, e2⟩
        refine ⟨fun σ' H' => ∃ t : Nat, σ' = [some (.ref d), some (.int most), some (.ref pn), some (.int t), some (.int m), none, none] ∧ t ≤ 2 ∧ (t : Int) ≤ most ∧ H' = H2, ?_, ?_⟩
        · refine ⟨_, rfl, _, rfl, _, _, rfl, rfl, _, rfl, ite2 (fun c => ?_) fun c => ?_⟩
          · exact ⟨_, rfl, most.toNat, by rw [Int.toNat_of_nonneg m0]; rfl, by omega, by omega, rfl⟩
          · have c := not_of c
            exact ⟨t0, rfl, ht0, by omega, rfl⟩
        · rintro σ' H2' ⟨t, rfl, ht, htm, rfl⟩
          -- found
          refine ⟨fun σ' H' => ∃ (F : Addr) (kvs : List (Key × V)), σ' = [some (.ref d), some (.int most), some (.ref pn), some (.int t), some (.int m), some (.ref F), none] ∧ H F = none ∧ F ≠ pn ∧ Same H2' H' ∧ H' F = some (.dK kvs) ∧ Ent K H' kvs ((ys.take t).map fun x => (x, Kd.time)), ?_, ?_⟩
          · refine ⟨_, rfl, _, rfl, _, rfl, pn, _, rfl, SqL.of e2, fun q3 H3 n3 s3 e3 => ?_⟩
            rw [cut_to, ← List.map_take] at e3
            refine ⟨q3, rfl, ⟨_, SqL.of e3⟩, fun D0 hD => ?_⟩
            refine loop_list (xs := (ys.take t).map V.str) (fun i H' => ∃ ps : List Addr, H' D0 = some (.lst (ps.map V.ref)) ∧ Same H3 H' ∧ ps.length = i ∧ Paired (fun p (kv : Key × V) => SqT K H' p [kV kv.1, kv.2]) ps (((ys.take t).take i).map fun x => ((Sum.inr x : Key), V.str "time"))) ⟨[], upd_same, upd_new hD, rfl, .nil⟩ ?_ ?_ ?_
            · rintro i H4 _ ⟨_, _, s4, _⟩
              exact SqL.of (s4 _ _ e3)
            · rintro i v H4 hv ⟨ps, eD, s4, hl, hP⟩
              rw [List.getElem?_map] at hv
              obtain ⟨x, hx, rfl⟩ := Option.map_eq_some_iff.mp hv
              have hi : i < (ys.take t).length := (List.getElem?_eq_some_iff.mp hx).1
              rw [List.length_take] at hi
              refine ⟨rfl, ?_⟩
              refine ⟨_, rfl, (by show 2 ≤ sizeLine; decide), fun q5 H5 n5 s5 e5 => ?_⟩
              have kD : EW.Kept D0 H5 (upd H5 D0 (.lst ((ps ++ [q5]).map V.ref))) := Kept.upd
              refine ⟨_, s5 _ _ eD, by rw [List.length_map]; omega, ps ++ [q5], by rw [upd_same, List.map_append]; rfl, same_upd (s4.trans s5) hD, by rw [List.length_append, hl]; rfl, ?_⟩
              have em : ((ps.map V.ref) ++ [V.ref q5]) = (ps ++ [q5]).map V.ref := by
                rw [List.map_append]
                rfl
              have eT : (((ys.take t).take (i + 1)).map fun x => ((Sum.inr x : Key), V.str "time")) = (((ys.take t).take i).map fun x => ((Sum.inr x : Key), V.str "time")) ++ [(Sum.inr x, V.str "time")] := by
                rw [List.take_add_one, hx]
                exact List.map_append
              rw [em, eT]
              refine pr_append (Paired.mono (fun _ _ r => SqT.kept (SqT.same r s5) (s5 _ _ eD) kD) hP) (.cons ?_ .nil)
              exact SqT.kept (SqT.of e5) (s5 _ _ eD) kD
            · rintro H4 ⟨ps, eD, s4, hl, hP⟩
              rw [List.length_map, List.take_length] at hP
              refine ⟨D0, ps, _, rfl, SqL.of eD, hP, fun F0 hF => ?_⟩
              have k4 : EW.Kept d H H4 := k2.trans (kept_of (s3.trans s4))
              have F0d : F0 ≠ d := (D2.same (s3.trans s4)).nn hF
              have nF := k4.free hF F0d
              have Fp : F0 ≠ pn := fun z => by
                rw [z, s4 _ _ (s3 _ _ e2)] at hF
                cases hF
              have em : mergeK [] ((ys.take t).map fun x => ((Sum.inr x : Key), V.str "time")) = (ys.take t).map fun x => ((Sum.inr x : Key), V.str "time") := by
                refine (mergeK_new _ [] (fun _ _ => rfl) ?_).trans (List.nil_append _)
                rw [List.map_map]
                exact List.Pairwise.map _ (fun a b h e => h (Sum.inr.inj e)) (ynd.sublist (List.take_sublist _ _))
              rw [em]
              exact ⟨F0, _, rfl, nF, Fp, same_upd (s3.trans s4) (by
                cases q : H2' F0 with
                | none => rfl
                | some o =>
                  rw [(s3.trans s4) _ _ q] at hF
                  cases hF), upd_same, ent_times _⟩
          · rintro σ' H3 ⟨F0, kvs, rfl, nF, Fp, s3, eF, en⟩
            have F0d : F0 ≠ d := fun z => by
              obtain ⟨g, b, c, h1, _⟩ := D
              rw [z, h1] at nF
              cases nF
            have e3 := s3 _ _ e2
            refine ⟨fun σ' H' => ∃ (kvs : List (Key × V)) (S : Shp) (u6 : Option V), σ' = [some (.ref d), some (.int most), some (.ref pn), some (.int t), some (.int m), some (.ref F0), u6] ∧ H' F0 = some (.dK kvs) ∧ Ent K H' kvs S ∧ S.map (·.1) = ys.take (t + m) ∧ (∀ q ∈ S, ∀ l, q.2 = .dom l → l ∈ DOMS) ∧ (S.filter fun q => q.2.isT).length = t ∧ EW.Kept d H H' ∧ Dc H' d (n + 11), ?_, ?_⟩
            · refine ⟨_, rfl, _, rfl, _, rfl, _, rfl, _, rfl, _, _, rfl, rfl, _, rfl, pn, _, rfl, SqL.of e3, fun q4 H4 n4 s4 e4 => ?_⟩
              have ec : cutV (ys.map V.str) (some (t : Int)) (some ((t : Int) + (m : Int))) = ((ys.drop t).take m).map V.str := by
                unfold cutV
                rw [show (t : Int) + (m : Int) = ((t + m : Nat) : Int) from rfl, HT.sIx_nat, HT.sIx_nat, List.length_map, ylen, show min t 7 = t by omega, show min (t + m) 7 - t = m by omega, List.map_take, List.map_drop]
              rw [ec] at e4
              have q4d : q4 ≠ d := (D2.same s3).nn n4
              have q4F : q4 ≠ F0 := fun z => by
                rw [z, eF] at n4
                cases n4
              refine ⟨q4, rfl, ⟨_, SqL.of e4⟩, ?_⟩
              refine for_list (xs := ((ys.drop t).take m).map V.str) (fun j σ' H' => ∃ (kvs : List (Key × V)) (S : Shp) (u6 : Option V), σ' = [some (.ref d), some (.int most), some (.ref pn), some (.int t), some (.int m), some (.ref F0), u6] ∧ H' F0 = some (.dK kvs) ∧ Ent K H' kvs S ∧ S.map (·.1) = ys.take (t + j) ∧ (∀ q ∈ S, ∀ l, q.2 = .dom l → l ∈ DOMS) ∧ (S.filter fun q => q.2.isT).length = t ∧ EW.Kept d H H' ∧ Dc H' d (n + 9 + (j : Int)) ∧ H' q4 = some (.lst (((ys.drop t).take m).map V.str))) ?_ ?_ ?_ ?_
              · refine ⟨kvs, _, none, rfl, s4 _ _ eF, en.same s4, ?_, ?_, ?_, k2.trans (kept_of (s3.trans s4)), (D2.same (s3.trans s4)).mono (by omega), e4⟩
                · rw [List.map_map]
                  exact List.map_id _
                · intro q hq l e
                  obtain ⟨x, _, rfl⟩ := List.mem_map.mp hq
                  cases e
                · rw [List.filter_eq_self.mpr (fun q hq => by
                    obtain ⟨x, _, rfl⟩ := List.mem_map.mp hq
                    rfl), List.length_map, List.length_take]
                  omega
              · rintro j σ' H5 _ ⟨_, _, _, _, _, _, _, _, _, _, _, e5⟩
                exact SqL.of e5
              · rintro j xv σ' H5 hxv ⟨kvs, S, u6, rfl, eF5, en5, nm5, kd5, t5, k5, D5, e5⟩
                rw [List.getElem?_map] at hxv
                obtain ⟨x, hx, rfl⟩ := Option.map_eq_some_iff.mp hxv
                have hj : j < ((ys.drop t).take m).length := (List.getElem?_eq_some_iff.mp hx).1
                rw [List.length_take, List.length_drop] at hj
                have hx2 : ys[t + j]? = some x := by
                  rw [List.getElem?_take_of_lt (by omega), List.getElem?_drop] at hx
                  exact hx
                have slen : S.length = t + j := by
                  have := congrArg List.length nm5
                  rw [List.length_map, List.length_take] at this
                  omega
                refine ⟨_, rfl, (by show 2 ≤ sizeLine; decide), fun a1 H6 _ s6 e6 => (⟨(by show 1 ≤ sizeLine; decide), fun a2 H7 _ s7 e7 => (⟨(by show 3 ≤ sizeLine; decide), fun a3 H8 _ s8 e8 => ?_⟩)⟩)⟩
                refine ⟨(by show 3 ≤ sizeLine; decide), fun q9 H9 n9 s9 e9 => nil_ ?_⟩
                have sA := s6.trans (s7.trans (s8.trans s9))
                refine ⟨d, q9, [.ref a1, .ref a2, .ref a3], _, rfl, D5.same sA, by omega, .inl ⟨SqL.of e9, (D5.same (s6.trans (s7.trans s8))).nn n9⟩, by show 0 < 3; decide, by show 3 < 1000; decide, fun v HA hv kA DA => ?_⟩
                have nd5 : ∀ b : Addr, ∀ xs, H9 b = some (.tup xs) → HA b = some (.tup xs) := fun b xs e => kA b _ (fun z => by
                  obtain ⟨g, b', c, h1, _⟩ := D5.same sA
                  rw [z, h1] at e
                  cases e) e
                obtain ⟨l, hl, kl⟩ : ∃ l, l ∈ DOMS ∧ KdV K HA v (.dom l) := by
                  simp only [List.mem_cons, List.not_mem_nil, or_false] at hv
                  rcases hv with rfl | rfl | rfl
                  · exact ⟨["blue", "red"], by simp [DOMS], Tp.of (nd5 _ _ (s9 _ _ (s8 _ _ (s7 _ _ e6))))⟩
                  · exact ⟨["a"], by simp [DOMS], Tp.of (nd5 _ _ (s9 _ _ (s8 _ _ e7)))⟩
                  · exact ⟨["b", "begin", "c"], by simp [DOMS], Tp.of (nd5 _ _ (s9 _ _ e8))⟩
                have eFA := kA _ _ F0d (sA _ _ eF5)
                have enA : Ent K HA kvs S := Paired.mono (fun _ _ r => ⟨r.1, by
                  obtain ⟨g, b', c, h1, _⟩ := D5.same sA
                  exact (r.2.same sA).keptL h1 kA⟩) en5
                have klen : kvs.length = S.length := Paired.length enA
                have hnew : x ∉ S.map (·.1) := by
                  rw [nm5]
                  intro hm
                  obtain ⟨i, hi⟩ := List.getElem?_of_mem hm
                  have hi' := (List.getElem?_eq_some_iff.mp hi).1
                  rw [List.length_take] at hi'
                  rw [List.getElem?_take_of_lt (by omega)] at hi
                  have := (List.getElem?_inj (by omega) ynd).mp (hi.trans hx2.symm)
                  omega
                have vn := ent_none enA hnew
                have kF : EW.Kept F0 HA (upd HA F0 (.dK (putK kvs (Sum.inr x) v))) := Kept.upd
                refine ⟨_, rfl, _, rfl, F0, _, rfl, DPut.k (k := Sum.inr x) eFA (by omega), ?_⟩
                refine ⟨putK kvs (Sum.inr x) v, S ++ [(x, .dom l)], _, rfl, upd_same, ?_, ?_, ?_, ?_, ?_, ?_, ?_⟩
                · rw [putK_new v vn] at kF ⊢
                  exact pr_append (Paired.mono (fun _ _ r => ⟨r.1, r.2.keptD eFA kF⟩) enA) (.cons ⟨rfl, kl.keptD eFA kF⟩ .nil)
                · rw [List.map_append, nm5, ← Nat.add_assoc, List.take_add_one, hx2]
                  rfl
                · intro q hq l' e
                  rcases List.mem_append.mp hq with hq | hq
                  · exact kd5 q hq l' e
                  · rw [List.mem_singleton.mp hq] at e
                    cases e
                    exact hl
                · rw [List.filter_append, List.length_append, t5]
                  rfl
                · intro b o nb hb
                  rw [upd_ne (fun z => by rw [z, nF] at hb; cases hb)]
                  exact kA b o nb (sA _ _ (k5 b o nb hb))
                · obtain ⟨g, b', c, h1, r⟩ := DA
                  refine Dc.mono ⟨g, b', c, ?_, r⟩ (by omega)
                  rw [upd_ne (Ne.symm F0d)]
                  exact h1
                · rw [upd_ne q4F]
                  exact kA _ _ q4d (sA _ _ e5)
              · rintro σ' H5 ⟨kvs, S, u6, rfl, eF5, en5, nm5, kd5, t5, k5, D5, e5⟩
                refine ⟨kvs, S, u6, rfl, eF5, en5, ?_, kd5, t5, k5, D5.mono ?_⟩
                · rw [nm5, List.length_map, List.length_take, List.length_drop, ylen, show min m (7 - t) = m by omega]
                · rw [List.length_map, List.length_take, List.length_drop, ylen]
                  omega
            · rintro σ' H4 ⟨kvs, S, u6, rfl, eF4, en4, nm4, kd4, t4, k4, D4⟩
              have slen : S.length = t + m := by
                have := congrArg List.length nm4
                rw [List.length_map, List.length_take] at this
                omega
              have nmS : ∀ q ∈ S, q.1 ∈ NM := fun q hq => by
                have h : q.1 ∈ S.map (·.1) := List.mem_map.mpr ⟨q, hq, rfl⟩
                rw [nm4] at h
                exact ymem _ (List.mem_of_mem_take h)
              refine ⟨_, rfl, k F0 S H4 nF ⟨F0, kvs, rfl, eF4, en4⟩ ⟨⟨?_, fun q hq => nm_ok _ (nmS q hq), fun q hq l e => doms_ok l (kd4 q hq l e), ?_, ?_, by omega⟩, nmS, kd4, ?_⟩ ?_ k4 (D4.mono (by omega))⟩
              · rw [nm4]
                exact ynd.sublist (List.take_sublist _ _)
              · rw [tms_len, t4]
                exact ht
              · rw [tms_len, t4]
                omega
              · rw [tms_len, t4]
                omega
              · rw [tms_len, t4]
                exact htm
end
end TM
end

section
set_option maxHeartbeats 4000000
namespace TM
open PySem PySem.Spec PyProof.Rows L2 EW
abbrev NZone : List Str := ["_law_dice_here", "_law_shape_here", "_law_period", "_law_far", "_law_values", "_law_name", "_law_spans", "_law_gap"]
theorem Zone : FnScope NZone ["_law_dice_here", "_law_shape_here", "_law_period", "_law_far"] (defScope sZone) := ⟨rfl, rfl, rfl, by decide +kernel, rfl, by decide +kernel, by decide +kernel⟩
def spZoneL (K : W.Frag) : Sp := fun vs H Q _ => ∃ (d : Addr) (u : V) (S : Shp) (p f n : Int), vs = [.ref d, u, .int p, .int f] ∧ Dc H d n ∧ n + 200 ≤ 1000000 ∧ ShpAt K H u S ∧ Drawn S ∧ 1 ≤ p ∧ p ≤ 400 ∧ 0 ≤ f ∧ f ≤ 1000 ∧
  ∀ (v : V) (z : Zn.Z) (H' : Hp), ZnV K H' v z → ZOk S p z → Zn.ZMg 1000000000000 z → EW.Kept d H H' → Dc H' d (n + 200) → Q v H'
section
variable {P : Program} {w : World} {K : W.Frag} {mg : Str → Option Value} {base : Heap}
theorem _root_.EW.ShpAt.keptDc {H H' : Hp} {u : V} {S : Shp} {d : Addr} {n : Int} (h : ShpAt K H u S) (D : Dc H d n) (k : EW.Kept d H H') : ShpAt K H' u S := by
  obtain ⟨ds, hds⟩ := D.lst
  exact h.kept hds k
theorem ok_zoneL {fd : FuncData} (F : FnP K "_law_zone" sZone fd) (T : Fre mg) (D_law_roll : Df P w K mg base 1 "_law_roll" ["_law_dice_here", "_law_many"] spRoll) (D_law_pick : Df P w K mg base 2 "_law_pick" ["_law_dice_here", "_law_items"] (spPick K))
    (D_law_pair : Df P w K mg base 4 "_law_pair" ["_law_dice_here", "_law_far"] spPair) (D_law_span : Df P w K mg base 5 "_law_span" ["_law_dice_here", "_law_period", "_law_far"] spSpanL)
    (D_law_times_of : Df P w K mg base 1 "_law_times_of" ["_law_shape_here"] (spNames K tms)) (D_law_domains_of : Df P w K mg base 1 "_law_domains_of" ["_law_shape_here"] (spNames K dms)) :
    FnOk P w K mg base CX0 6 (He.ga K "_law_zone") fd ["_law_dice_here", "_law_shape_here", "_law_period", "_law_far"] (spZoneL K) := by
  refine F.ok Zone (fun vs H Q E h => ?_) (fun cdv A outer s H vs Q E hr h => ?_)
  · obtain ⟨d, u, S, p, f, n, rfl, _⟩ := h
    rfl
  · obtain ⟨d, u, S, p, f, n, rfl, D, hn, hu, dr, p1, p2, f0, f1, k⟩ := h
    have hbig : (64 : Nat) ≤ sizeLine := by decide
    have so := dr.ok
    have dl := dms_len S so
    have tl := so.tms
    refine ⟨_, PSs.nox (pss_cons (ps_cut (ps_set (i := 4) Zone.nd rfl (Or.inl rfl) (pe_callTy (call_tupS K rfl) (by rfl) T.tuple EW.boot_tuple (pa_cons (pe_lc (own := [("_law_name", 5)]) (g := gName 5) (tt := tYes) (by rfl) Zone.nd (pi_listK (K := K) rfl (pe_df D_law_domains_of (hr.mono (by decide)) rfl (pa_cons (pv 1) pa_nil))) (blkOk_by (own := [("_law_name", 5)]) (N := NZone) (sc := defScope sZone) (by decide +kernel)) (fun _ _ _ _ _ => (pg_name (i := 5) Zone.nd rfl (Or.inl rfl))) (fun _ _ _ _ _ => pts_nil) (fun _ _ _ _ _ => (pe_df D_law_pick (hr.mono (by decide)) rfl (pa_cons (pv 0) (pa_cons (pe_dget hr.u1 (pv 1) (pv 5) (fun _ _ => rfl)) pa_nil))))) pa_nil))))
      (pss_cons (ps_cut (ps_set (i := 6) Zone.nd rfl (Or.inl rfl) (pe_callTy (call_tupS K rfl) (by rfl) T.tuple EW.boot_tuple (pa_cons (pe_lc (own := [("_law_name", 5)]) (g := gName 5) (tt := tYes) (by rfl) Zone.nd (pi_listK (K := K) rfl (pe_df D_law_times_of (hr.mono (by decide)) rfl (pa_cons (pv 1) pa_nil))) (blkOk_by (own := [("_law_name", 5)]) (N := NZone) (sc := defScope sZone) (by decide +kernel)) (fun _ _ _ _ _ => (pg_name (i := 5) Zone.nd rfl (Or.inl rfl))) (fun _ _ _ _ _ => pts_nil) (fun _ _ _ _ _ => (pe_df D_law_span (hr.mono (by decide)) rfl (pa_cons (pv 0) (pa_cons (pv 2) (pa_cons (pv 3) pa_nil)))))) pa_nil))))
      (pss_cons (ps_cut (ps_set (i := 7) Zone.nd rfl (Or.inl rfl) (pe_tupS (pa_cons pe_non (pa_cons pe_non pa_nil)))))
      (pss_cons (ps_cut (ps_if (PW.pt (pw_and (pt_cmpR op_eq (pe_callB (call_lenK K rfl) (by rfl) T.len PySem.boot_len (pa_cons (pv 6) pa_nil)) pe_int (nomark _)) (pw_and1 (pt_cmpR op_gt (pe_df D_law_roll (hr.mono (by decide)) rfl (pa_cons (pv 0) (pa_cons pe_int pa_nil))) pe_int (nomark _))))) (pss_one (ps_set (i := 7) Zone.nd rfl (Or.inl rfl) (pe_df D_law_pair (hr.mono (by decide)) rfl (pa_cons (pv 0) (pa_cons (pv 3) pa_nil))))) pss_nil))
      (pss_one (ps_ret (pe_tupS (pa_cons (pv 4) (pa_cons (pv 6) (pa_cons (pv 7) pa_nil)))))))))), ?_⟩
    -- values
    refine ⟨fun σ' H' => ∃ (a : Addr) (vs : List Str), σ' = [some (.ref d), some u, some (.int p), some (.int f), some (.ref a), none, none, none] ∧ EW.Kept d H H' ∧ Dc H' d (n + 64) ∧ H' a = some (.tup (vs.map V.str)) ∧ vs.length = (dms S).length ∧ (∀ (j : Nat) (nm x : Str), (dms S)[j]? = some nm → vs[j]? = some x → ∃ l, (nm, Kd.dom l) ∈ S ∧ x ∈ l), ?_, ?_⟩
    · refine ⟨_, rfl, u, S, rfl, hu, so, fun q1 H1 s1 e1 => ?_⟩
      have D1 := D.same s1
      have q1d : q1 ≠ d := fun z => by
        obtain ⟨g, b, c, h1, _⟩ := D1
        rw [z, h1] at e1
        have := congrArg (fun o => o.map fun | .lst xs => xs.length | _ => 0) e1
        cases hd : (dms S) with
        | nil =>
          rw [hd] at e1
          cases e1
        | cons x r =>
          rw [hd] at e1
          cases e1
      refine ⟨q1, rfl, ⟨_, SqL.of e1⟩, fun L hL => ?_⟩
      have hLd : L ≠ d := D1.nn hL
      refine loop_list (xs := (dms S).map V.str) (fun i H' => ∃ acc : List Str, H' L = some (.lst (acc.map V.str)) ∧ EW.Kept d H1 H' ∧ Dc H' d (n + (i : Int)) ∧ acc.length = i ∧ (∀ (j : Nat) (nm x : Str), (dms S)[j]? = some nm → acc[j]? = some x → ∃ l, (nm, Kd.dom l) ∈ S ∧ x ∈ l)) ?_ ?_ ?_ ?_
      · exact ⟨[], upd_same, kept_of (upd_new hL), (D1.same (upd_new hL)).mono (by omega), rfl, fun j nm x _ h => by cases h⟩
      · rintro i H2 _ ⟨_, _, k2, _⟩
        exact SqL.of (k2 _ _ q1d e1)
      · rintro i v H2 hv ⟨acc, eL, k2, D2, hl, hok⟩
        rw [List.getElem?_map] at hv
        obtain ⟨nm, hnm, rfl⟩ := Option.map_eq_some_iff.mp hv
        have hi : i < (dms S).length := (List.getElem?_eq_some_iff.mp hnm).1
        obtain ⟨l, hm⟩ : ∃ l, (nm, Kd.dom l) ∈ S := by
          have h := List.mem_of_getElem? hnm
          unfold dms at h
          rw [(srt_perm _).mem_iff] at h
          obtain ⟨⟨x, kd⟩, hq, rfl⟩ := List.mem_map.mp h
          rw [List.mem_filter] at hq
          cases kd with
          | time => cases hq.2
          | dom l => exact ⟨l, hq.1⟩
        have hu2 := (hu.same s1).keptDc D1 k2
        obtain ⟨dd, kvs, rfl, hd, en⟩ := hu2
        obtain ⟨x, hx, kx⟩ := ent_val en so.nd hm
        obtain ⟨xa, rfl, hX⟩ := kx
        have dk := so.dom _ hm l rfl
        refine ⟨rfl, ?_⟩
        refine ⟨_, rfl, _, rfl, _, rfl, dd, _, rfl, .inl ⟨kvs, Sum.inr nm, .inl hd, rfl, hx.symm⟩, nil_ ?_⟩
        refine ⟨d, xa, _, _, rfl, D2, by omega, .inr hX, by rw [List.length_map]; exact dk.pos, by rw [List.length_map]; have := dk.few; omega, fun v H3 hv k3 D3 => ?_⟩
        obtain ⟨x, hxl, rfl⟩ := List.mem_map.mp hv
        refine ⟨_, k3 _ _ hLd eL, by rw [List.length_map]; omega, acc ++ [x], by rw [upd_same, List.map_append]; rfl, ?_, ?_, by rw [List.length_append, hl]; rfl, ?_⟩
        · intro b o nb hb
          rw [upd_ne (fun z => by rw [z, hL] at hb; cases hb)]
          exact k3 b o nb (k2 b o nb hb)
        · refine Dc.mono (D3.keep ?_) (by show _ ≤ n + ((i + 1 : Nat) : Int); omega)
          rw [upd_ne (Ne.symm hLd)]
        · intro j nm' x' h1 h2
          rcases Nat.lt_or_ge j i with c | c
          · rw [List.getElem?_append_left (by omega)] at h2
            exact hok j nm' x' h1 h2
          · rw [List.getElem?_append_right (by omega)] at h2
            have : j - acc.length = 0 := by
              have := (List.getElem?_eq_some_iff.mp h2).1
              simp at this
              omega
            have ej : j = i := by omega
            subst ej
            rw [this] at h2
            cases h2
            rw [hnm] at h1
            cases h1
            exact ⟨l, hm, hxl⟩
      · rintro H2 ⟨acc, eL, k2, D2, hl, hok⟩
        rw [List.length_map] at hl D2
        refine ⟨L, _, rfl, SqL.of eL, fun a H3 n3 s3 e3 => ⟨a, acc, rfl, (kept_of s1).trans (k2.trans (kept_of s3)), (D2.same s3).mono (by omega), e3, hl, hok⟩⟩
    · rintro σ' H1 ⟨a, vs, rfl, k1, D1, ea, hvl, hvs⟩
      refine ⟨fun σ' H' => ∃ (b : Addr) (us : List V) (ss : List Rn.Sp3), σ' = [some (.ref d), some u, some (.int p), some (.int f), some (.ref a), none, some (.ref b), none] ∧ EW.Kept d H H' ∧ Dc H' d (n + 90) ∧ H' a = some (.tup (vs.map V.str)) ∧ H' b = some (.tup us) ∧ Sns K H' us ss ∧ ss.length = (tms S).length ∧ (∀ s ∈ ss, Sok p s), ?_, ?_⟩
      · have hu1 := hu.keptDc D k1
        refine ⟨_, rfl, u, S, rfl, hu1, so, fun q1 H2 s2 e2 => ?_⟩
        have D2 := D1.same s2
        have q1d : q1 ≠ d := fun z => by
          obtain ⟨g, b, c, h1, _⟩ := D2
          rw [z, h1] at e2
          cases hd : (tms S) with
          | nil =>
            rw [hd] at e2
            cases e2
          | cons x r =>
            rw [hd] at e2
            cases e2
        have ad : a ≠ d := fun z => by
          obtain ⟨g, b, c, h1, _⟩ := D1
          rw [z, h1] at ea
          cases ea
        refine ⟨q1, rfl, ⟨_, SqL.of e2⟩, fun L hL => ?_⟩
        have hLd : L ≠ d := D2.nn hL
        refine loop_list (xs := (tms S).map V.str) (fun i H' => ∃ (acc : List V) (ss : List Rn.Sp3), H' L = some (.lst acc) ∧ EW.Kept d H2 H' ∧ Dc H' d (n + 64 + 9 * (i : Int)) ∧ Sns K H' acc ss ∧ ss.length = i ∧ ∀ s ∈ ss, Sok p s) ?_ ?_ ?_ ?_
        · exact ⟨[], [], upd_same, kept_of (upd_new hL), (D2.same (upd_new hL)).mono (by omega), .nil, rfl, (fun s hs => nomatch hs)⟩
        · rintro i H3 _ ⟨_, _, _, k3, _⟩
          exact SqL.of (k3 _ _ q1d e2)
        · rintro i v H3 hv ⟨acc, ss, eL, k3, D3, R3, hs3, hok⟩
          have hi : i < (tms S).length := by
            have := (List.getElem?_eq_some_iff.mp hv).1
            rwa [List.length_map] at this
          refine ⟨rfl, ?_⟩
          refine ⟨_, rfl, _, rfl, _, rfl, d, p, f, _, rfl, D3, by omega, p1, p2, f0, f1, fun q sp H4 hsp k4 D4 e4 => ?_⟩
          have hl3 := R3.length
          have eL4 := k4 _ _ hLd eL
          obtain ⟨ds, hds⟩ := D3.lst
          have kL : EW.Kept L H4 (upd H4 L (.lst (acc ++ [.ref q]))) := Kept.upd
          refine ⟨acc, eL4, by omega, acc ++ [.ref q], ss ++ [sp], upd_same, (fun b o nb h => ?_), ?_, ?_, by rw [List.length_append, hs3]; rfl, fun s hs => ?_⟩
          · rw [upd_ne (fun z => by rw [z, hL] at h; cases h)]
            exact k4 _ _ nb (k3 b o nb h)
          · refine Dc.mono (D4.keep ?_) (by omega)
            rw [upd_ne (Ne.symm hLd)]
          · exact Sns.kept (pr_append (Sns.kept R3 hds k4) (.cons (Tp.of e4) .nil)) eL4 kL
          · rcases List.mem_append.mp hs with hs | hs
            · exact hok s hs
            · rw [List.mem_singleton.mp hs]
              exact hsp
        · rintro H3 ⟨acc, ss, eL, k3, D3, R3, hs3, hok⟩
          rw [List.length_map] at hs3 D3
          refine ⟨L, acc, rfl, SqL.of eL, fun b H4 n4 s4 e4 => ⟨b, acc, ss, rfl, k1.trans ((kept_of s2).trans (k3.trans (kept_of s4))), (D3.same s4).mono (by omega), s4 _ _ (k3 _ _ ad (s2 _ _ ea)), e4, Sns.same R3 s4, hs3, hok⟩⟩
      · rintro σ' H2 ⟨b, us, ss, rfl, k2, D2, ea2, eb2, R2, hsl, hok⟩
        have ul := R2.length
        have fin : ∀ (c : V) (g : OO) (H4 : Hp), Nr g.1 → Nr g.2 → EW.Kept d H2 H4 → Dc H4 d (n + 100) → Tp K H4 c [ob g.1, ob g.2] → ((tms S).length = 2 ∨ g = (none, none)) → ∀ (v : V), Tp K H4 v [.ref a, .ref b, c] → Q v H4 := fun c g H4 n1 n2 k4 D4 hc hg v hv => by
          obtain ⟨ds, hds⟩ := D2.lst
          exact k v ⟨vs, ss, g⟩ H4 ⟨a, b, c, us, hv, SqT.kept (SqT.of ea2) hds k4, SqT.kept (SqT.of eb2) hds k4, Sns.kept R2 hds k4, hc⟩ ⟨hvl, hvs, hsl, fun s hs => (hok s hs).1, hg⟩ ⟨fun s hs => (hok s hs).2, n1, n2⟩ (k2.trans k4) (D4.mono (by omega))
        refine ⟨fun σ' H' => ∃ g : Addr, σ' = [some (.ref d), some u, some (.int p), some (.int f), some (.ref a), none, some (.ref b), some (.ref g)] ∧ Same H2 H' ∧ H' g = some (.tup [.non, .non]), ?_, ?_⟩
        · exact ⟨(by show 2 ≤ sizeLine; decide), fun g H3 _ s3 e3 => ⟨g, rfl, s3, e3⟩⟩
        · rintro σ' H3 ⟨g, rfl, s3, eg⟩
          refine ⟨fun σ' H' => ∃ (c : V) (g : OO), σ' = [some (.ref d), some u, some (.int p), some (.int f), some (.ref a), none, some (.ref b), some c] ∧ EW.Kept d H2 H' ∧ Dc H' d (n + 100) ∧ Tp K H' c [ob g.1, ob g.2] ∧ ((tms S).length = 2 ∨ g = (none, none)) ∧ Nr g.1 ∧ Nr g.2, ?_, ?_⟩
          · refine ⟨_, rfl, _, _, rfl, .inr ⟨_, SqT.of (s3 _ _ eb2), rfl⟩, rfl, _, rfl, ?_⟩
            by_cases c2 : us.length = 2
            · refine iteD (by rw [c2]; rfl) ?_
              refine ⟨_, rfl, d, 3, _, rfl, D2.same s3, by omega, by decide, by decide, fun r H4 r0 r1 k4 D4 => ?_⟩
              refine ⟨_, _, rfl, rfl, _, rfl, ite2 (fun _ => ?_) fun _ => ?_⟩
              · refine ⟨_, rfl, _, rfl, d, f, _, rfl, D4, by omega, f0, f1, fun q lo hi H5 rl rh k5 D5 e5 => ?_⟩
                exact ⟨_, (lo, hi), rfl, (kept_of s3).trans (k4.trans k5), D5.mono (by omega), Tp.of e5, .inl (by omega), rl, rh⟩
              · obtain ⟨ds, hds⟩ := (D2.same s3).lst
                exact ⟨_, (none, none), rfl, (kept_of s3).trans k4, D4.mono (by omega), Tp.kept (Tp.of eg) hds k4, .inr rfl, (fun _ z => nomatch z), fun _ z => nomatch z⟩
            · refine iteN (by simp; omega) ?_
              exact ⟨_, (none, none), rfl, kept_of s3, (D2.same s3).mono (by omega), Tp.of eg, .inr rfl, (fun _ z => nomatch z), fun _ z => nomatch z⟩
          · rintro σ' H4 ⟨c, g, rfl, k4, D4, hc, hg, n1, n2⟩
            exact ⟨_, rfl, _, rfl, _, rfl, (by show 3 ≤ sizeLine; decide), fun q H5 _ s5 e5 => fin c g H5 n1 n2 (k4.trans (kept_of s5)) (D4.same s5) (Tp.same hc s5) hg _ (Tp.of e5)⟩
end
end TM
end

section
set_option maxHeartbeats 4000000
/-! EwZnR: rows of a shape, put together of times and values and taken apart. -/
namespace Zr
open EW PySem
def rowV {α : Type} : List Bool → List α → List α → List α
  | [], _, _ => []
  | true :: ks, t :: ts, vs => t :: rowV ks ts vs
  | true :: ks, [], vs => rowV ks [] vs
  | false :: ks, ts, v :: vs => v :: rowV ks ts vs
  | false :: ks, ts, [] => rowV ks ts []
/-- values, times -/
def partsV {α : Type} : List Bool → List α → List α × List α
  | [], _ => ([], [])
  | _ :: _, [] => ([], [])
  | true :: ks, x :: xs => ((partsV ks xs).1, x :: (partsV ks xs).2)
  | false :: ks, x :: xs => (x :: (partsV ks xs).1, (partsV ks xs).2)
theorem row_len {α : Type} : ∀ (ks : List Bool) (ts vs : List α), ks.count true = ts.length → ks.count false = vs.length → (rowV ks ts vs).length = ks.length
  | [], _, _, _, _ => rfl
  | true :: ks, t :: ts, vs, h1, h2 => by
    have h1 : ks.count true = ts.length := by simpa using h1
    have h2 : ks.count false = vs.length := by simpa using h2
    show (rowV ks ts vs).length + 1 = ks.length + 1
    rw [row_len ks ts vs h1 h2]
  | false :: ks, ts, v :: vs, h1, h2 => by
    have h1 : ks.count true = ts.length := by simpa using h1
    have h2 : ks.count false = vs.length := by simpa using h2
    show (rowV ks ts vs).length + 1 = ks.length + 1
    rw [row_len ks ts vs h1 h2]
  | true :: ks, [], vs, h1, _ => by simp at h1
  | false :: ks, ts, [], _, h2 => by simp at h2
theorem parts_row {α : Type} : ∀ (ks : List Bool) (ts vs : List α), ks.count true = ts.length → ks.count false = vs.length → partsV ks (rowV ks ts vs) = (vs, ts)
  | [], ts, vs, h1, h2 => by
    have h1 : ts = [] := List.eq_nil_of_length_eq_zero h1.symm
    have h2 : vs = [] := List.eq_nil_of_length_eq_zero h2.symm
    rw [h1, h2]
    rfl
  | true :: ks, t :: ts, vs, h1, h2 => by
    have h1 : ks.count true = ts.length := by simpa using h1
    have h2 : ks.count false = vs.length := by simpa using h2
    show ((partsV ks (rowV ks ts vs)).1, t :: (partsV ks (rowV ks ts vs)).2) = (vs, t :: ts)
    rw [parts_row ks ts vs h1 h2]
  | false :: ks, ts, v :: vs, h1, h2 => by
    have h1 : ks.count true = ts.length := by simpa using h1
    have h2 : ks.count false = vs.length := by simpa using h2
    show (v :: (partsV ks (rowV ks ts vs)).1, (partsV ks (rowV ks ts vs)).2) = (v :: vs, ts)
    rw [parts_row ks ts vs h1 h2]
  | true :: ks, [], vs, h1, _ => by simp at h1
  | false :: ks, ts, [], _, h2 => by simp at h2
/-- the names in order, and whether they name times -/
def names (S : Shp) : List Str := srt (S.map (·.1))
def isT (S : Shp) (n : Str) : Bool := ((S.find? fun q => decide (q.1 = n)).map fun q => q.2.isT).getD false
def kinds (S : Shp) : List Bool := (names S).map (isT S)
theorem isT_of {S : Shp} {q : Str × Kd} (nd : (S.map (·.1)).Nodup) (h : q ∈ S) : isT S q.1 = q.2.isT := by
  induction S with
  | nil => cases h
  | cons y S ih =>
    rw [List.map_cons, List.nodup_cons] at nd
    unfold isT
    rw [List.find?_cons]
    rcases List.mem_cons.mp h with e | e
    · subst e
      simp
    · have ne : ¬ y.1 = q.1 := fun z => nd.1 (z ▸ List.mem_map.mpr ⟨q, e, rfl⟩)
      rw [decide_eq_false ne]
      exact ih nd.2 e
theorem kinds_count {S : Shp} (nd : (S.map (·.1)).Nodup) (b : Bool) : (kinds S).count b = (S.filter fun q => q.2.isT == b).length := by
  unfold kinds names
  rw [((srt_perm (S.map (·.1))).map (isT S)).count_eq, List.map_map]
  have e : S.map (isT S ∘ fun q => q.1) = S.map fun q => q.2.isT := List.map_congr_left fun q hq => isT_of nd hq
  rw [e, List.count_eq_length_filter, List.filter_map, List.length_map]
  rfl
theorem count_true {S : Shp} (nd : (S.map (·.1)).Nodup) : (kinds S).count true = (tms S).length := by
  rw [kinds_count nd]
  unfold tms
  rw [(srt_perm _).length_eq, List.length_map]
  congr 1
  refine List.filter_congr fun q _ => ?_
  cases q.2.isT <;> rfl
theorem count_false {S : Shp} (nd : (S.map (·.1)).Nodup) : (kinds S).count false = (dms S).length := by
  rw [kinds_count nd]
  unfold dms
  rw [(srt_perm _).length_eq, List.length_map]
  congr 1
  refine List.filter_congr fun q _ => ?_
  cases q.2.isT <;> rfl
end Zr
end

section
set_option maxHeartbeats 4000000
namespace TM
open PySem PySem.Spec PyProof.Rows L2 EW
abbrev NBetw : List Str := ["_law_one", "_law_pair_here"]
theorem Betw : FnScope NBetw ["_law_one", "_law_pair_here"] (defScope sBetw) := ⟨rfl, rfl, rfl, by decide +kernel, rfl, by decide +kernel, by decide +kernel⟩
abbrev NParts : List Str := ["_law_shape_here", "_law_row", "_law_values", "_law_times", "_law_name", "_law_one", "_law_column"]
theorem Parts : FnScope NParts ["_law_shape_here", "_law_row"] (defScope sParts) := ⟨rfl, rfl, rfl, by decide +kernel, rfl, by decide +kernel, by decide +kernel⟩
/-- between the bounds -/
def betw (lo hi : Option Int) (t : Int) : Bool := (match lo with
  | none => true
  | some l => decide (l ≤ t)) && match hi with
  | none => true
  | some h => decide (t ≤ h)
def spBetw (K : W.Frag) : Sp := fun vs H Q _ => ∃ (t : Int) (v : V) (lo hi : Option Int), vs = [.int t, v] ∧ Tp K H v [ob lo, ob hi] ∧ Q (.bl (betw lo hi t)) H
def spLPlus : Sp := fun vs H Q _ => ∃ (o : Option Int) (m : Int), vs = [ob o, .int m] ∧ Q (ob (Zn.sh m o)) H
def spParts (K : W.Frag) : Sp := fun vs H Q _ => ∃ (u : V) (S : Shp) (r : Addr) (xs : List V), vs = [u, .ref r] ∧ ShpAt K H u S ∧ ShpOk S ∧ SqT K H r xs ∧ xs.length = S.length ∧
  ∀ (v : V) (a b : Addr) (H' : Hp), Same H H' → Tp K H' v [.ref a, .ref b] → SqT K H' a (Zr.partsV (Zr.kinds S) xs).1 → SqT K H' b (Zr.partsV (Zr.kinds S) xs).2 → Q v H'
theorem parts_snoc {α : Type} : ∀ (ks : List Bool) (xs : List α) (b : Bool) (x : α), ks.length = xs.length → Zr.partsV (ks ++ [b]) (xs ++ [x]) = if b = true then ((Zr.partsV ks xs).1, (Zr.partsV ks xs).2 ++ [x]) else ((Zr.partsV ks xs).1 ++ [x], (Zr.partsV ks xs).2)
  | [], [], b, x, _ => by cases b <;> rfl
  | true :: ks, y :: xs, b, x, h => by
    have ih := parts_snoc ks xs b x (Nat.succ.inj h)
    show ((Zr.partsV (ks ++ [b]) (xs ++ [x])).1, y :: (Zr.partsV (ks ++ [b]) (xs ++ [x])).2) = _
    rw [ih]
    cases b <;> rfl
  | false :: ks, y :: xs, b, x, h => by
    have ih := parts_snoc ks xs b x (Nat.succ.inj h)
    show (y :: (Zr.partsV (ks ++ [b]) (xs ++ [x])).1, (Zr.partsV (ks ++ [b]) (xs ++ [x])).2) = _
    rw [ih]
    cases b <;> rfl
theorem parts_len {α : Type} : ∀ (ks : List Bool) (xs : List α), (Zr.partsV ks xs).1.length ≤ xs.length ∧ (Zr.partsV ks xs).2.length ≤ xs.length
  | [], _ => ⟨Nat.zero_le _, Nat.zero_le _⟩
  | _ :: _, [] => ⟨Nat.le_refl _, Nat.le_refl _⟩
  | true :: ks, x :: xs => by
    obtain ⟨h1, h2⟩ := parts_len ks xs
    exact ⟨Nat.le_succ_of_le h1, Nat.succ_le_succ h2⟩
  | false :: ks, x :: xs => by
    obtain ⟨h1, h2⟩ := parts_len ks xs
    exact ⟨Nat.succ_le_succ h1, Nat.le_succ_of_le h2⟩
theorem names_len (S : Shp) : (Zr.names S).length = S.length := by
  unfold Zr.names
  rw [(srt_perm _).length_eq, List.length_map]
theorem names_mem {S : Shp} {n : Str} (h : n ∈ Zr.names S) : ∃ k, (n, k) ∈ S := by
  unfold Zr.names at h
  rw [(srt_perm _).mem_iff] at h
  obtain ⟨⟨x, k⟩, hq, rfl⟩ := List.mem_map.mp h
  exact ⟨k, hq⟩
section
variable {P : Program} {w : World} {K : W.Frag} {mg : Str → Option Value} {base : Heap}
theorem ok_betw {fd : FuncData} (F : FnP K "_law_between" sBetw fd) : FnOk P w K mg base CX0 1 (He.ga K "_law_between") fd ["_law_one", "_law_pair_here"] (spBetw K) := by
  refine F.ok Betw (fun vs H Q E h => ?_) (fun cdv A outer s H vs Q E hr h => ?_)
  · obtain ⟨t, v, lo, hi, rfl, _⟩ := h
    rfl
  · obtain ⟨t, v, lo, hi, rfl, ⟨a, rfl, hX⟩, k⟩ := h
    refine ⟨_, PSs.nox (pss_one (ps_ret (pe_and (pe_or (pe_cmp (pc_isN (pe_ix (ix_tupK K rfl) (pv 1) pe_int (fun _ _ => rfl)))) (pe_one (pe_cmpR op_le (pe_ix (ix_tupK K rfl) (pv 1) pe_int (fun _ _ => rfl)) (pv 0) (nomark _)))) (pe_one (pe_or (pe_cmp (pc_isN (pe_ix (ix_tupK K rfl) (pv 1) pe_int (fun _ _ => rfl)))) (pe_one (pe_cmpR op_le (pv 0) (pe_ix (ix_tupK K rfl) (pv 1) pe_int (fun _ _ => rfl)) (nomark _)))))))), ?_⟩
    refine ⟨_, rfl, a, _, _, _, rfl, rfl, hX, rfl, _, rfl, ?_⟩
    cases lo with
    | none =>
      refine iteT ⟨_, rfl, iteT ⟨_, rfl, a, _, _, _, rfl, rfl, hX, rfl, _, rfl, ?_⟩⟩
      cases hi with
      | none => exact iteT k
      | some h => exact iteF ⟨_, rfl, _, rfl, a, _, _, _, rfl, rfl, hX, rfl, _, _, rfl, rfl, k⟩
    | some l =>
      refine iteF ⟨_, rfl, a, _, _, _, rfl, rfl, hX, rfl, _, rfl, _, _, rfl, rfl, _, rfl, ?_⟩
      by_cases c : l ≤ t
      · have e : ∀ hi, betw (some l) hi t = match hi with
          | none => true
          | some h => decide (t ≤ h) := fun hi => by simp [betw, c]
        rw [e] at k
        rw [decide_eq_true c]
        refine iteT ⟨_, rfl, a, _, _, _, rfl, rfl, hX, rfl, _, rfl, ?_⟩
        cases hi with
        | none => exact iteT k
        | some h => exact iteF ⟨_, rfl, _, rfl, a, _, _, _, rfl, rfl, hX, rfl, _, _, rfl, rfl, k⟩
      · have e : betw (some l) hi t = false := by simp [betw, c]
        rw [e] at k
        rw [decide_eq_false c]
        exact iteF k
theorem ok_parts {fd : FuncData} (F : FnP K "_law_parts_of" sParts fd) (T : Fre mg) : FnOk P w K mg base CX0 1 (He.ga K "_law_parts_of") fd ["_law_shape_here", "_law_row"] (spParts K) := by
  refine F.ok Parts (fun vs H Q E h => ?_) (fun cdv A outer s H vs Q E hr h => ?_)
  · obtain ⟨u, S, r, xs, rfl, _⟩ := h
    rfl
  · obtain ⟨u, S, r, xs, rfl, hu, so, hr', hx, k⟩ := h
    have hbig : (64 : Nat) ≤ sizeLine := by decide
    have hall := so.all
    refine ⟨_, PSs.nox (pss_cons (ps_cut (ps_par (i := 2) (j := 3) (by rfl) Parts.nd rfl rfl (by decide) rfl rfl (pa_cons (pe_lstS pa_nil) (pa_cons (pe_lstS pa_nil) pa_nil)) (by rfl)))
      (pss_cons (ps_cut (ps_for PassesOwn.never rfl (EW.pi_zipX (by rfl) T.zip (pa_cons (pe_callB (cr_sortedS (X := _)) (by rfl) T.sorted EW.boot_sorted (pa_cons (pe_lock (pe_lc (own := [("_law_column", 6)]) (g := gName 6) (tt := tYes) (by rfl) Parts.nd (pi_keys (pv 0)) (blkOk_by (own := [("_law_column", 6)]) (N := NParts) (sc := defScope sParts) (by decide +kernel)) (fun _ _ _ _ _ => (pg_name (i := 6) Parts.nd rfl (Or.inl rfl))) (fun _ _ _ _ _ => pts_nil) (fun _ _ _ _ _ => (pe_callTy SkE.call_str_str (by rfl) T.str EW.boot_str (pa_cons (pv 6) pa_nil))))) pa_nil)) (pa_cons (pv 1) pa_nil))) (pg_tup rfl (pgs_cons (pg_name (i := 4) Parts.nd rfl (Or.inl rfl)) (pgs_cons (pg_name (i := 5) Parts.nd rfl (Or.inl rfl)) pgs_nil))) (pss_one (ps_if (pt_cmpR (op_eqDK K rfl hr.units) (pe_dget hr.u1 (pv 0) (pv 4) (fun _ _ => rfl)) pe_str (nomark _)) (pss_one (ps_expr (pe_bm PySem.F.plainAttrs_list PySem.F.slot_list_append PySem.F.type_list_append mt_append (pv 3) (pa_cons (pv 5) pa_nil)))) (pss_one (ps_expr (pe_bm PySem.F.plainAttrs_list PySem.F.slot_list_append PySem.F.type_list_append mt_append (pv 2) (pa_cons (pv 5) pa_nil))))))))
      (pss_one (ps_ret (pe_tupS (pa_cons (pe_callTy (call_tupS K rfl) (by rfl) T.tuple EW.boot_tuple (pa_cons (pv 2) pa_nil)) (pa_cons (pe_callTy (call_tupS K rfl) (by rfl) T.tuple EW.boot_tuple (pa_cons (pv 3) pa_nil)) pa_nil))))))), ?_⟩
    refine ⟨fun σ' H' => ∃ va ta : Addr, σ' = [some u, some (.ref r), some (.ref va), some (.ref ta), none, none, none] ∧ H va = none ∧ H ta = none ∧ va ≠ ta ∧ Same H H' ∧ H' va = some (.lst []) ∧ H' ta = some (.lst []), ?_, ?_⟩
    · refine ⟨by decide, fun va H1 n1 s1 e1 => ⟨by decide, fun ta H2 n2 s2 e2 => nil_ ⟨_, _, rfl, va, ta, rfl, n1, ?_, fun z => ?_, s1.trans s2, s2 _ _ e1, e2⟩⟩⟩
      · cases q : H ta with
        | none => rfl
        | some o =>
          rw [s1 _ _ q] at n2
          cases n2
      · rw [← z, e1] at n2
        cases n2
    · rintro σ' H1 ⟨va, ta, rfl, nv, nt, ne, s1, ev, et⟩
      have hu1 := hu.same s1
      obtain ⟨d, kvs, rfl, hd, en⟩ := id hu1
      have hlen := Paired.length en
      refine ⟨fun σ' H' => ∃ u4 u5 : Option V, σ' = [some (.ref d), some (.ref r), some (.ref va), some (.ref ta), u4, u5, none] ∧ Same H H' ∧ H' va = some (.lst (Zr.partsV (Zr.kinds S) xs).1) ∧ H' ta = some (.lst (Zr.partsV (Zr.kinds S) xs).2), ?_, ?_⟩
      · refine ⟨d, _, hd, True.intro, fun od => ?_⟩
        refine ⟨_, rfl, d, od, rfl, .inl ⟨kvs, upd_same, fun D hD => ?_⟩⟩
        have en2 := en.lock (o := od) hd
        refine loop_keys (fun i H' => H' D = some (.lst (((S.take i).map (·.1)).map V.str)) ∧ Same (upd H1 d (.frz od (.dK kvs))) H') ⟨upd_same, upd_new hD⟩ ?_ ?_ ?_
        · rintro i H' _ ⟨_, s2⟩
          exact s2 _ _ upd_same
        · rintro i kk v H2 hkv ⟨eD, s2⟩
          obtain ⟨z, kd, hz, rfl, _⟩ := ent_at en2 hkv
          have hi : i < S.length := (List.getElem?_eq_some_iff.mp hz).1
          refine ⟨rfl, ?_⟩
          refine ⟨_, rfl, _, rfl, ?_⟩
          refine ⟨_, eD, by rw [List.length_map, List.length_map, List.length_take]; omega, ?_, same_upd s2 hD⟩
          rw [upd_same, List.take_add_one, hz, List.map_append, List.map_append]
          rfl
        · rintro H2 ⟨eD, s2⟩
          refine ⟨s2 _ _ upd_same, ?_⟩
          have nD : D ≠ d := fun z => by
            rw [z, upd_same] at hD
            cases hD
          rw [hlen, List.take_length] at eD
          have s3 := same_lock hd s2
          refine ⟨D, _, rfl, SqL.of (by rw [upd_ne nD]; exact eD), by rw [List.length_map]; omega, fun ys p pe so' hp => ?_⟩
          have ey : ys = Zr.names S := srt_eq pe so'
          have s4 : Same H1 (upd (upd H2 d (.dK kvs)) p (.lst (ys.map V.str))) := same_upd s3 (by
            cases q : H1 p with
            | none => rfl
            | some o =>
              rw [s3 _ _ q] at hp
              cases hp)
          have pva : p ≠ va := fun z => by
            rw [z, s3 _ _ ev] at hp
            cases hp
          have pta : p ≠ ta := fun z => by
            rw [z, s3 _ _ et] at hp
            cases hp
          generalize hH : upd (upd H2 d (.dK kvs)) p (.lst (ys.map V.str)) = H3 at s4 ⊢
          have ep : H3 p = some (.lst ((Zr.names S).map V.str)) := by
            rw [← hH, upd_same, ey]
          have s5 := s1.trans s4
          have kl : (Zr.kinds S).length = S.length := by
            unfold Zr.kinds
            rw [List.length_map, names_len]
          refine ⟨_, rfl, p, r, _, _, rfl, SqL.of ep, SqT.same hr' s5, ?_⟩
          refine for_zipX (us := (Zr.names S).map V.str) (vs := xs) (by rw [List.length_map, names_len, hx]) (fun i σ' H' => ∃ u4 u5 : Option V, σ' = [some (.ref d), some (.ref r), some (.ref va), some (.ref ta), u4, u5, none] ∧ Same H H' ∧ H' p = some (.lst ((Zr.names S).map V.str)) ∧ H' va = some (.lst (Zr.partsV ((Zr.kinds S).take i) (xs.take i)).1) ∧ H' ta = some (.lst (Zr.partsV ((Zr.kinds S).take i) (xs.take i)).2)) ?_ ?_ ?_ ?_
          · exact ⟨none, none, rfl, s5, ep, s4 _ _ ev, s4 _ _ et⟩
          · rintro i σ' H4 _ ⟨_, _, _, s6, e6, _⟩
            exact ⟨SqL.of e6, SqT.same hr' s6⟩
          · rintro i xn xv c σ' H4 H5 hn hv ⟨u4, u5, rfl, s6, e6, v6, t6⟩ s7 ec
            rw [List.getElem?_map] at hn
            obtain ⟨nm, hnm, rfl⟩ := Option.map_eq_some_iff.mp hn
            have hi : i < (Zr.names S).length := (List.getElem?_eq_some_iff.mp hnm).1
            rw [names_len] at hi
            obtain ⟨kd, hm⟩ := names_mem (List.mem_of_getElem? hnm)
            obtain ⟨d', kvs', e', hd', en'⟩ := hu.same (s6.trans s7)
            cases e'
            obtain ⟨x, hx', kx⟩ := ent_val en' so.nd hm
            have hk : (Zr.kinds S)[i]? = some kd.isT := by
              unfold Zr.kinds
              rw [List.getElem?_map, hnm]
              exact congrArg some (Zr.isT_of so.nd hm)
            have e1k : (Zr.kinds S).take (i + 1) = (Zr.kinds S).take i ++ [kd.isT] := by
              rw [List.take_add_one, hk]
              rfl
            have e1x : xs.take (i + 1) = xs.take i ++ [xv] := by
              rw [List.take_add_one, hv]
              rfl
            have et2 := parts_snoc ((Zr.kinds S).take i) (xs.take i) kd.isT xv (by rw [List.length_take, List.length_take, kl, hx])
            obtain ⟨pl1, pl2⟩ := parts_len ((Zr.kinds S).take i) (xs.take i)
            rw [List.length_take] at pl1 pl2
            have v7 := s7 _ _ v6
            have t7 := s7 _ _ t6
            refine ⟨c, _, rfl, SqT.of ec, rfl, _, _, rfl, _, _, rfl, rfl, ?_⟩
            refine ⟨_, rfl, _, rfl, d, x, rfl, .inl ⟨kvs', Sum.inr nm, .inl hd', rfl, hx'.symm⟩, ?_⟩
            refine ⟨kdD kd, .str "time", kd_dp kx, .str _, kd_shaped kd (so.dom _ hm), by decide +kernel, _, rfl, ?_⟩
            rw [kd_eqv, e1k, e1x]
            cases h : kd.isT with
            | true =>
              rw [h, if_pos rfl] at et2
              rw [et2]
              refine iteT ?_
              refine ⟨_, rfl, .inl ⟨rfl, _, SqL.of t7⟩, _, rfl, ta, _, _, rfl, rfl, t7, by omega, ?_⟩
              exact ⟨_, _, rfl, same_upd (s6.trans s7) nt, by rw [upd_ne pta]; exact s7 _ _ e6, by rw [upd_ne ne]; exact v7, upd_same⟩
            | false =>
              rw [h, if_neg (by decide)] at et2
              rw [et2]
              refine iteF ?_
              refine ⟨_, rfl, .inl ⟨rfl, _, SqL.of v7⟩, _, rfl, va, _, _, rfl, rfl, v7, by omega, ?_⟩
              exact ⟨_, _, rfl, same_upd (s6.trans s7) nv, by rw [upd_ne pva]; exact s7 _ _ e6, upd_same, by rw [upd_ne (Ne.symm ne)]; exact t7⟩
          · rintro σ' H4 ⟨u4, u5, rfl, s6, e6, v6, t6⟩
            rw [List.length_map, names_len, List.take_of_length_le (by omega), List.take_of_length_le (by omega)] at v6 t6
            exact ⟨u4, u5, rfl, s6, v6, t6⟩
      · rintro σ' H2 ⟨u4, u5, rfl, s2, e2, e3⟩
        refine ⟨_, rfl, va, _, rfl, SqL.of e2, fun a H3 n3 s3 e3' => ?_⟩
        refine ⟨_, rfl, ta, _, rfl, SqL.of (s3 _ _ e3), fun b H4 n4 s4 e4' => nil_ ⟨(by show 2 ≤ sizeLine; decide), fun q H5 n5 s5 e5 => ?_⟩⟩
        exact k _ a b H5 (s2.trans (s3.trans (s4.trans s5))) (Tp.of e5) (SqT.of (s5 _ _ (s4 _ _ e3'))) (SqT.of (s5 _ _ e4'))
end
end TM
end

section
set_option maxHeartbeats 4000000
namespace TM
open PySem PySem.Spec PyProof.Rows L2 EW
abbrev NInZone : List Str := ["_law_shape_here", "_law_period", "_law_zone_here", "_law_row", "_law_values", "_law_times", "_law_time", "_law_span_here"]
theorem InZone : FnScope NInZone ["_law_shape_here", "_law_period", "_law_zone_here", "_law_row"] (defScope sInZone) := ⟨rfl, rfl, rfl, by decide +kernel, rfl, by decide +kernel, by decide +kernel⟩
def okS (p : Int) (s : Rn.Sp3) (t : Int) : Bool := betw s.lo s.hi t && match s.res with
  | none => true
  | some r => decide (t % p = r)
def gapOk (g : OO) : List Int → Bool
  | [a, b] => betw g.1 g.2 (b - a)
  | _ => true
def inZ (p : Int) (z : Zn.Z) (ts : List Int) : Bool := (List.zipWith (okS p) z.ss ts).all id && gapOk z.g ts
def spInZone (K : W.Frag) : Sp := fun vs H Q _ => ∃ (u v : V) (S : Shp) (p : Int) (z : Zn.Z) (r : Addr) (ts : List Int) (ws : List Str), vs = [u, .int p, v, .ref r] ∧ ShpAt K H u S ∧ ShpOk S ∧ 0 < p ∧ ZnV K H v z ∧ ZOk S p z ∧ ts.length = (tms S).length ∧ ws.length = (dms S).length ∧ (∀ x ∈ ws, NameOk x) ∧
  SqT K H r (Zr.rowV (Zr.kinds S) (ts.map V.int) (ws.map V.str)) ∧ ∀ H', Same H H' → Q (.bl (decide (ws = z.vs) && inZ p z ts)) H'
theorem zok_names {S : Shp} {p : Int} {z : Zn.Z} (so : ShpOk S) (h : ZOk S p z) : ∀ x ∈ z.vs, NameOk x := by
  intro x hx
  obtain ⟨i, hi⟩ := List.getElem?_of_mem hx
  have hi' := (List.getElem?_eq_some_iff.mp hi).1
  obtain ⟨l, hm, hl⟩ := h.vals i _ x (List.getElem?_eq_getElem (by rw [← h.nv]; exact hi')) hi
  exact ((so.dom _ hm l rfl).nam x hl).1
theorem tup_shaped (l : List Str) (h : ∀ x ∈ l, NameOk x) : SeqAt.shaped (.tuple (l.map PyData.str)) = true := by
  simp [SeqAt.shaped, PyData.canLay0, strs_lay l h, PyData.depth, strs_depth]
theorem row_parts {S : Shp} (so : ShpOk S) {ts vs : List V} (h1 : ts.length = (tms S).length) (h2 : vs.length = (dms S).length) :
    (Zr.rowV (Zr.kinds S) ts vs).length = S.length ∧ Zr.partsV (Zr.kinds S) (Zr.rowV (Zr.kinds S) ts vs) = (vs, ts) := by
  have c1 : (Zr.kinds S).count true = ts.length := by rw [Zr.count_true so.nd, h1]
  have c2 : (Zr.kinds S).count false = vs.length := by rw [Zr.count_false so.nd, h2]
  refine ⟨?_, Zr.parts_row _ _ _ c1 c2⟩
  rw [Zr.row_len _ _ _ c1 c2]
  unfold Zr.kinds
  rw [List.length_map, names_len]
theorem inZ_few {p : Int} {z : Zn.Z} {ts : List Int} (h : ts.length < 2) (ha : (List.zipWith (okS p) z.ss ts).all id = true) : inZ p z ts = true := by
  unfold inZ
  rw [ha]
  match ts, h with
  | [], _ => rfl
  | [_], _ => rfl
theorem two_of {ts : List Int} (h : ¬ ts.length < 2) (h2 : ts.length ≤ 2) : ∃ t0 t1, ts = [t0, t1] := by
  match ts, h, h2 with
  | [t0, t1], _, _ => exact ⟨t0, t1, rfl⟩
  | [], h, _ => exact absurd (show 0 < 2 by decide) h
  | [_], h, _ => exact absurd (show 1 < 2 by decide) h
  | _ :: _ :: _ :: _, _, h => simp at h
theorem inZ_two {p t0 t1 : Int} {z : Zn.Z} (ha : (List.zipWith (okS p) z.ss [t0, t1]).all id = true) : inZ p z [t0, t1] = betw z.g.1 z.g.2 (t1 - t0) := by
  unfold inZ
  rw [ha]
  rfl
section
variable {P : Program} {w : World} {K : W.Frag} {mg : Str → Option Value} {base : Heap}
theorem ok_inZone {fd : FuncData} (F : FnP K "_law_in_zone" sInZone fd) (T : Fre mg) (D_law_parts_of : Df P w K mg base 1 "_law_parts_of" ["_law_shape_here", "_law_row"] (spParts K)) (D_law_between : Df P w K mg base 1 "_law_between" ["_law_one", "_law_pair_here"] (spBetw K)) :
    FnOk P w K mg base CX0 2 (He.ga K "_law_in_zone") fd ["_law_shape_here", "_law_period", "_law_zone_here", "_law_row"] (spInZone K) := by
  refine F.ok InZone (fun vs H Q E h => ?_) (fun cdv A outer s H vs Q E hr h => ?_)
  · obtain ⟨u, v, S, p, z, r, ts, ws, rfl, _⟩ := h
    rfl
  · obtain ⟨u, v, S, p, z, r, ts, ws, rfl, hu, so, hp, hz, zo, htl, hwl, hwn, hr', k⟩ := h
    obtain ⟨a, b, c, us, ⟨e, rfl, g1⟩, g2, g3, g4, ⟨cg, rfl, g5⟩⟩ := id hz
    have hul := Paired.length g4
    have hbig : (64 : Nat) ≤ sizeLine := by decide
    obtain ⟨rl, rp⟩ := row_parts so (ts := ts.map V.int) (vs := ws.map V.str) (by rw [List.length_map]; exact htl) (by rw [List.length_map]; exact hwl)
    refine ⟨_, PSs.nox (pss_cons (ps_cut (ps_asg (pe_df D_law_parts_of (hr.mono (by decide)) rfl (pa_cons (pv 0) (pa_cons (pv 3) pa_nil))) (pg_tup rfl (pgs_cons (pg_name (i := 4) InZone.nd rfl (Or.inl rfl)) (pgs_cons (pg_name (i := 5) InZone.nd rfl (Or.inl rfl)) pgs_nil)))))
      (pss_cons (ps_cut (ps_if (pt_cmpR (op_neDK K rfl hr.units) (pv 4) (pe_ix (ix_tupK K rfl) (pv 2) pe_int (fun _ _ => rfl)) (nomark _)) (pss_one (ps_ret pe_bl)) pss_nil))
      (pss_cons (ps_cut (ps_for PassesOwn.never rfl (RZ.pi_zipA (by rfl) T.zip (pa_cons (pv 5) (pa_cons (pe_ix (ix_tupK K rfl) (pv 2) pe_int (fun _ _ => rfl)) pa_nil))) (pg_tup rfl (pgs_cons (pg_name (i := 6) InZone.nd rfl (Or.inl rfl)) (pgs_cons (pg_name (i := 7) InZone.nd rfl (Or.inl rfl)) pgs_nil))) (pss_one (ps_if (PW.pt (pw_or (pt_not (pt_val (pe_df D_law_between (hr.mono (by decide)) rfl (pa_cons (pv 6) (pa_cons (pe_slice (sl_tupS K rfl) (pv 7) (po_some pe_int) po_none) pa_nil))))) (pw_or1 (PW.pt (pw_and (pt_cmp (pc_notN (pe_ix (ix_tupK K rfl) (pv 7) pe_int (fun _ _ => rfl)))) (pw_and1 (pt_cmpR op_ne (pe_op op_mod (pe_callTy call_int1 (by rfl) T.int EW.boot_int (pa_cons (pv 6) pa_nil)) (pv 1)) (pe_ix (ix_tupK K rfl) (pv 7) pe_int (fun _ _ => rfl)) (nomark _)))))))) (pss_one (ps_ret pe_bl)) pss_nil))))
      (pss_one (ps_ret (pe_or (pe_cmpR op_lt (pe_callB (call_lenK K rfl) (by rfl) T.len PySem.boot_len (pa_cons (pv 5) pa_nil)) pe_int (nomark _)) (pe_one (pe_df D_law_between (hr.mono (by decide)) rfl (pa_cons (pe_op op_sub (pe_ix (ix_tupK K rfl) (pv 5) pe_int (fun _ _ => rfl)) (pe_ix (ix_tupK K rfl) (pv 5) pe_int (fun _ _ => rfl))) (pa_cons (pe_ix (ix_tupK K rfl) (pv 2) pe_int (fun _ _ => rfl)) pa_nil)))))))))), ?_⟩
    refine ⟨fun σ' H' => ∃ va ta : Addr, σ' = [some u, some (.int p), some (.ref e), some (.ref r), some (.ref va), some (.ref ta), none, none] ∧ Same H H' ∧ SqT K H' va (ws.map V.str) ∧ SqT K H' ta (ts.map V.int), ?_, ?_⟩
    · refine ⟨_, rfl, _, rfl, u, S, r, _, rfl, hu, so, hr', rl, fun v' va ta H1 s1 hv hva hta => ?_⟩
      rw [rp] at hva hta
      obtain ⟨e', rfl, h1⟩ := hv
      exact ⟨e', _, rfl, h1, rfl, _, _, rfl, _, _, rfl, rfl, va, ta, rfl, s1, hva, hta⟩
    · rintro σ' H1 ⟨va, ta, rfl, s1, hva, hta⟩
      have g11 := SqT.same g1 s1
      refine ⟨fun σ' H' => σ' = [some u, some (.int p), some (.ref e), some (.ref r), some (.ref va), some (.ref ta), none, none] ∧ H' = H1 ∧ ws = z.vs, ?_, ?_⟩
      · refine ⟨_, rfl, _, rfl, e, _, _, _, rfl, rfl, g11, rfl, ?_⟩
        have nn := zok_names so zo
        refine ⟨.tuple (ws.map PyData.str), .tuple (z.vs.map PyData.str), .tup hva (strs_dp _), .tup (SqT.same g2 s1) (strs_dp _), tup_shaped _ hwn, tup_shaped _ nn, _, rfl, ?_⟩
        rw [PyData.eqv, strs_eqv]
        by_cases c : ws = z.vs
        · exact iteN (by simp [c]) ⟨rfl, rfl, c⟩
        · refine iteD (by simp [c]) ?_
          have := k H1 s1
          rw [decide_eq_false c] at this
          exact this
      · rintro σ' H1' ⟨rfl, rfl, rfl⟩
        rw [decide_eq_true rfl, Bool.true_and] at k
        refine ⟨fun σ' H' => ∃ u6 u7 : Option V, σ' = [some u, some (.int p), some (.ref e), some (.ref r), some (.ref va), some (.ref ta), u6, u7] ∧ Same H1' H' ∧ (List.zipWith (okS p) z.ss ts).all id = true, ?_, ?_⟩
        · refine ⟨_, rfl, _, rfl, e, _, _, _, rfl, rfl, g11, rfl, nil_ ?_⟩
          refine ⟨ta, b, _, _, rfl, .inr ⟨hta, SqT.same g3 s1, ?_⟩⟩
          refine RZ.for_zipT (xs := ts.map V.int) (ys := us) (by rw [List.length_map, htl, hul, zo.ns]) (fun i σ' H' => ∃ u6 u7 : Option V, σ' = [some u, some (.int p), some (.ref e), some (.ref r), some (.ref va), some (.ref ta), u6, u7] ∧ Same H1' H' ∧ ((List.zipWith (okS p) z.ss ts).take i).all id = true) ⟨none, none, rfl, Same.refl _, rfl⟩ ?_ ?_ ?_
          · rintro i σ' H2 ⟨_, _, _, s2, _⟩
            exact ⟨SqT.same hta s2, SqT.same (SqT.same g3 s1) s2⟩
          · rintro i xt xs T0 σ' H2 hxt hxs ⟨u6, u7, rfl, s2, ha⟩ nT
            rw [List.getElem?_map] at hxt
            obtain ⟨t, ht, rfl⟩ := Option.map_eq_some_iff.mp hxt
            obtain ⟨⟨rs, lo, hi⟩, hsp, sx⟩ := pr_get g4 hxs
            have sT : Same H2 (upd H2 T0 (.tup [.int t, xs])) := upd_new nT
            have eT : upd H2 T0 (.tup [.int t, xs]) T0 = some (.tup [.int t, xs]) := upd_same
            generalize upd H2 T0 (.tup [.int t, xs]) = H3 at sT eT ⊢
            obtain ⟨ax, rfl, hX⟩ := Tp.same sx (s1.trans (s2.trans sT))
            have hz1 : (List.zipWith (okS p) z.ss ts)[i]? = some (okS p ⟨rs, lo, hi⟩ t) := by
              rw [List.getElem?_zipWith, hsp, ht]
            have bad : okS p ⟨rs, lo, hi⟩ t = false → inZ p z ts = false := fun hb => by
              have : (List.zipWith (okS p) z.ss ts).all id = false := by
                rw [List.all_eq_false]
                exact ⟨_, List.mem_of_getElem? hz1, by rw [hb]; decide⟩
              unfold inZ
              rw [this]
              rfl
            have good : okS p ⟨rs, lo, hi⟩ t = true → ((List.zipWith (okS p) z.ss ts).take (i + 1)).all id = true := fun hb => by
              rw [List.take_add_one, hz1, List.all_append, ha]
              simp [hb]
            refine ⟨T0, _, rfl, SqT.of eT, rfl, _, _, rfl, _, _, rfl, rfl, ?_⟩
            refine ⟨_, rfl, _, rfl, _, rfl, ax, _, rfl, hX, (fun ⟨z, _⟩ => by rw [show HT.sIx _ 0 (some 1) = _ from HT.sIx_nat _ 0 1] at z; cases z), fun q H4 _ s4 e4 => nil_ ⟨t, _, lo, hi, rfl, Tp.of e4, _, rfl, ?_⟩⟩
            have hX4 := SqT.same hX s4
            have sA := s2.trans (sT.trans s4)
            cases hb : betw lo hi t with
            | false =>
              refine iteD rfl ?_
              have := k H4 (s1.trans sA)
              rw [bad (by simp [okS, hb])] at this
              exact this
            | true =>
              refine iteN rfl ?_
              refine ⟨_, rfl, ax, _, _, _, rfl, rfl, hX4, rfl, _, rfl, ?_⟩
              cases rs with
              | none =>
                refine iteN rfl (iteN rfl ?_)
                exact ⟨_, _, rfl, sA, good (by simp [okS, hb])⟩
              | some r =>
                refine iteD rfl ?_
                refine ⟨_, rfl, Or.inl ⟨_, rfl, _, rfl, _, _, rfl, rfl, hp, _, rfl, ax, _, _, _, rfl, rfl, hX4, rfl, rfl, _, rfl, ?_⟩⟩
                by_cases c : t % p = r
                · refine iteN (by simp [ob, c]) ?_
                  exact ⟨_, _, rfl, sA, good (by simp [okS, hb, c])⟩
                · refine iteD (by simp [ob, c]) ?_
                  have := k H4 (s1.trans sA)
                  rw [bad (by simp [okS, hb, c])] at this
                  exact this
          · rintro σ' H2 ⟨u6, u7, rfl, s2, ha⟩
            rw [List.take_of_length_le (by rw [List.length_zipWith, List.length_map]; omega)] at ha
            exact ⟨u6, u7, rfl, s2, ha⟩
        · rintro σ' H2 ⟨u6, u7, rfl, s2, ha⟩
          have kk := k H2 (s1.trans s2)
          have hta2 := SqT.same hta s2
          have tl := so.tms
          refine ⟨_, rfl, _, _, rfl, .inr ⟨_, hta2, rfl⟩, _, _, rfl, rfl, _, rfl, ?_⟩
          by_cases c2 : ts.length < 2
          · refine iteD (decide_eq_true (by rw [List.length_map]; omega)) ?_
            have e1 := inZ_few c2 ha
            rw [e1] at kk
            exact kk
          · refine iteN (decide_eq_false (by rw [List.length_map]; omega)) ?_
            obtain ⟨t0, t1, rfl⟩ := two_of c2 (by omega)
            have e1 := inZ_two (z := z) ha
            rw [e1] at kk
            refine ⟨_, rfl, ta, _, _, _, rfl, rfl, hta2, rfl, _, rfl, ta, _, _, _, rfl, rfl, hta2, rfl, _, _, rfl, rfl, _, rfl, e, _, _, _, rfl, rfl, SqT.same g11 s2, rfl, nil_ ?_⟩
            exact ⟨_, _, z.g.1, z.g.2, rfl, ⟨cg, rfl, SqT.same g5 (s1.trans s2)⟩, kk⟩
end
end TM
end

section
set_option maxHeartbeats 4000000
namespace TM
open PySem PySem.Spec PyProof.Rows L2 EW
abbrev NIsZoneF : List Str := ["shape", "period", "value"]
theorem IsZoneF : FnScope NIsZoneF ["shape", "period", "value"] (defScope sIsZoneF) := ⟨rfl, rfl, rfl, by decide +kernel, rfl, by decide +kernel, by decide +kernel⟩
abbrev NIsNorm : List Str := ["shape", "period", "value"]
theorem IsNorm : FnScope NIsNorm ["shape", "period", "value"] (defScope sIsNorm) := ⟨rfl, rfl, rfl, by decide +kernel, rfl, by decide +kernel, by decide +kernel⟩
theorem eqZ {K : W.Frag} {H : Hp} {Q : VK} {v w : V} {z : Zn.Z} (h : ZnV K H v z) (h' : ZnV K H w z) (hn : ∀ x ∈ z.vs, NameOk x) (k : Q (.bl true) H) : rEqD K v w H Q :=
  ⟨_, _, zn_dp h, zn_dp h', zn_shaped _ hn, zn_shaped _ hn, by rw [(zn_eqv_iff z z).mpr rfl]; exact k⟩
theorem neZ {K : W.Frag} {H : Hp} {Q : VK} {v w : V} {z : Zn.Z} (h : ZnV K H v z) (h' : ZnV K H w z) (hn : ∀ x ∈ z.vs, NameOk x) (k : Q (.bl false) H) : rNeD K v w H Q :=
  ⟨_, _, zn_dp h, zn_dp h', zn_shaped _ hn, zn_shaped _ hn, by rw [(zn_eqv_iff z z).mpr rfl]; exact k⟩
theorem zok_norm {S : Shp} {p : Int} {z y : Zn.Z} (so : ShpOk S) (zo : ZOk S p z) (h : Zn.norm p z = some y) : ZOk S p y := by
  have h2 : z.ss.length ≤ 2 := by
    rw [zo.ns]
    exact so.tms
  by_cases c : z.ss.length = 2
  · obtain ⟨s, t, hst⟩ : ∃ s t, z.ss = [s, t] := by
      match hss : z.ss, c with
      | [s, t], _ => exact ⟨s, t, rfl⟩
    rw [norm_two p z s t hst] at h
    obtain ⟨q, hq, rfl⟩ := Option.map_eq_some_iff.mp h
    have r1 : q.1.res = s.res ∧ q.2.1.res = t.res := by
      unfold Zn.tight at hq
      obtain ⟨w, _, rfl⟩ := Option.map_eq_some_iff.mp hq
      exact ⟨rfl, rfl⟩
    refine ⟨zo.nv, zo.vals, by show 2 = _; rw [← c, zo.ns], ?_, .inl (by rw [← zo.ns, c])⟩
    intro x hx r hr
    have hx : x ∈ [q.1, q.2.1] := hx
    simp only [List.mem_cons, List.not_mem_nil, or_false] at hx
    rcases hx with rfl | rfl
    · exact zo.res s (by rw [hst]; simp) r (r1.1 ▸ hr)
    · exact zo.res t (by rw [hst]; simp) r (r1.2 ▸ hr)
  · rw [norm_few p z h2 c] at h
    split at h
    · cases h
    · cases h
      refine ⟨zo.nv, zo.vals, (List.length_map ..).trans zo.ns, ?_, .inr rfl⟩
      intro x hx r hr
      obtain ⟨s, hs, rfl⟩ := List.mem_map.mp hx
      exact zo.res s hs r hr
/-- whether any value is a normal zone -/
def isN (p : Int) : Option Zn.Z → Bool
  | none => false
  | some z => match Zn.norm p z with
    | some y => PyData.eqv (znD y) (znD z)
    | none => false
theorem isN_iff (p : Int) (z : Zn.Z) : isN p (some z) = true ↔ Zn.norm p z = some z := by
  cases h : Zn.norm p z with
  | none =>
    simp only [isN, h]
    exact ⟨fun h => by simp at h, fun h => by simp at h⟩
  | some y =>
    simp only [isN, h]
    rw [zn_eqv_iff]
    exact ⟨fun e => by rw [e], fun e => Option.some.inj e⟩
def spZoneT (K : W.Frag) : Sp := fun vs H Q _ => ∃ (u v : V) (S : Shp) (p : Int) (o : Option Zn.Z), vs = [u, .int p, v] ∧ ShpAt K H u S ∧ ShpOk S ∧ 1 ≤ p ∧ p ≤ 400 ∧ EltV K H S p v o ∧ ∀ H', Same H H' → Q (.bl o.isSome) H'
def spIsNorm (K : W.Frag) : Sp := fun vs H Q _ => ∃ (u v : V) (S : Shp) (p : Int) (o : Option Zn.Z), vs = [u, .int p, v] ∧ ShpAt K H u S ∧ ShpOk S ∧ 1 ≤ p ∧ p ≤ 400 ∧ EltV K H S p v o ∧ ∀ H', Same H H' → Q (.bl (isN p o)) H'
section
variable {P : Program} {w : World} {K : W.Frag} {mg : Str → Option Value} {base : Heap}
theorem ok_zoneF {fd : FuncData} (F : FnP K "is_zone" sIsZoneF fd) (Drequire_shape : Df P w K mg base 5 "require_shape" ["shape"] (spShape K .non)) (Drequire_period : Df P w K mg base 3 "require_period" ["period"] spReqP) (Dis_zone_in : Df P w K mg base 4 "is_zone_in" ["shape", "period", "value"] (spZoneJ K)) :
    FnOk P w K mg base CX0 6 (He.ga K "is_zone") fd ["shape", "period", "value"] (spZoneT K) := by
  refine F.ok IsZoneF (fun vs H Q E h => ?_) (fun cdv A outer s H vs Q E hr h => ?_)
  · obtain ⟨u, v, S, p, o, rfl, _⟩ := h
    rfl
  · obtain ⟨u, v, S, p, o, rfl, hu, so, p1, p2, ho, k⟩ := h
    refine ⟨_, PSs.nox (pss_cons (ps_expr (pe_df Drequire_shape (hr.mono (by decide)) rfl (pa_cons (pv 0) pa_nil)))
      (pss_cons (ps_expr (pe_df Drequire_period (hr.mono (by decide)) rfl (pa_cons (pv 1) pa_nil)))
      (pss_one (ps_ret (pe_df Dis_zone_in (hr.mono (by decide)) rfl (pa_cons (pv 0) (pa_cons (pv 1) (pa_cons (pv 2) pa_nil)))))))), ?_⟩
    refine ⟨_, rfl, u, S, rfl, hu, so, fun H1 s1 => ?_⟩
    refine ⟨_, rfl, p, rfl, p1, p2, ?_⟩
    exact ⟨_, rfl, _, rfl, _, rfl, u, v, S, p, o, rfl, hu.same s1, so, ho.same s1, fun H2 s2 => k H2 (s1.trans s2)⟩
theorem ok_isNorm {fd : FuncData} (F : FnP K "is_normal" sIsNorm fd) (Dis_zone : Df P w K mg base 6 "is_zone" ["shape", "period", "value"] (spZoneT K)) (Dnormal_in : Df P w K mg base 4 "normal_in" ["period", "zone"] (spNormIn K)) :
    FnOk P w K mg base CX0 7 (He.ga K "is_normal") fd ["shape", "period", "value"] (spIsNorm K) := by
  refine F.ok IsNorm (fun vs H Q E h => ?_) (fun cdv A outer s H vs Q E hr h => ?_)
  · obtain ⟨u, v, S, p, o, rfl, _⟩ := h
    rfl
  · obtain ⟨u, v, S, p, o, rfl, hu, so, p1, p2, ho, k⟩ := h
    refine ⟨_, PSs.nox (pss_one (ps_ret (pe_and (pe_df Dis_zone (hr.mono (by decide)) rfl (pa_cons (pv 0) (pa_cons (pv 1) (pa_cons (pv 2) pa_nil)))) (pe_one (pe_cmpR (op_eqDK K rfl hr.units) (pe_df Dnormal_in (hr.mono (by decide)) rfl (pa_cons (pv 1) (pa_cons (pv 2) pa_nil))) (pv 2) (nomark _)))))), ?_⟩
    refine ⟨_, rfl, _, rfl, _, rfl, nil_ ⟨u, v, S, p, o, rfl, hu, so, p1, p2, ho, fun H1 s1 => ⟨_, rfl, ?_⟩⟩⟩
    cases o with
    | none => exact iteF (k H1 s1)
    | some z =>
      obtain ⟨hz, zo⟩ := ho
      have h2 : z.ss.length ≤ 2 := by
        rw [zo.ns]
        exact so.tms
      refine iteT ?_
      refine ⟨_, rfl, _, rfl, nil_ ⟨p, v, z, rfl, by omega, hz.same s1, h2, fun H2 s2 => ⟨fun hn => ?_, fun y hy q hq => ?_⟩⟩⟩
      · refine ⟨_, rfl, ⟨.none, znD z, .non, zn_dp (hz.same (s1.trans s2)), by decide +kernel, zn_shaped _ (zok_names so zo), ?_⟩⟩
        have := k H2 (s1.trans s2)
        simp only [isN, hn] at this
        exact this
      · refine ⟨_, rfl, ⟨znD y, znD z, zn_dp hq, zn_dp (hz.same (s1.trans s2)), zn_shaped _ (zok_names so (zok_norm so zo hy)), zn_shaped _ (zok_names so zo), ?_⟩⟩
        have := k H2 (s1.trans s2)
        simp only [isN, hy] at this
        exact this
end
end TM
end

section
set_option maxHeartbeats 4000000
namespace EW
open PySem PySem.Spec PyProof.Rows L2
/-! ### sorted(l, key=f), f a def of the text that tells data without lists, l a list or a tuple of references -/
mutual
def flatD : PyData → Bool
  | .none => true
  | .bool _ => true
  | .int _ => true
  | .str _ => true
  | .list _ => false
  | .tuple ds => flatAll ds
  | .dict _ => false
def flatAll : List PyData → Bool
  | [] => true
  | d :: ds => flatD d && flatAll ds
end
mutual
theorem dp_keptL {K : W.Frag} {H H' : Hp} {l : Addr} {ys : List V} (hl : H l = some (.lst ys)) (k : Kept l H H') : ∀ (d : PyData) (v : V), flatD d = true → Dp K H v d → Dp K H' v d
  | .none, _, _, h => by
    cases h
    exact .non
  | .bool b, _, _, h => by
    cases h
    exact .bl b
  | .int i, _, _, h => by
    cases h
    exact .int i
  | .str x, _, _, h => by
    cases h
    exact .str x
  | .list ds, _, f, _ => by simp [flatD] at f
  | .tuple ds, _, f, h => by
    cases h with
    | tup hs ha =>
      refine .tup ?_ (dpAll_keptL hl k ds _ (by simpa [flatD] using f) ha)
      rcases hs with (h | ⟨o, h⟩) | h
      · exact .inl (.inl (k _ _ (fun z => by rw [z, hl] at h; cases h) h))
      · exact .inl (.inr ⟨o, k _ _ (fun z => by rw [z, hl] at h; cases h) h⟩)
      · exact .inr h
  | .dict _, _, _, h => by cases h
theorem dpAll_keptL {K : W.Frag} {H H' : Hp} {l : Addr} {ys : List V} (hl : H l = some (.lst ys)) (k : Kept l H H') : ∀ (ds : List PyData) (vs : List V), flatAll ds = true → DpAll K H vs ds → DpAll K H' vs ds
  | [], _, _, h => by
    cases h
    exact .nil
  | d :: ds, _, f, h => by
    have f2 : (flatD d && flatAll ds) = true := by simpa [flatAll] using f
    obtain ⟨f3, f4⟩ := Bool.and_eq_true_iff.mp f2
    cases h with
    | cons h1 h2 => exact .cons (dp_keptL hl k d _ f3 h1) (dpAll_keptL hl k ds _ f4 h2)
end
/-- a def that tells a datum of a value -/
structure KeyFnD (X : Cx) (k : Nat) (f : Addr) (KeyOf : Hp → V → PyData → Prop) : Prop where
  ex : ∃ fd ps sp, FnOk X.prog X.w X.K X.mg X.base CX0 k f fd ps sp ∧ Binds X.K fd ps [] ∧ ∀ v d H Q, KeyOf H v d → (∀ z H', Same H H' → Dp X.K H' z d → Q z H') → sp [v] H Q E0
  mono : ∀ H H' v d, KeyOf H v d → Same H H' → KeyOf H' v d
section
variable {X : Cx} {k : Nat} {f a kS : Addr} {KeyOf : Hp → V → PyData → Prop} {pins : List (Addr × Obj)} {σ : L2.St} {H : Hp} {s : Shared} {A : Around} {E : Value → Shared → Prop}
/-- what stands while the keys are told -/
structure KysD (X : Cx) (pins : List (Addr × Obj)) (σ : L2.St) (H : Hp) (a kS : Addr) (e1 : Nat) (kz : List PyData) (ks : List V) (Hi : Hp) (s' : Shared) : Prop where
  inv : Inv X pins σ Hi s'
  same : Same H Hi
  at_ : Hi a = some (LsO a #[] e1)
  kst : Hi kS = some (.lst ks)
  tell : ∀ (j : Nat) (v : V), ks[j]? = some v → ∃ d : PyData, kz[j]? = some d ∧ Dp X.K Hi v d
theorem dpRel {v : V} {d : PyData} {Hq : Hp} (h : Dp X.K Hq v d) : True := trivial
theorem keysD_turn {e1 : Nat} {kz : List PyData} {ks : List V} {Hi : Hp} {s' : Shared} {v : V} {u : Value} {pr : PyData} {Q : Shared → Prop} (T : KeyFnD X k f KeyOf) (sb : Sub X k A) (hne : a ≠ kS) (h0 : H kS = none) (hfl : ∀ d ∈ kz, flatD d = true)
    (L : KysD X pins σ H a kS e1 kz ks Hi s') (hk : kz[ks.length]? = some pr) (hv : KeyOf H v pr) (r : RelV v u) (hz : ks.length + 1 ≤ sizeLine)
    (q : ∀ (ks' : List V) (Hn : Hp) (s2 : Shared), ks'.length = ks.length + 1 → KysD X pins σ H a kS e1 kz ks' Hn s2 → Q s2) :
    wpAny (model X.prog X.w) A (call (.ref f) [u]) (fun z s2 => wpAny (model X.prog X.w) A (Builtin.List.listUpdate (.ref kS) (·.push z)) (fun _ s3 => Q s3) E s2) (fun _ _ => False) s' := by
  obtain ⟨fd, ps, sp, F, hb, hs⟩ := T.ex
  have hsp : sp [v] Hi (fun z H' => Same Hi H' ∧ Dp X.K H' z pr) E0 := hs v pr Hi _ (T.mono _ _ _ _ hv L.same) fun z H' sm e => ⟨sm, e⟩
  refine wpAny_mono (run_at' F sb hb L.inv (.cons r .nil) hsp) (fun z s2 hq => ?_) fun _ _ z => z
  obtain ⟨w, H', I', rw', sm, ep⟩ := hq
  obtain ⟨_, its, n, rv, hl, e⟩ := I'.lstM (sm _ _ L.kst)
  have hsz : its.toArray.size = ks.length := by rw [List.size_toArray]; exact hl.symm
  refine listUpdate_at e rfl ?_ (by rw [hsz]; omega) (by rw [Array.size_push, hsz]; omega)
  have I2 := I'.lset (f := (·.push z)) (t' := s2.toks) (sm _ _ L.kst) e (its' := its ++ [z]) (by simp) (vals_snoc rv rw') (by rw [List.length_append]; exact hz)
  have kp : Kept kS H' (upd H' kS (.lst (ks ++ [w]))) := Kept.upd
  refine q (ks ++ [w]) _ _ (by rw [List.length_append]; rfl) ⟨I2, fun b o h => ?_, ?_, upd_same, fun j x hj => ?_⟩
  · rw [upd_ne (fun z => by rw [z, h0] at h; cases h)]
    exact sm _ _ (L.same _ _ h)
  · rw [upd_ne hne]
    exact sm _ _ L.at_
  · rcases Nat.lt_or_ge j ks.length with hlt | hge
    · rw [List.getElem?_append_left hlt] at hj
      obtain ⟨d, h1, h2⟩ := L.tell j x hj
      exact ⟨d, h1, dp_keptL (sm _ _ L.kst) kp d _ (hfl d (List.mem_of_getElem? h1)) (dp_same sm d _ h2)⟩
    · rw [List.getElem?_append_right hge] at hj
      have ej : j - ks.length = 0 := by
        have := (List.getElem?_eq_some_iff.mp hj).1
        simp at this
        omega
      rw [ej] at hj
      have ej' : j = ks.length := by omega
      subst ej'
      simp at hj
      subst hj
      exact ⟨pr, hk, dp_keptL (sm _ _ L.kst) kp pr _ (hfl pr (List.mem_of_getElem? hk)) ep⟩
end
end EW
end

section
set_option maxHeartbeats 4000000
namespace EW
open PySem PySem.Spec PyProof.Rows L2
section
variable {X : Cx} {k : Nat} {f a kS : Addr} {KeyOf : Hp → V → PyData → Prop} {pins : List (Addr × Obj)} {σ : L2.St} {H : Hp} {s : Shared} {A : Around} {E : Value → Shared → Prop} {P : PySem.Fin → Shared → Prop}
abbrev Tk : Type := List (Int ⊕ List Nat)
abbrev tkLt (a b : Tk) : Bool := PyProof.Rows.lexLt itemOrd a b
/-- how the values stand behind the sort -/
def OutD (xs : List V) (kz : List PyData) (ys : List V) : Prop := ∃ ps : List (V × Tk), ps.Perm (xs.zip (kz.map W.keyToks)) ∧ ps.Pairwise (fun x y => tkLt y.2 x.2 = false) ∧ ys = ps.map (·.1)
theorem swo_tk (g : Value → Tk) : SrtO.Swo fun v u => tkLt (g v) (g u) := ⟨fun x y h => KeyOrd.klt_asymm (O := listOrd itemOrd) (a := g x) (b := g y) h, fun x y z h1 h2 => KeyOrd.kle_trans (O := listOrd itemOrd) (a := g x) (b := g y) (c := g z) h1 h2⟩
/-- the row of signs of a key -/
noncomputable def tkAt (h : Heap) (kz : List PyData) (v : Value) : Tk := ((W.dataKind h kz).keyOf v).getD []
theorem keysD_reads {e1 : Nat} {kz : List PyData} {ks : List V} {Hi : Hp} {s' : Shared} {us : List Value} (L : KysD X pins σ H a kS e1 kz ks Hi s') (rv : Vals ks us) : ∀ (j : Nat) (u : Value), us[j]? = some u → ∃ d : PyData, kz[j]? = some d ∧ ∃ as, Reads s'.heap u d as := by
  intro j u hu
  have hj : j < ks.length := by rw [rv.length]; exact (List.getElem?_eq_some_iff.mp hu).1
  obtain ⟨d, h1, h2⟩ := L.tell j _ (List.getElem?_eq_getElem hj)
  obtain ⟨u', hu', ru⟩ := rv.get (List.getElem?_eq_getElem hj)
  rw [hu] at hu'
  obtain rfl := Option.some.inj hu'
  exact ⟨d, h1, Dp.reads L.inv d _ _ h2 ru⟩
theorem each_of {h : Heap} : ∀ {us : List Value} {kz : List PyData}, us.length = kz.length → (∀ (j : Nat) (u : Value), us[j]? = some u → ∃ d : PyData, kz[j]? = some d ∧ ∃ as, Reads h u d as) → W.EachIs (fun v d => ∃ as, Reads h v d as) us kz
  | [], [], _, _ => .nil
  | u :: us, d :: kz, hl, hp => by
    obtain ⟨d', e, hr⟩ := hp 0 u rfl
    cases e
    exact .cons hr (each_of (by simpa using hl) fun j w hw => by simpa using hp (j + 1) w (by simpa using hw))
  | [], _ :: _, hl, _ => by simp at hl
  | _ :: _, [], hl, _ => by simp at hl
theorem zip_outD {h : Heap} {kz0 : List PyData} (hal : W.AllAlike kz0) : ∀ {us vs : List Value} {kz : List PyData}, (∀ d ∈ kz, d ∈ kz0) → us.length = vs.length → kz.length = vs.length → (∀ (j : Nat) (u : Value), us[j]? = some u → ∃ d : PyData, kz[j]? = some d ∧ ∃ as, Reads h u d as) →
    (us.zip vs).map (fun p => (backV p.2, tkAt h kz0 p.1)) = (vs.map backV).zip (kz.map W.keyToks)
  | [], [], [], _, _, _, _ => rfl
  | u :: us, v :: vs, pr :: kz, hm, h1, h2, hp => by
    obtain ⟨pr', e, as, hu⟩ := hp 0 u rfl
    cases e
    rw [List.zip_cons_cons, List.map_cons, List.map_cons, List.map_cons, List.zip_cons_cons, zip_outD hal (us := us) (vs := vs) (kz := kz) (fun d hd => hm d (List.mem_cons_of_mem _ hd)) (by simpa using h1) (by simpa using h2) fun j w hw => by simpa using hp (j + 1) w (by simpa using hw)]
    have e : tkAt h kz0 u = W.keyToks pr := by
      unfold tkAt
      rw [W.dataKind_some hal (hm pr List.mem_cons_self) hu]
      rfl
    rw [e]
  | [], _ :: _, _, _, h1, _, _ => by simp at h1
  | _ :: _, [], _, _, h1, _, _ => by simp at h1
  | _, [], _ :: _, _, _, h2, _ => by simp at h2
  | _, _ :: _, [], _, _, h2, _ => by simp at h2
/-- the end: the keys go, the list is filled again -/
theorem sortD_tail {e1 : Nat} {kz : List PyData} {ks xs : List V} {Hi : Hp} {vs us : List Value} {st : SortSt} (hne : a ≠ kS) (ha : H a = none) (h0 : H kS = none) (hal : W.AllAlike kz) (L : KysD X pins σ H a kS e1 kz ks Hi s) (rv : Vals ks us) (r : Vals xs vs) (hx : ∀ x ∈ xs, ∃ b, x = V.ref b)
    (hl : us.length = vs.length) (hk : kz.length = vs.length) (hp : (arrOf st).toList.Perm (us.zip vs)) (hs : SrtO.Srtd (SrtO.lt2 fun v u => tkLt (tkAt s.heap kz v) (tkAt s.heap kz u)) (arrOf st).toList) (hf : failedOf st = none) (hz : xs.length ≤ sizeLine)
    (q : ∀ ys Hn s', OutD xs kz ys → Inv X pins σ Hn s' → Same H Hn → Hn a = some (.lst ys) → P (.done (.ret .none)) s') : wpAny (model X.prog X.w) A (ksk_tail a false e1 (.ref kS) st) P E s := by
  obtain ⟨ex, hr⟩ := refs_back r hx
  have hlen : (arrOf st).size = vs.length := by
    have h1 := hp.length_eq
    rw [Array.length_toList, List.length_zip, hl, Nat.min_self] at h1
    exact h1
  obtain ⟨zk, its, n, rk, hkl, e⟩ := L.inv.lstM L.kst
  have ea : s.heap.get? a = some (seqObj "list" #[] e1) := (L.inv.hok a _ L.at_).1
  unfold ksk_tail
  try dsimp only
  refine wpAny_bind (listUpdate_at e rfl ?_ (by rw [List.size_toArray, ← hkl]; exact zk) (Nat.zero_le _))
  have I1 := L.inv.lset (f := fun _ => #[]) (ys := []) (t' := s.toks) L.kst e (its' := []) rfl .nil (Nat.zero_le _)
  have ea1 : (s.heap.update kS (Obj.mapSeq fun _ => (#[] : Array Value))).get? a = some (seqObj "list" #[] e1) := (Heap.get?_update_other s.heap _ (Ne.symm hne)).trans ea
  refine wpAny_bind (wpAny_letGo ?_)
  refine wpAny_bind (seqEpoch_at ea1 rfl ?_)
  have hout : ((arrOf st).map (·.2)).size = vs.length := by rw [Array.size_map]; exact hlen
  have hvx : vs.length ≤ sizeLine := by rw [← r.length]; exact hz
  refine wpAny_bind (listUpdate_at ea1 rfl ?_ (Nat.zero_le _) (by simp only [Bool.false_eq_true, if_false]; rw [hout]; omega))
  rw [hf]
  simp only [bne_self_eq_false, Bool.false_eq_true, if_false]
  have en : ((s.heap.update kS (Obj.mapSeq fun _ => (#[] : Array Value))).update a (Obj.mapSeq fun _ => (arrOf st).map (·.2))).get? a = some (seqObj "list" ((arrOf st).map (·.2)) _) := get?_update_seq ea1 fun _ => (arrOf st).map (·.2)
  have hrefs : ∀ u ∈ ((arrOf st).map (·.2)).toList, ∃ b, u = Value.ref b := fun u hu => by
    rw [Array.toList_map, List.mem_map] at hu
    obtain ⟨p, hm, rfl⟩ := hu
    exact hr _ (List.of_mem_zip (hp.mem_iff.mp hm)).2
  have hI : (upd Hi kS (.lst [])) a = some (LsO a #[] e1) := by rw [upd_ne hne]; exact L.at_
  refine wpAny_pure (q (((arrOf st).map (·.2)).toList.map backV) _ _ ?_ (I1.write (o := .lst (((arrOf st).map (·.2)).toList.map backV)) (t' := s.toks) (by rw [hI]; exact True.intro) (.inl rfl) (fun b u hb hu => (Heap.get?_update_other _ _ (Ne.symm hb)).trans hu) ⟨_, en⟩ ⟨?_, _, _, vals_back hrefs, by rw [Array.toArray_toList]; exact en⟩) ?_ upd_same)
  · refine ⟨(arrOf st).toList.map (fun p => (backV p.2, tkAt s.heap kz p.1)), ?_, ?_, ?_⟩
    · have z := hp.map (fun p : Keyed => (backV p.2, tkAt s.heap kz p.1))
      rw [zip_outD hal (fun _ h => h) hl hk (keysD_reads L rv), ← ex] at z
      exact z
    · rw [List.pairwise_map]
      exact hs
    · rw [List.map_map, Array.toList_map, List.map_map]
      rfl
  · rw [List.length_map, Array.length_toList, hout]
    exact hvx
  · intro b o h
    rw [upd_ne (fun z => by rw [z, ha] at h; cases h), upd_ne (fun z => by rw [z, h0] at h; cases h)]
    exact L.same _ _ h
end
end EW
end

section
set_option maxHeartbeats 4000000
namespace EW
open PySem PySem.Spec PyProof.Rows L2
/-! ### min(l), sorted(l) of data -/
theorem readsAll_get {h : Heap} : ∀ {us : List Value} {ds : List PyData} {as : List Addr} {i : Nat} {u : Value}, ReadsAll h us ds as → us[i]? = some u → ∃ d bs, ds[i]? = some d ∧ Reads h u d bs
  | _, _, _, _, _, .nil, e => by simp at e
  | _, _, _, 0, u, .cons r t, e => by
    simp at e
    subst e
    exact ⟨_, _, rfl, r⟩
  | _, _, _, i + 1, u, .cons r t, e => by
    obtain ⟨d, bs, h1, h2⟩ := readsAll_get (i := i) (u := u) t (by simpa using e)
    exact ⟨d, bs, by simpa using h1, h2⟩
theorem minD_mem (x : PyData) : ∀ (xs : List PyData), W.minD x xs ∈ x :: xs := by
  intro xs
  unfold W.minD
  induction xs generalizing x with
  | nil => exact List.mem_cons_self
  | cons y ys ih =>
    rw [List.foldl_cons]
    have := ih (if W.dataLt y x then y else x)
    rcases List.mem_cons.mp this with e | e
    · rw [e]
      split
      · exact List.mem_cons_of_mem _ List.mem_cons_self
      · exact List.mem_cons_self
    · exact List.mem_cons_of_mem _ (List.mem_cons_of_mem _ e)
def rMinDt (K : W.Frag) : List V → Hp → VK → Prop := fun vs H Q => ∃ (a : Addr) (xs : List V) (x : PyData) (ds : List PyData), vs = [.ref a] ∧ SqL K H a xs ∧ DpAll K H xs (x :: ds) ∧ W.AlikeAll (x :: ds) ∧ PyData.depthAll (x :: ds) ≤ 8 ∧
  ∀ (i : Nat) (v : V), xs[i]? = some v → (x :: ds)[i]? = some (W.minD x ds) → Q v H
section
variable {X : Cx}
theorem cr_minDt (K : W.Frag) (h : X.K = K) (hc : X.calm = true) (hu : X.A.units + 64 < cLine) : CallR X (.builtin "min") (rMinDt K) := by
  subst h
  intro pins s σ H vs us Q I r h
  obtain ⟨a, xs, x, ds, rfl, hs, hd, ha, hz, q⟩ := h
  obtain ⟨its, rv, hl, _⟩ := I.list hs
  rw [Vals.ref1 r]
  obtain ⟨as, ra⟩ := Dp.readsAll I (x :: ds) xs its hd rv
  refine W.min_list_data (vs := its.toArray) (I.ok.hd hc) hl.isList (by simpa using ra) ha (by omega) fun i u h' tk bs hi hr hk => ?_
  have hi' : its[i]? = some u := by simpa using hi
  have hix : i < xs.length := by rw [rv.length]; exact (List.getElem?_eq_some_iff.mp hi').1
  obtain ⟨u', hu', ru⟩ := rv.get (List.getElem?_eq_getElem hix)
  rw [hi'] at hu'
  obtain rfl := Option.some.inj hu'
  obtain ⟨d, cs, hdi, hrd⟩ := readsAll_get ra hi'
  have e : W.minD x ds = d := W.alike_unique _ _ _ _ _ (ha.1 _ (minD_mem x ds) _ (List.mem_of_getElem? hdi)) hr (PyProof.Rows.Reads.keeps hk hrd)
  exact ⟨xs[i], H, I.kept hk, ru, q i _ (List.getElem?_eq_getElem hix) (by rw [hdi, e])⟩
end
end EW
end

section
set_option maxHeartbeats 4000000
/-! EwMaxD: max(l, default=d), min(l, default=d) of ints. -/
namespace EW
open PySem PySem.Spec PyProof.Rows L2
def rMaxD (K : W.Frag) : List V → List V → Hp → VK → Prop := fun vs zs H Q => ∃ (a : Addr) (ns : List Int) (dv : V), vs = [.ref a] ∧ zs = [dv] ∧ SqL K H a (ns.map V.int) ∧ (ns = [] → Q dv H) ∧ ∀ n r, ns = n :: r → Q (.int (r.foldl max n)) H
def rMinD (K : W.Frag) : List V → List V → Hp → VK → Prop := fun vs zs H Q => ∃ (a : Addr) (ns : List Int) (dv : V), vs = [.ref a] ∧ zs = [dv] ∧ SqL K H a (ns.map V.int) ∧ (ns = [] → Q dv H) ∧ ∀ n r, ns = n :: r → Q (.int (r.foldl min n)) H
theorem ints_alike (ns : List Int) : W.AlikeAll (ns.map PyData.int) := W.alikeAll_datum ns
theorem reads_int {h : Heap} {u : Value} {m : Int} {bs : List Addr} (r : Reads h u (.int m) bs) : ∃ t, u = Value.int m t := by
  cases r
  exact ⟨_, rfl⟩
section
variable {X : Cx}
theorem cr_maxD (K : W.Frag) (h : X.K = K) (hc : X.calm = true) (hu : X.A.units + 64 < cLine) : CallRK X (.builtin "max") [Str.ofString "default"] (rMaxD K) := by
  subst h
  intro pins s σ H vs zs us ws Q I r rz h
  obtain ⟨a, ns, dv, rfl, rfl, hs, q0, q⟩ := h
  obtain ⟨its, rv, hl, _⟩ := I.list hs
  rw [Vals.ref1 r]
  obtain ⟨w1, rfl, e1⟩ := vals1 rz
  obtain ⟨as, ra⟩ := Dp.readsAll I (ns.map PyData.int) (ns.map V.int) its (ints_dp ns) rv
  have hz : PyData.depthAll (ns.map PyData.int) = 0 := ints_depth ns
  refine W.max_list_default (vs := its.toArray) (I.ok.hd hc) hl.isList (by simpa using ra) (ints_alike ns) (by rw [hz]; omega) (fun e h' tk hk => ?_) fun y ys i u h' tk bs e hi hr hk => ?_
  · exact ⟨dv, H, I.kept hk, e1, q0 (List.map_eq_nil_iff.mp e)⟩
  · cases ns with
    | nil => cases e
    | cons n r0 =>
      cases e
      rw [W.maxD_ints] at hr
      obtain ⟨t, rfl⟩ := reads_int hr
      exact ⟨.int (r0.foldl max n), H, I.kept hk, ⟨t, rfl⟩, q n r0 rfl⟩
theorem cr_minD (K : W.Frag) (h : X.K = K) (hc : X.calm = true) (hu : X.A.units + 64 < cLine) : CallRK X (.builtin "min") [Str.ofString "default"] (rMinD K) := by
  subst h
  intro pins s σ H vs zs us ws Q I r rz h
  obtain ⟨a, ns, dv, rfl, rfl, hs, q0, q⟩ := h
  obtain ⟨its, rv, hl, _⟩ := I.list hs
  rw [Vals.ref1 r]
  obtain ⟨w1, rfl, e1⟩ := vals1 rz
  obtain ⟨as, ra⟩ := Dp.readsAll I (ns.map PyData.int) (ns.map V.int) its (ints_dp ns) rv
  have hz : PyData.depthAll (ns.map PyData.int) = 0 := ints_depth ns
  refine W.min_list_default (vs := its.toArray) (I.ok.hd hc) hl.isList (by simpa using ra) (ints_alike ns) (by rw [hz]; omega) (fun e h' tk hk => ?_) fun y ys i u h' tk bs e hi hr hk => ?_
  · exact ⟨dv, H, I.kept hk, e1, q0 (List.map_eq_nil_iff.mp e)⟩
  · cases ns with
    | nil => cases e
    | cons n r0 =>
      cases e
      rw [W.minD_ints] at hr
      obtain ⟨t, rfl⟩ := reads_int hr
      exact ⟨.int (r0.foldl min n), H, I.kept hk, ⟨t, rfl⟩, q n r0 rfl⟩
end
end EW
end

section

namespace EW
open PySem PySem.Spec PyProof.Rows L2
/-- an expression that is not reached -/
theorem pe_nv {X : Cx} {e : Expr} : PE X e (fun _ _ _ => False) := ⟨fun _ _ _ _ _ _ h => h.elim⟩
end EW
end

section
set_option maxHeartbeats 4000000
namespace TM
open PySem PySem.Spec PyProof.Rows L2 EW
abbrev NRndL : List Str := ["_law_period", "_law_residue_here", "_law_low", "_law_high"]
theorem RndL : FnScope NRndL ["_law_period", "_law_residue_here", "_law_low", "_law_high"] (defScope sRndL) := ⟨rfl, rfl, rfl, by decide +kernel, rfl, by decide +kernel, by decide +kernel⟩
abbrev NMeetL : List Str := ["_law_one", "_law_two", "_law_low", "_law_part"]
theorem MeetL : FnScope NMeetL ["_law_one", "_law_two"] (defScope sMeetL) := ⟨rfl, rfl, rfl, by decide +kernel, rfl, by decide +kernel, by decide +kernel⟩
abbrev NPlusL : List Str := ["_law_pair_here", "_law_many", "_law_one"]
theorem PlusL : FnScope NPlusL ["_law_pair_here", "_law_many"] (defScope sPlusL) := ⟨rfl, rfl, rfl, by decide +kernel, rfl, by decide +kernel, by decide +kernel⟩
abbrev NTurned : List Str := ["_law_pair_here"]
theorem Turned : FnScope NTurned ["_law_pair_here"] (defScope sTurned) := ⟨rfl, rfl, rfl, by decide +kernel, rfl, by decide +kernel, by decide +kernel⟩
def spRndL : Sp := fun vs H Q _ => ∃ (p : Int) (r lo hi : Option Int), vs = [.int p, ob r, ob lo, ob hi] ∧ 0 < p ∧ Zn.Res p r ∧ ∀ b : Bool, (b = true ↔ ∃ y, Zn.Lw lo y ∧ Zn.Up hi y ∧ Zn.Cl p r y) → Q (.bl b) H
def spMeetL (K : W.Frag) : Sp := fun vs H Q _ => ∃ (v x : V) (a b : OO), vs = [v, x] ∧ Tp K H v [ob a.1, ob a.2] ∧ Tp K H x [ob b.1, ob b.2] ∧ ∀ u H', Same H H' → Tp K H' u [ob (Zn.grt a.1 b.1), ob (Zn.lst a.2 b.2)] → Q u H'
def spPlusL (K : W.Frag) : Sp := fun vs H Q _ => ∃ (v : V) (a : OO) (m : Int), vs = [v, .int m] ∧ Tp K H v [ob a.1, ob a.2] ∧ ∀ u H', Same H H' → Tp K H' u [ob (Zn.sh m a.1), ob (Zn.sh m a.2)] → Q u H'
def spTurned (K : W.Frag) : Sp := fun vs H Q _ => ∃ (v : V) (a : OO), vs = [v] ∧ Tp K H v [ob a.1, ob a.2] ∧ ∀ u H', Same H H' → Tp K H' u [ob (Zn.ng a.2), ob (Zn.ng a.1)] → Q u H'
theorem ix_same {K : W.Frag} {H : Hp} {v : V} {z : Zn.Z} (h : ZnV K H v z) : ∃ (e a b : Addr) (c : V) (us : List V), v = .ref e ∧ SqT K H e [.ref a, .ref b, c] ∧ SqT K H a (z.vs.map V.str) ∧ SqT K H b us ∧ Sns K H us z.ss ∧ Tp K H c [ob z.g.1, ob z.g.2] := by
  obtain ⟨a, b, c, us, ⟨e, rfl, h1⟩, h2, h3, h4, h5⟩ := h
  exact ⟨e, a, b, c, us, rfl, h1, h2, h3, h4, h5⟩
/-- the bounds that are told -/
def nn (os : List (Option Int)) : List Int := os.flatMap Option.toList
theorem nn_take {os : List (Option Int)} {i : Nat} {o : Option Int} (h : os[i]? = some o) : nn (os.take (i + 1)) = nn (os.take i) ++ o.toList := by
  unfold nn
  rw [List.take_add_one, h, List.flatMap_append]
  simp
theorem nn_two (a b : Option Int) : nn [a, b] = Zn.bnds (a, b) := by simp [nn, Zn.bnds]
theorem nn_len : ∀ os : List (Option Int), (nn os).length ≤ os.length
  | [] => Nat.le_refl _
  | none :: os => Nat.le_succ_of_le (nn_len os)
  | some a :: os => Nat.succ_le_succ (nn_len os)
theorem mx_two (a b : Option Int) : (nn [a, b] = [] → V.non = ob (Zn.grt a b)) ∧ ∀ n r, nn [a, b] = n :: r → V.int (r.foldl max n) = ob (Zn.grt a b) := by
  cases a with
  | none =>
    cases b with
    | none => exact ⟨fun _ => rfl, fun n r e => by cases e⟩
    | some v => exact ⟨fun e => (by cases e), fun n r e => by cases e; rfl⟩
  | some u =>
    cases b with
    | none => exact ⟨fun e => (by cases e), fun n r e => by cases e; rfl⟩
    | some v =>
      refine ⟨fun e => (by cases e), fun n r e => ?_⟩
      cases e
      show V.int (max u v) = V.int (if v > u then v else u)
      congr 1
      split <;> omega
theorem mn_two (a b : Option Int) : (nn [a, b] = [] → V.non = ob (Zn.lst a b)) ∧ ∀ n r, nn [a, b] = n :: r → V.int (r.foldl min n) = ob (Zn.lst a b) := by
  cases a with
  | none =>
    cases b with
    | none => exact ⟨fun _ => rfl, fun n r e => by cases e⟩
    | some v => exact ⟨fun e => (by cases e), fun n r e => by cases e; rfl⟩
  | some u =>
    cases b with
    | none => exact ⟨fun e => (by cases e), fun n r e => by cases e; rfl⟩
    | some v =>
      refine ⟨fun e => (by cases e), fun n r e => ?_⟩
      cases e
      show V.int (min u v) = V.int (if v < u then v else u)
      congr 1
      split <;> omega
theorem rnd_ex {p : Int} (hp : 0 < p) {r lo hi : Option Int} (hr : Zn.Res p r) : (∃ y, Zn.Lw lo y ∧ Zn.Up hi y ∧ Zn.Cl p r y) ↔ ∀ l h, lo = some l → hi = some h → (match r with
    | none => l ≤ h
    | some r => l + (r - l) % p ≤ h) := by
  constructor
  · rintro ⟨y, h1, h2, h3⟩ l h rfl rfl
    have a := h1 l rfl
    have b := h2 h rfl
    cases r with
    | none => exact Int.le_trans a b
    | some r =>
      obtain ⟨r0, r1⟩ := hr r rfl
      exact Int.le_trans ((Rn.upTo_iff r0 r1 (h3 r rfl) l).mpr a) b
  · intro q
    cases lo with
    | none =>
      cases r with
      | none =>
        cases hi with
        | none => exact ⟨0, Zn.lw_none, Zn.up_none, fun _ z => nomatch z⟩
        | some h => exact ⟨h, Zn.lw_none, Zn.up_some.mpr (Int.le_refl _), fun _ z => nomatch z⟩
      | some r =>
        obtain ⟨r0, r1⟩ := hr r rfl
        cases hi with
        | none => exact ⟨r, Zn.lw_none, Zn.up_none, fun i e => by cases e; exact Int.emod_eq_of_lt r0 r1⟩
        | some h => exact ⟨Rn.downTo p r h, Zn.lw_none, Zn.up_some.mpr (Rn.downTo_le hp h).1, fun i e => by cases e; exact Rn.downTo_mod r0 r1 h⟩
    | some l =>
      cases r with
      | none =>
        refine ⟨l, Zn.lw_some.mpr (Int.le_refl _), fun h e => ?_, fun _ z => nomatch z⟩
        exact q l h rfl e
      | some r =>
        obtain ⟨r0, r1⟩ := hr r rfl
        refine ⟨Rn.upTo p r l, Zn.lw_some.mpr (Rn.upTo_le hp l).1, fun h e => ?_, fun i e => by cases e; exact Rn.upTo_mod r0 r1 l⟩
        exact q l h rfl e
section
variable {P : Program} {w : World} {K : W.Frag} {mg : Str → Option Value} {base : Heap}
theorem ok_rndL {fd : FuncData} (F : FnP K "_law_rounded" sRndL fd) (T : Fre mg) : FnOk P w K mg base CX0 1 (He.ga K "_law_rounded") fd ["_law_period", "_law_residue_here", "_law_low", "_law_high"] spRndL := by
  refine F.ok RndL (fun vs H Q E h => ?_) (fun cdv A outer s H vs Q E hr h => ?_)
  · obtain ⟨p, r, lo, hi, rfl, _⟩ := h
    rfl
  · obtain ⟨p, r, lo, hi, rfl, hp, hr', k⟩ := h
    have ex := rnd_ex hp (lo := lo) (hi := hi) hr'
    refine ⟨_, PSs.nox (pss_cons (ps_if (PW.pt (pw_or (pt_cmp (pc_isN (pv 2))) (pw_or1 (pt_cmp (pc_isN (pv 3)))))) (pss_one (ps_ret pe_bl)) pss_nil)
      (pss_cons (ps_if (pt_cmp (pc_isN (pv 1))) (pss_one (ps_ret (pe_cmpR op_le (pv 2) (pv 3) (nomark _)))) pss_nil)
      (pss_one (ps_ret (pe_cmpR op_le (pe_op op_add (pv 2) (pe_op op_mod (pe_callTy call_int1 (by rfl) T.int EW.boot_int (pa_cons (pe_op op_sub (pv 1) (pv 2)) pa_nil)) (pv 0))) (pv 3) (nomark _)))))), ?_⟩
    cases lo with
    | none => exact ⟨_, rfl, _, rfl, iteT (iteT (k true (iff_of_true rfl (ex.mpr fun _ _ z => nomatch z))))⟩
    | some l =>
      cases hi with
      | none => exact ⟨_, rfl, _, rfl, iteF ⟨_, rfl, _, rfl, iteT (k true (iff_of_true rfl (ex.mpr fun _ _ _ z => nomatch z)))⟩⟩
      | some h =>
        cases r with
        | none =>
          refine ⟨_, rfl, _, rfl, iteF ⟨_, rfl, _, rfl, iteF ⟨_, rfl, _, rfl, iteT ⟨_, rfl, _, rfl, _, _, rfl, rfl, k _ ?_⟩⟩⟩⟩
          rw [ex, decide_eq_true_iff]
          exact ⟨fun q l h e1 e2 => by cases e1; cases e2; exact q, fun q => q l h rfl rfl⟩
        | some r =>
          refine ⟨_, rfl, _, rfl, iteF ⟨_, rfl, _, rfl, iteF ⟨_, rfl, _, rfl, iteF ⟨_, rfl, _, rfl, _, rfl, _, _, rfl, rfl, Or.inl ⟨_, rfl, _, rfl, _, _, rfl, rfl, hp, _, _, rfl, rfl, _, rfl, _, _, rfl, rfl, k _ ?_⟩⟩⟩⟩⟩
          rw [ex, decide_eq_true_iff]
          exact ⟨fun q l h e1 e2 => by cases e1; cases e2; exact q, fun q => q l h rfl rfl⟩
theorem ok_meetL {fd : FuncData} (F : FnP K "_law_meet" sMeetL fd) (T : Fre mg) : FnOk P w K mg base CX0 1 (He.ga K "_law_meet") fd ["_law_one", "_law_two"] (spMeetL K) := by
  refine F.ok MeetL (fun vs H Q E h => ?_) (fun cdv A outer s H vs Q E hr h => ?_)
  · obtain ⟨v, x, a, b, rfl, _⟩ := h
    rfl
  · obtain ⟨v, x, ⟨a1, a2⟩, ⟨b1, b2⟩, rfl, ⟨va, rfl, hv⟩, ⟨xa, rfl, hx⟩, k⟩ := h
    refine ⟨_, PSs.nox (pss_cons (ps_cut (ps_set (i := 2) MeetL.nd rfl (Or.inl rfl) (pe_callBK (EW.cr_maxD K rfl rfl hr.units) (by rfl) T.max EW.boot_max (pa_cons (pe_lc (own := [("_law_part", 3)]) (g := gName 3) (tt := _) (by rfl) MeetL.nd (pi_tupK (K := K) rfl (pe_tupS (pa_cons (pe_ix (ix_tupK K rfl) (pv 0) pe_int (fun _ _ => rfl)) (pa_cons (pe_ix (ix_tupK K rfl) (pv 1) pe_int (fun _ _ => rfl)) pa_nil)))) (blkOk_by (own := [("_law_part", 3)]) (N := NMeetL) (sc := defScope sMeetL) (by decide +kernel)) (fun _ _ _ _ _ => (pg_name (i := 3) MeetL.nd rfl (Or.inl rfl))) (fun _ _ _ _ _ => (pts_one (pt_cmp (pc_notN (pv 3))))) (fun _ _ _ _ _ => (pv 3))) pa_nil) (pk_cons pe_non pk_nil))))
      (pss_one (ps_ret (pe_tupS (pa_cons (pv 2) (pa_cons (pe_callBK (EW.cr_minD K rfl rfl hr.units) (by rfl) T.min EW.boot_min (pa_cons (pe_lc (own := [("_law_part", 3)]) (g := gName 3) (tt := _) (by rfl) MeetL.nd (pi_tupK (K := K) rfl (pe_tupS (pa_cons (pe_ix (ix_tupK K rfl) (pv 0) pe_int (fun _ _ => rfl)) (pa_cons (pe_ix (ix_tupK K rfl) (pv 1) pe_int (fun _ _ => rfl)) pa_nil)))) (blkOk_by (own := [("_law_part", 3)]) (N := NMeetL) (sc := defScope sMeetL) (by decide +kernel)) (fun _ _ _ _ _ => (pg_name (i := 3) MeetL.nd rfl (Or.inl rfl))) (fun _ _ _ _ _ => (pts_one (pt_cmp (pc_notN (pv 3))))) (fun _ _ _ _ _ => (pv 3))) pa_nil) (pk_cons pe_non pk_nil)) pa_nil)))))), ?_⟩
    have hbig : (64 : Nat) ≤ sizeLine := by decide
    refine ⟨fun σ' H' => σ' = [some (.ref va), some (.ref xa), some (ob (Zn.grt a1 b1)), none] ∧ Same H H', ?_, ?_⟩
    · refine ⟨_, rfl, va, _, _, _, rfl, rfl, hv, rfl, _, rfl, xa, _, _, _, rfl, rfl, hx, rfl, nil_ ⟨(by show 2 ≤ sizeLine; decide), fun q1 H1 n1 s1 e1 => ?_⟩⟩
      refine ⟨q1, rfl, ⟨_, SqT.of e1⟩, fun D hD => ?_⟩
      refine loop_tup (xs := [a1, b1].map ob) (fun i H' => H' D = some (.lst ((nn ([a1, b1].take i)).map V.int)) ∧ Same H1 H') ⟨upd_same, upd_new hD⟩ ?_ ?_ ?_
      · rintro i H2 _ ⟨_, s2⟩
        exact SqT.same (SqT.of e1) s2
      · rintro i xo H2 ho ⟨eD, s2⟩
        rw [List.getElem?_map] at ho
        obtain ⟨o, hq, rfl⟩ := Option.map_eq_some_iff.mp ho
        refine ⟨rfl, ?_⟩
        refine ⟨_, rfl, _, rfl, ?_⟩
        rw [nn_take hq]
        cases o with
        | none => exact iteF ⟨by rw [eD]; simp, s2⟩
        | some o =>
          refine iteT ⟨_, rfl, ?_⟩
          have l1 := nn_len ([a1, b1].take i)
          rw [List.length_take] at l1
          refine ⟨_, eD, by rw [List.length_map]; have : ([a1, b1] : List (Option Int)).length = 2 := rfl; omega, ?_, same_upd s2 hD⟩
          rw [upd_same, List.map_append]
          rfl
      · rintro H2 ⟨eD, s2⟩
        have eD : H2 D = some (.lst ((nn [a1, b1]).map V.int)) := eD
        refine nil_ ⟨D, _, .non, rfl, rfl, SqL.of eD, fun e => ⟨?_, s1.trans s2⟩, fun n r e => ⟨?_, s1.trans s2⟩⟩
        · rw [← (mx_two a1 b1).1 e]
          rfl
        · rw [← (mx_two a1 b1).2 n r e]
          rfl
    rintro σ' H0 ⟨rfl, s0⟩
    refine ⟨_, rfl, ?_⟩
    refine ⟨_, rfl, va, _, _, _, rfl, rfl, SqT.same hv s0, rfl, _, rfl, xa, _, _, _, rfl, rfl, SqT.same hx s0, rfl, nil_ ⟨(by show 2 ≤ sizeLine; decide), fun q1 H1 n1 s1 e1 => ?_⟩⟩
    · refine ⟨q1, rfl, ⟨_, SqT.of e1⟩, fun D hD => ?_⟩
      refine loop_tup (xs := [a2, b2].map ob) (fun i H' => H' D = some (.lst ((nn ([a2, b2].take i)).map V.int)) ∧ Same H1 H') ⟨upd_same, upd_new hD⟩ ?_ ?_ ?_
      · rintro i H2 _ ⟨_, s2⟩
        exact SqT.same (SqT.of e1) s2
      · rintro i xo H2 ho ⟨eD, s2⟩
        rw [List.getElem?_map] at ho
        obtain ⟨o, hq, rfl⟩ := Option.map_eq_some_iff.mp ho
        refine ⟨rfl, ?_⟩
        refine ⟨_, rfl, _, rfl, ?_⟩
        rw [nn_take hq]
        cases o with
        | none => exact iteF ⟨by rw [eD]; simp, s2⟩
        | some o =>
          refine iteT ⟨_, rfl, ?_⟩
          have l1 := nn_len ([a2, b2].take i)
          rw [List.length_take] at l1
          refine ⟨_, eD, by rw [List.length_map]; have : ([a2, b2] : List (Option Int)).length = 2 := rfl; omega, ?_, same_upd s2 hD⟩
          rw [upd_same, List.map_append]
          rfl
      · rintro H2 ⟨eD, s2⟩
        have eD : H2 D = some (.lst ((nn [a2, b2]).map V.int)) := eD
        refine nil_ ⟨D, _, .non, rfl, rfl, SqL.of eD, fun e => nil_ ⟨(by show 2 ≤ sizeLine; decide), fun q3 H3 n3 s3 e3 => ?_⟩, fun n r e => nil_ ⟨(by show 2 ≤ sizeLine; decide), fun q3 H3 n3 s3 e3 => ?_⟩⟩
        · rw [(mn_two a2 b2).1 e] at e3
          exact k _ H3 (s0.trans (s1.trans (s2.trans s3))) (Tp.of e3)
        · rw [(mn_two a2 b2).2 n r e] at e3
          exact k _ H3 (s0.trans (s1.trans (s2.trans s3))) (Tp.of e3)
theorem ok_plusL {fd : FuncData} (F : FnP K "_law_plus" sPlusL fd) (T : Fre mg) : FnOk P w K mg base CX0 1 (He.ga K "_law_plus") fd ["_law_pair_here", "_law_many"] (spPlusL K) := by
  refine F.ok PlusL (fun vs H Q E h => ?_) (fun cdv A outer s H vs Q E hr h => ?_)
  · obtain ⟨v, a, m, rfl, _⟩ := h
    rfl
  · obtain ⟨v, ⟨a1, a2⟩, m, rfl, ⟨va, rfl, hv⟩, k⟩ := h
    have hbig : (64 : Nat) ≤ sizeLine := by decide
    refine ⟨_, PSs.nox (pss_one (ps_ret (pe_callTy (call_tupS K rfl) (by rfl) T.tuple EW.boot_tuple (pa_cons (pe_lc (own := [("_law_one", 2)]) (g := gName 2) (tt := tYes) (by rfl) PlusL.nd (pi_tupK (K := K) rfl (pv 0)) (blkOk_by (own := [("_law_one", 2)]) (N := NPlusL) (sc := defScope sPlusL) (by decide +kernel)) (fun _ _ _ _ _ => (pg_name (i := 2) PlusL.nd rfl (Or.inl rfl))) (fun _ _ _ _ _ => pts_nil) (fun _ _ _ _ _ => (pe_ifExp (pt_cmp (pc_isN (pv 2))) pe_non (pe_op op_add (pv 2) (pv 1))))) pa_nil)))), ?_⟩
    refine ⟨_, rfl, va, rfl, ⟨_, hv⟩, fun D hD => ?_⟩
    refine loop_tup (xs := [a1, a2].map ob) (fun i H' => H' D = some (.lst (([a1, a2].take i).map fun o => ob (Zn.sh m o))) ∧ Same H H') ⟨upd_same, upd_new hD⟩ ?_ ?_ ?_
    · rintro i H2 _ ⟨_, s2⟩
      exact SqT.same hv s2
    · rintro i xo H2 ho ⟨eD, s2⟩
      rw [List.getElem?_map] at ho
      obtain ⟨o, hq, rfl⟩ := Option.map_eq_some_iff.mp ho
      have hi : i < 2 := (List.getElem?_eq_some_iff.mp hq).1
      refine ⟨rfl, ?_⟩
      refine ⟨_, rfl, _, rfl, ?_⟩
      have fin : ∀ x, x = ob (Zn.sh m o) → ∃ ys, H2 D = some (.lst ys) ∧ ys.length < sizeLine ∧ upd H2 D (.lst (ys ++ [x])) D = some (.lst (([a1, a2].take (i + 1)).map fun o => ob (Zn.sh m o))) ∧ Same H (upd H2 D (.lst (ys ++ [x]))) := fun x e => by
        refine ⟨_, eD, by rw [List.length_map, List.length_take]; omega, ?_, same_upd s2 hD⟩
        rw [upd_same, List.take_add_one, hq, List.map_append, e]
        rfl
      cases o with
      | none => exact iteT (fin _ rfl)
      | some o => exact iteF ⟨_, rfl, _, rfl, _, _, rfl, rfl, fin _ rfl⟩
    · rintro H2 ⟨eD, s2⟩
      have eD : H2 D = some (.lst [ob (Zn.sh m a1), ob (Zn.sh m a2)]) := eD
      exact nil_ ⟨D, _, rfl, SqL.of eD, fun q H3 n3 s3 e3 => k _ H3 (s2.trans s3) (Tp.of e3)⟩
theorem conN {v : V} {σ : L2.St} {H : Hp} {R : V → Hp → Prop} (h : R v H) : tC v σ H R := h
theorem ok_turned {fd : FuncData} (F : FnP K "_law_turned" sTurned fd) (T : Fre mg) : FnOk P w K mg base CX0 1 (He.ga K "_law_turned") fd ["_law_pair_here"] (spTurned K) := by
  refine F.ok Turned (fun vs H Q E h => ?_) (fun cdv A outer s H vs Q E hr h => ?_)
  · obtain ⟨v, a, rfl, _⟩ := h
    rfl
  · obtain ⟨v, ⟨a1, a2⟩, rfl, ⟨va, rfl, hv⟩, k⟩ := h
    have h2 : (2 : Nat) ≤ sizeLine := by decide
    refine ⟨_, PSs.nox (pss_one (ps_ret (pe_tupS (pa_cons (pe_ifExp (pt_cmp (pc_isN (pe_ix (ix_tupK K rfl) (pv 0) pe_int (fun _ _ => rfl)))) pe_non (pe_op op_sub pe_int (pe_ix (ix_tupK K rfl) (pv 0) pe_int (fun _ _ => rfl)))) (pa_cons (pe_ifExp (pt_cmp (pc_isN (pe_ix (ix_tupK K rfl) (pv 0) pe_int (fun _ _ => rfl)))) pe_non (pe_op op_sub pe_int (pe_ix (ix_tupK K rfl) (pv 0) pe_int (fun _ _ => rfl)))) pa_nil))))), ?_⟩
    refine ⟨_, rfl, va, _, _, _, rfl, rfl, hv, rfl, ?_⟩
    have fin : ∀ x, x = ob (Zn.ng a2) → ∀ y, y = ob (Zn.ng a1) → ∀ q H', Same H H' → H' q = some (.tup [x, y]) → Q (.ref q) H' := fun x ex y ey q H' s e => by
      subst ex
      subst ey
      exact k _ H' s (Tp.of e)
    cases a2 with
    | none =>
      refine ⟨_, rfl, iteT ⟨_, rfl, va, _, _, _, rfl, rfl, hv, rfl, ?_⟩⟩
      cases a1 with
      | none => exact ⟨_, rfl, iteT (conN (nil_ ⟨h2, fun q1 H1 n1 s1 e1 => fin _ rfl _ rfl q1 H1 s1 e1⟩))⟩
      | some i => exact ⟨_, rfl, iteF ⟨_, rfl, va, _, _, _, rfl, rfl, hv, rfl, _, _, rfl, rfl, nil_ ⟨h2, fun q1 H1 n1 s1 e1 => fin _ rfl _ (congrArg V.int (Int.zero_sub i)) q1 H1 s1 e1⟩⟩⟩
    | some j =>
      refine ⟨_, rfl, iteF ⟨_, rfl, va, _, _, _, rfl, rfl, hv, rfl, _, _, rfl, rfl, _, rfl, va, _, _, _, rfl, rfl, hv, rfl, ?_⟩⟩
      cases a1 with
      | none => exact ⟨_, rfl, iteT (conN (nil_ ⟨h2, fun q1 H1 n1 s1 e1 => fin _ (congrArg V.int (Int.zero_sub j)) _ rfl q1 H1 s1 e1⟩))⟩
      | some i => exact ⟨_, rfl, iteF ⟨_, rfl, va, _, _, _, rfl, rfl, hv, rfl, _, _, rfl, rfl, nil_ ⟨h2, fun q1 H1 n1 s1 e1 => fin _ (congrArg V.int (Int.zero_sub j)) _ (congrArg V.int (Int.zero_sub i)) q1 H1 s1 e1⟩⟩⟩
end
end TM
end

section
set_option maxHeartbeats 4000000
namespace TM
open PySem PySem.Spec PyProof.Rows L2 EW
abbrev NHasT : List Str := ["_law_period", "_law_zone_here", "_law_place", "_law_time", "_law_spans", "_law_gap", "_law_residue_here", "_law_low", "_law_high", "_law_other", "_law_pair_here"]
theorem HasT : FnScope NHasT ["_law_period", "_law_zone_here", "_law_place", "_law_time"] (defScope sHasT) := ⟨rfl, rfl, rfl, by decide +kernel, rfl, by decide +kernel, by decide +kernel⟩
def spHasT (K : W.Frag) : Sp := fun vs H Q _ => ∃ (p : Int) (v : V) (z : Zn.Z) (i : Nat) (x : Int), vs = [.int p, v, .int (i : Int), .int x] ∧ i < z.ss.length ∧ 0 < p ∧ ZnV K H v z ∧ (∀ s ∈ z.ss, Zn.Res p s.res) ∧ z.ss.length ≤ 2 ∧
  ∀ (b : Bool) (H' : Hp), Same H H' → (b = true ↔ Zn.hasP p z i x) → Q (.bl b) H'
theorem betw_iff {lo hi : Option Int} {t : Int} : betw lo hi t = true ↔ Zn.Bt (lo, hi) t := by
  unfold betw Zn.Bt
  rw [Bool.and_eq_true]
  refine and_congr ?_ ?_
  · cases lo with
    | none => exact iff_of_true rfl Zn.lw_none
    | some l => exact decide_eq_true_iff.trans Zn.lw_some.symm
  · cases hi with
    | none => exact iff_of_true rfl Zn.up_none
    | some l => exact decide_eq_true_iff.trans Zn.up_some.symm
theorem hasP_zero {p : Int} {z : Zn.Z} {x : Int} : Zn.hasP p z 0 x ↔ ∃ r, Zn.InT p z (x :: r) := by
  constructor
  · rintro ⟨ts, h, e⟩
    match ts, e with
    | y :: r, e =>
      cases e
      exact ⟨r, h⟩
  · rintro ⟨r, h⟩
    exact ⟨_, h, rfl⟩
theorem in_head {p : Int} {z : Zn.Z} {i : Nat} {x : Int} {s : Rn.Sp3} (h : Zn.hasP p z i x) (hs : z.ss[i]? = some s) : Zn.Cl p s.res x ∧ Zn.Bt (s.lo, s.hi) x := by
  obtain ⟨ts, h, e⟩ := h
  obtain ⟨vs, ss, g⟩ := z
  match ss, ts, h, i, hs, e with
  | [s1], [y], h, 0, hs, e =>
    cases hs
    cases e
    exact h
  | [s1, s2], [y, y'], h, 0, hs, e =>
    cases hs
    cases e
    exact ⟨h.1, h.2.2.1⟩
  | [s1, s2], [y, y'], h, 1, hs, e =>
    cases hs
    cases e
    exact ⟨h.2.1, h.2.2.2.1⟩
theorem in_only {p : Int} {z : Zn.Z} {i : Nat} {x : Int} {s : Rn.Sp3} (hs : z.ss[i]? = some s) (hl : z.ss.length = 1) (c : Zn.Cl p s.res x) (b : Zn.Bt (s.lo, s.hi) x) : Zn.hasP p z i x := by
  obtain ⟨vs, ss, g⟩ := z
  match ss, hl, i, hs with
  | [s1], _, 0, hs =>
    cases hs
    exact ⟨[x], ⟨c, b⟩, rfl⟩
/-- the gap, seen from a place -/
def gapAt (g : OO) (i : Nat) : OO := if i = 0 then g else (Zn.ng g.2, Zn.ng g.1)
theorem lw_sh {o : Option Int} {x y : Int} : Zn.Lw (Zn.sh x o) y ↔ Zn.Lw o (y - x) := by
  cases o with
  | none => exact iff_of_true Zn.lw_none Zn.lw_none
  | some o =>
    show Zn.Lw (some (o + x)) y ↔ _
    rw [Zn.lw_some, Zn.lw_some]
    omega
theorem up_sh {o : Option Int} {x y : Int} : Zn.Up (Zn.sh x o) y ↔ Zn.Up o (y - x) := by
  cases o with
  | none => exact iff_of_true Zn.up_none Zn.up_none
  | some o =>
    show Zn.Up (some (o + x)) y ↔ _
    rw [Zn.up_some, Zn.up_some]
    omega
theorem lw_ng {o : Option Int} {d : Int} : Zn.Lw (Zn.ng o) d ↔ Zn.Up o (-d) := by
  cases o with
  | none => exact iff_of_true Zn.lw_none Zn.up_none
  | some o =>
    show Zn.Lw (some (-o)) d ↔ _
    rw [Zn.lw_some, Zn.up_some]
    omega
theorem up_ng {o : Option Int} {d : Int} : Zn.Up (Zn.ng o) d ↔ Zn.Lw o (-d) := by
  cases o with
  | none => exact iff_of_true Zn.up_none Zn.lw_none
  | some o =>
    show Zn.Up (some (-o)) d ↔ _
    rw [Zn.lw_some, Zn.up_some]
    omega
theorem one_sub {i : Nat} (h : i < 2) : (1 : Int) - (i : Int) = ((1 - i : Nat) : Int) := by omega
theorem in_more {p : Int} {z : Zn.Z} {i : Nat} {x : Int} {s t : Rn.Sp3} (hi : i < 2) (hs : z.ss[i]? = some s) (ht : z.ss[1 - i]? = some t) (hl : z.ss.length ≤ 2) (c : Zn.Cl p s.res x) (b : Zn.Bt (s.lo, s.hi) x) :
    Zn.hasP p z i x ↔ ∃ y, Zn.Lw (Zn.grt t.lo (Zn.sh x (gapAt z.g i).1)) y ∧ Zn.Up (Zn.lst t.hi (Zn.sh x (gapAt z.g i).2)) y ∧ Zn.Cl p t.res y := by
  obtain ⟨vs, ss, g⟩ := z
  have e2 : ∃ s1 s2, ss = [s1, s2] := by
    match ss, hl, i, hi, hs, ht with
    | [s1, s2], _, _, _, _, _ => exact ⟨s1, s2, rfl⟩
    | [s1], _, 0, _, _, ht => cases ht
    | [s1], _, 1, _, hs, _ => cases hs
  obtain ⟨s1, s2, rfl⟩ := e2
  obtain rfl | rfl : i = 0 ∨ i = 1 := by omega
  · cases hs
    cases ht
    simp only [gapAt, if_true, Zn.lw_grt, Zn.up_lst, lw_sh, up_sh]
    constructor
    · rintro ⟨r, h, e⟩
      match r, h, e with
      | [x', y], ⟨c1, c2, b1, b2, b3⟩, e =>
        cases e
        exact ⟨y, ⟨b2.1, b3.1⟩, ⟨b2.2, b3.2⟩, c2⟩
    · rintro ⟨y, ⟨h1, h2⟩, ⟨h3, h4⟩, h5⟩
      exact ⟨[x, y], ⟨c, h5, b, ⟨h1, h3⟩, h2, h4⟩, rfl⟩
  · cases hs
    cases ht
    have e0 : ∀ y : Int, -(y - x) = x - y := fun y => by omega
    simp only [gapAt, Nat.one_ne_zero, if_false, Zn.lw_grt, Zn.up_lst, lw_sh, up_sh, lw_ng, up_ng, e0]
    constructor
    · rintro ⟨r, h, e⟩
      match r, h, e with
      | [y, x'], ⟨c1, c2, b1, b2, b3⟩, e =>
        cases e
        exact ⟨y, ⟨b1.1, b3.2⟩, ⟨b1.2, b3.1⟩, c1⟩
    · rintro ⟨y, ⟨h1, h2⟩, ⟨h3, h4⟩, h5⟩
      exact ⟨[y, x], ⟨h5, c, ⟨h1, h3⟩, b, h4, h2⟩, rfl⟩
section
variable {P : Program} {w : World} {K : W.Frag} {mg : Str → Option Value} {base : Heap}
theorem ok_hasT {fd : FuncData} (F : FnP K "_law_has_time" sHasT fd) (T : Fre mg) (D_law_between : Df P w K mg base 1 "_law_between" ["_law_one", "_law_pair_here"] (spBetw K)) (D_law_meet : Df P w K mg base 1 "_law_meet" ["_law_one", "_law_two"] (spMeetL K)) (D_law_plus : Df P w K mg base 1 "_law_plus" ["_law_pair_here", "_law_many"] (spPlusL K))
    (D_law_turned : Df P w K mg base 1 "_law_turned" ["_law_pair_here"] (spTurned K)) (D_law_rounded : Df P w K mg base 1 "_law_rounded" ["_law_period", "_law_residue_here", "_law_low", "_law_high"] spRndL) : FnOk P w K mg base CX0 2 (He.ga K "_law_has_time") fd ["_law_period", "_law_zone_here", "_law_place", "_law_time"] (spHasT K) := by
  refine F.ok HasT (fun vs H Q E h => ?_) (fun cdv A outer s H vs Q E hr h => ?_)
  · obtain ⟨p, v, z, i, x, rfl, _⟩ := h
    rfl
  · obtain ⟨p, v, z, i, x, rfl, hiz, hp, hz, hres, l2, k⟩ := h
    obtain ⟨e1, a1, b1, c1, us1, rfl, g11, g12, g13, g14, ⟨cg1, rfl, g15⟩⟩ := ix_same hz
    have hul := Paired.length g14
    have hbig : (64 : Nat) ≤ sizeLine := by decide
    obtain ⟨y0, hy0⟩ : ∃ y, us1[i]? = some y := ⟨_, List.getElem?_eq_getElem (by omega)⟩
    obtain ⟨⟨r, lo, hi⟩, hsp, sx⟩ := pr_get g14 hy0
    obtain ⟨ax, rfl, hX⟩ := id sx
    refine ⟨_, PSs.nox (pss_cons (ps_cut (ps_par (i := 4) (j := 5) (by rfl) HasT.nd rfl rfl (by decide) rfl rfl (pa_cons (pe_ix (ix_tupK K rfl) (pv 1) pe_int (fun _ _ => rfl)) (pa_cons (pe_ix (ix_tupK K rfl) (pv 1) pe_int (fun _ _ => rfl)) pa_nil)) (by rfl)))
      (pss_cons (ps_cut (ps_asg (pe_ix (ix_tupK K rfl) (pv 4) (pv 2) (fun _ _ => rfl)) (pg_tup rfl (pgs_cons (pg_name (i := 6) HasT.nd rfl (Or.inl rfl)) (pgs_cons (pg_name (i := 7) HasT.nd rfl (Or.inl rfl)) (pgs_cons (pg_name (i := 8) HasT.nd rfl (Or.inl rfl)) pgs_nil))))))
      (pss_cons (ps_cut (ps_if (PW.pt (pw_or (pt_not (pt_val (pe_df D_law_between (hr.mono (by decide)) rfl (pa_cons (pv 3) (pa_cons (pe_tupS (pa_cons (pv 7) (pa_cons (pv 8) pa_nil))) pa_nil))))) (pw_or1 (PW.pt (pw_and (pt_cmp (pc_notN (pv 6))) (pw_and1 (pt_cmpR op_ne (pe_op op_mod (pe_callTy call_int1 (by rfl) T.int EW.boot_int (pa_cons (pv 3) pa_nil)) (pv 0)) (pv 6) (nomark _)))))))) (pss_one (ps_ret pe_bl)) pss_nil))
      (pss_cons (ps_cut (ps_if (pt_cmpR op_lt (pe_callB (call_lenK K rfl) (by rfl) T.len PySem.boot_len (pa_cons (pv 4) pa_nil)) pe_int (nomark _)) (pss_one (ps_ret pe_bl)) pss_nil))
      (pss_cons (ps_cut (ps_set (i := 9) HasT.nd rfl (Or.inl rfl) (pe_ix (ix_tupK K rfl) (pv 4) (pe_op op_sub pe_int (pv 2)) (fun _ _ => rfl))))
      (pss_cons (ps_cut (ps_set (i := 10) HasT.nd rfl (Or.inl rfl) (pe_df D_law_meet (hr.mono (by decide)) rfl (pa_cons (pe_slice (sl_tupS K rfl) (pv 9) (po_some pe_int) po_none) (pa_cons (pe_df D_law_plus (hr.mono (by decide)) rfl (pa_cons (pe_ifExp (pt_cmpR op_eq (pv 2) pe_int (nomark _)) (pv 5) (pe_df D_law_turned (hr.mono (by decide)) rfl (pa_cons (pv 5) pa_nil))) (pa_cons (pv 3) pa_nil))) pa_nil)))))
      (pss_one (ps_ret (pe_df D_law_rounded (hr.mono (by decide)) rfl (pa_cons (pv 0) (pa_cons (pe_ix (ix_tupK K rfl) (pv 9) pe_int (fun _ _ => rfl)) (pa_cons (pe_ix (ix_tupK K rfl) (pv 10) pe_int (fun _ _ => rfl)) (pa_cons (pe_ix (ix_tupK K rfl) (pv 10) pe_int (fun _ _ => rfl)) pa_nil))))))))))))), ?_⟩
    refine ⟨fun σ' H' => σ' = [some (.int p), some (.ref e1), some (.int (i : Int)), some (.int x), some (.ref b1), some (.ref cg1), none, none, none, none, none] ∧ H' = H, ?_, ?_⟩
    · exact ⟨_, rfl, e1, _, _, _, rfl, rfl, g11, rfl, _, rfl, e1, _, _, _, rfl, rfl, g11, rfl, nil_ ⟨_, _, rfl, rfl, rfl⟩⟩
    rintro σ' H0 ⟨rfl, rfl⟩
    refine ⟨fun σ' H' => σ' = [some (.int p), some (.ref e1), some (.int (i : Int)), some (.int x), some (.ref b1), some (.ref cg1), some (ob r), some (ob lo), some (ob hi), none, none] ∧ H' = H0, ?_, ?_⟩
    · refine ⟨_, rfl, _, rfl, b1, _, _, _, rfl, rfl, g13, atI_nat (j := i) hy0, ?_⟩
      exact ⟨ax, _, rfl, hX, rfl, _, _, rfl, _, _, rfl, _, _, rfl, rfl, rfl, rfl⟩
    rintro σ' H0' ⟨rfl, rfl⟩
    refine ⟨fun σ' H' => σ' = [some (.int p), some (.ref e1), some (.int (i : Int)), some (.int x), some (.ref b1), some (.ref cg1), some (ob r), some (ob lo), some (ob hi), none, none] ∧ Same H0' H' ∧ Zn.Cl p r x ∧ Zn.Bt (lo, hi) x, ?_, ?_⟩
    · refine ⟨_, rfl, _, rfl, _, rfl, (by show 2 ≤ sizeLine; decide), fun q1 H1 n1 s1 q1e => nil_ ⟨x, _, lo, hi, rfl, Tp.of q1e, _, rfl, ?_⟩⟩
      have bad : ¬ (Zn.Cl p r x ∧ Zn.Bt (lo, hi) x) → (false = true ↔ Zn.hasP p z i x) := fun q => ⟨(fun z => nomatch z), fun h => absurd (in_head h hsp) q⟩
      cases hb : betw lo hi x with
      | false =>
        have nb : ¬ Zn.Bt (lo, hi) x := fun q => by
          rw [betw_iff.mpr q] at hb
          cases hb
        refine iteT (iteT ?_)
        exact k false _ s1 (bad fun q => nb q.2)
      | true =>
        have hb := betw_iff.mp hb
        refine iteF ?_
        cases r with
        | none => exact ⟨_, rfl, _, rfl, iteN rfl (iteN rfl ⟨rfl, s1, (fun _ z => nomatch z), hb⟩)⟩
        | some r =>
          refine ⟨_, rfl, _, rfl, iteD rfl ⟨_, rfl, Or.inl ⟨_, rfl, _, rfl, _, _, rfl, rfl, hp, _, rfl, rfl, _, rfl, ?_⟩⟩⟩
          by_cases c : x % p = r
          · refine iteN (by simp [ob, c]) ⟨rfl, s1, fun i e => ?_, hb⟩
            cases e
            exact c
          · refine iteD (by simp [ob, c]) ?_
            exact k false _ s1 (bad fun q => c (q.1 r rfl))
    rintro σ' H1 ⟨rfl, s1, hc, hb⟩
    refine ⟨fun σ' H' => σ' = [some (.int p), some (.ref e1), some (.int (i : Int)), some (.int x), some (.ref b1), some (.ref cg1), some (ob r), some (ob lo), some (ob hi), none, none] ∧ H' = H1 ∧ z.ss.length = 2, ?_, ?_⟩
    · refine ⟨_, rfl, _, _, rfl, .inr ⟨_, SqT.same g13 s1, rfl⟩, _, _, rfl, rfl, _, rfl, ite2 (fun c => ?_) fun c => ?_⟩
      · have c : us1.length < 2 := by simp at c; omega
        exact k true _ s1 (iff_of_true rfl (in_only hsp (by omega) hc hb))
      · have c : ¬ us1.length < 2 := fun q => c (by simp; omega)
        exact ⟨rfl, rfl, by omega⟩
    rintro σ' H1' ⟨rfl, rfl, l22⟩
    have hi2 : i < 2 := by omega
    obtain ⟨y1, hy1⟩ : ∃ y, us1[1 - i]? = some y := ⟨_, List.getElem?_eq_getElem (by omega)⟩
    obtain ⟨⟨r2, lo2, hh2⟩, hsp2, sx2⟩ := pr_get g14 hy1
    obtain ⟨ax2, rfl, hX2⟩ := id sx2
    refine ⟨fun σ' H' => σ' = [some (.int p), some (.ref e1), some (.int (i : Int)), some (.int x), some (.ref b1), some (.ref cg1), some (ob r), some (ob lo), some (ob hi), some (.ref ax2), none] ∧ H' = H1', ?_, ?_⟩
    · refine ⟨_, rfl, _, rfl, _, _, rfl, rfl, b1, _, _, _, rfl, rfl, SqT.same g13 s1, (by rw [one_sub hi2]; exact atI_nat (j := 1 - i) hy1), rfl, rfl⟩
    rintro σ' H1 ⟨rfl, rfl⟩
    refine ⟨fun σ' H' => ∃ pa : Addr, σ' = [some (.int p), some (.ref e1), some (.int (i : Int)), some (.int x), some (.ref b1), some (.ref cg1), some (ob r), some (ob lo), some (ob hi), some (.ref ax2), some (.ref pa)] ∧ Same H1 H' ∧ SqT K H' pa [ob (Zn.grt lo2 (Zn.sh x (gapAt z.g i).1)), ob (Zn.lst hh2 (Zn.sh x (gapAt z.g i).2))], ?_, ?_⟩
    · refine ⟨_, rfl, _, rfl, ax2, _, rfl, SqT.same hX2 s1, (fun ⟨z, _⟩ => by rw [show HT.sIx _ 0 (some 1) = _ from HT.sIx_nat _ 0 1] at z; cases z), fun q2 H2 n2 s2 e2 => ?_⟩
      have hg : ∀ H0, Same H2 H0 → Tp K H0 (.ref cg1) [ob z.g.1, ob z.g.2] := fun H0 s0 => ⟨_, rfl, SqT.same g15 (s1.trans (s2.trans s0))⟩
      refine ⟨_, rfl, rfl, _, rfl, ?_⟩
      obtain h0 | h1 : i = 0 ∨ i = 1 := by omega
      · have e0 : gapAt z.g i = z.g := by
          subst h0
          rfl
        refine iteD (by subst h0; rfl) ⟨_, rfl, _, rfl, nil_ ⟨_, gapAt z.g i, x, rfl, (by rw [e0]; exact hg H2 (Same.refl H2)), fun u H4 s4 hu4 => nil_ ⟨.ref q2, u, (lo2, hh2), (Zn.sh x (gapAt z.g i).1, Zn.sh x (gapAt z.g i).2), rfl, Tp.of (((Same.refl H2).trans s4) _ _ e2), hu4, fun u' H5 s5 hu' => by
            obtain ⟨pa, rfl, hpa⟩ := hu'
            exact ⟨pa, rfl, s2.trans ((Same.refl H2).trans (s4.trans s5)), hpa⟩⟩⟩⟩
      · have e1 : gapAt z.g i = (Zn.ng z.g.2, Zn.ng z.g.1) := by
          subst h1
          rfl
        refine iteN (by subst h1; rfl) ⟨_, rfl, .ref cg1, z.g, rfl, hg H2 (Same.refl H2), fun u0 H3 s3 hu => ⟨_, rfl, nil_ ⟨u0, gapAt z.g i, x, rfl, (by rw [e1]; exact hu), fun u H4 s4 hu4 => nil_ ⟨.ref q2, u, (lo2, hh2), (Zn.sh x (gapAt z.g i).1, Zn.sh x (gapAt z.g i).2), rfl, Tp.of ((s3.trans s4) _ _ e2), hu4, fun u' H5 s5 hu' => by
            obtain ⟨pa, rfl, hpa⟩ := hu'
            exact ⟨pa, rfl, s2.trans (s3.trans (s4.trans s5)), hpa⟩⟩⟩⟩⟩
    rintro σ' H2 ⟨pa, rfl, s2, hpa⟩
    have s12 := s1.trans s2
    refine ⟨_, rfl, _, rfl, ax2, _, _, _, rfl, rfl, SqT.same hX2 s12, rfl, _, rfl, pa, _, _, _, rfl, rfl, hpa, rfl, _, rfl, pa, _, _, _, rfl, rfl, hpa, rfl, nil_ ⟨p, r2, _, _, rfl, hp, hres _ (List.mem_of_getElem? hsp2), fun b hb' => k b H2 s12 ?_⟩⟩
    rw [hb', in_more hi2 hsp hsp2 l2 hc hb]
end
end TM
end

section
set_option maxHeartbeats 4000000
namespace TM
open PySem PySem.Spec PyProof.Rows L2 EW
abbrev NHasG : List Str := ["_law_period", "_law_zone_here", "_law_many", "_law_one", "_law_two", "_law_residue_here", "_law_other", "_law_pair_here"]
theorem HasG : FnScope NHasG ["_law_period", "_law_zone_here", "_law_many"] (defScope sHasG) := ⟨rfl, rfl, rfl, by decide +kernel, rfl, by decide +kernel, by decide +kernel⟩
def spHasG (K : W.Frag) : Sp := fun vs H Q _ => ∃ (p : Int) (v : V) (z : Zn.Z) (d : Int), vs = [.int p, v, .int d] ∧ z.ss.length = 2 ∧ 0 < p ∧ ZnV K H v z ∧ (∀ s ∈ z.ss, Zn.Res p s.res) ∧
  ∀ (b : Bool) (H' : Hp), Same H H' → (b = true ↔ Zn.hasG p z d) → Q (.bl b) H'
theorem pair_of {α β : Type} {F : α → β → Prop} {us : List α} {s t : β} (h : Paired F us [s, t]) : ∃ u v, us = [u, v] ∧ F u s ∧ F v t := by
  cases h with
  | cons a h =>
    cases h with
    | cons b h =>
      cases h
      exact ⟨_, _, rfl, a, b⟩
/-- the other one's residue, moved back -/
def oth (p : Int) (r : Option Int) (d : Int) : Option Int := r.map fun b => (b - d) % p
theorem cl_oth {p : Int} (hp : 0 < p) {r : Option Int} {d x : Int} (hr : Zn.Res p r) : Zn.Cl p (oth p r d) x ↔ Zn.Cl p r (x + d) := by
  cases r with
  | none => exact ⟨(fun _ _ h => nomatch h), (fun _ _ h => nomatch h)⟩
  | some b =>
    obtain ⟨b0, b1⟩ := hr b rfl
    have eb : b % p = b := Int.emod_eq_of_lt b0 b1
    constructor
    · intro h i hi
      cases hi
      have h := h _ rfl
      rw [Int.add_emod, h, ← Int.add_emod, show b - d + d = b by omega, eb]
    · intro h i hi
      have hi : some ((b - d) % p) = some i := hi
      cases hi
      have h := h b rfl
      rw [show x = x + d - d by omega, Int.sub_emod, h, Int.sub_emod b d p, eb]
theorem gap_iff {p : Int} (hp : 0 < p) {z : Zn.Z} {s t : Rn.Sp3} (e : z.ss = [s, t]) (ht : Zn.Res p t.res) {d : Int} : Zn.hasG p z d ↔ Zn.Bt z.g d ∧ ∃ x, Zn.Lw (Zn.grt s.lo (Zn.sh (0 - d) t.lo)) x ∧ Zn.Up (Zn.lst s.hi (Zn.sh (0 - d) t.hi)) x ∧ Zn.Cl p s.res x ∧ Zn.Cl p (oth p t.res d) x := by
  obtain ⟨vs, ss, g⟩ := z
  subst e
  have e0 : ∀ x : Int, x - (0 - d) = x + d := fun x => by omega
  simp only [Zn.lw_grt, Zn.up_lst, lw_sh, up_sh, e0, cl_oth hp ht]
  constructor
  · rintro ⟨x, y, ⟨c1, c2, b1, b2, b3⟩, rfl⟩
    have e1 : x + (y - x) = y := by omega
    exact ⟨b3, x, ⟨b1.1, by rw [e1]; exact b2.1⟩, ⟨b1.2, by rw [e1]; exact b2.2⟩, c1, by rw [e1]; exact c2⟩
  · rintro ⟨b3, x, ⟨h1, h2⟩, ⟨h3, h4⟩, c1, c2⟩
    have e1 : x + d - x = d := by omega
    refine ⟨x, x + d, ⟨c1, c2, ⟨h1, h3⟩, ⟨h2, h4⟩, ?_⟩, e1⟩
    show Zn.Bt _ (x + d - x)
    rw [e1]
    exact b3
section
variable {P : Program} {w : World} {K : W.Frag} {mg : Str → Option Value} {base : Heap}
theorem ok_hasG {fd : FuncData} (F : FnP K "_law_has_gap" sHasG fd) (T : Fre mg) (D_law_between : Df P w K mg base 1 "_law_between" ["_law_one", "_law_pair_here"] (spBetw K)) (D_law_meet : Df P w K mg base 1 "_law_meet" ["_law_one", "_law_two"] (spMeetL K)) (D_law_plus : Df P w K mg base 1 "_law_plus" ["_law_pair_here", "_law_many"] (spPlusL K))
    (D_law_rounded : Df P w K mg base 1 "_law_rounded" ["_law_period", "_law_residue_here", "_law_low", "_law_high"] spRndL) : FnOk P w K mg base CX0 2 (He.ga K "_law_has_gap") fd ["_law_period", "_law_zone_here", "_law_many"] (spHasG K) := by
  refine F.ok HasG (fun vs H Q E h => ?_) (fun cdv A outer s H vs Q E hr h => ?_)
  · obtain ⟨p, v, z, d, rfl, _⟩ := h
    rfl
  · obtain ⟨p, v, z, d, rfl, l2, hp, hz, hres, k⟩ := h
    obtain ⟨⟨r1, lo1, hh1⟩, ⟨r2, lo2, hh2⟩, hss⟩ : ∃ s t, z.ss = [s, t] := by
      match z.ss, l2 with
      | [s, t], _ => exact ⟨s, t, rfl⟩
    obtain ⟨e1, a1, b1, c1, us1, rfl, g11, g12, g13, g14, ⟨cg1, rfl, g15⟩⟩ := ix_same hz
    rw [hss] at g14
    obtain ⟨y0, y1, rfl, ⟨ax1, rfl, hX1⟩, ⟨ax2, rfl, hX2⟩⟩ := pair_of g14
    have hr1 : Zn.Res p r1 := hres ⟨r1, lo1, hh1⟩ (by rw [hss]; simp)
    have hr2 : Zn.Res p r2 := hres ⟨r2, lo2, hh2⟩ (by rw [hss]; simp)
    have iff0 := gap_iff hp hss hr2 (d := d)
    have hbig : (64 : Nat) ≤ sizeLine := by decide
    refine ⟨_, PSs.nox (pss_cons (ps_cut (ps_asg (pe_ix (ix_tupK K rfl) (pv 1) pe_int (fun _ _ => rfl)) (pg_tup rfl (pgs_cons (pg_name (i := 3) HasG.nd rfl (Or.inl rfl)) (pgs_cons (pg_name (i := 4) HasG.nd rfl (Or.inl rfl)) pgs_nil)))))
      (pss_cons (ps_cut (ps_if (pt_not (pt_val (pe_df D_law_between (hr.mono (by decide)) rfl (pa_cons (pv 2) (pa_cons (pe_ix (ix_tupK K rfl) (pv 1) pe_int (fun _ _ => rfl)) pa_nil))))) (pss_one (ps_ret pe_bl)) pss_nil))
      (pss_cons (ps_cut (ps_set (i := 5) HasG.nd rfl (Or.inl rfl) (pe_ix (ix_tupK K rfl) (pv 3) pe_int (fun _ _ => rfl))))
      (pss_cons (ps_cut (ps_if (pt_cmp (pc_notN (pe_ix (ix_tupK K rfl) (pv 4) pe_int (fun _ _ => rfl)))) (pss_cons (ps_set (i := 6) HasG.nd rfl (Or.inl rfl) (pe_op op_mod (pe_callTy call_int1 (by rfl) T.int EW.boot_int (pa_cons (pe_op op_sub (pe_ix (ix_tupK K rfl) (pv 4) pe_int (fun _ _ => rfl)) (pv 2)) pa_nil)) (pv 0)))
      (pss_cons (ps_if (PW.pt (pw_and (pt_cmp (pc_notN (pv 5))) (pw_and1 (pt_cmpR op_ne (pv 5) (pv 6) (nomark _))))) (pss_one (ps_ret pe_bl)) pss_nil)
      (pss_one (ps_set (i := 5) HasG.nd rfl (Or.inl rfl) (pv 6))))) pss_nil))
      (pss_cons (ps_cut (ps_set (i := 7) HasG.nd rfl (Or.inl rfl) (pe_df D_law_meet (hr.mono (by decide)) rfl (pa_cons (pe_slice (sl_tupS K rfl) (pv 3) (po_some pe_int) po_none) (pa_cons (pe_df D_law_plus (hr.mono (by decide)) rfl (pa_cons (pe_slice (sl_tupS K rfl) (pv 4) (po_some pe_int) po_none) (pa_cons (pe_op op_sub pe_int (pv 2)) pa_nil))) pa_nil)))))
      (pss_one (ps_ret (pe_df D_law_rounded (hr.mono (by decide)) rfl (pa_cons (pv 0) (pa_cons (pv 5) (pa_cons (pe_ix (ix_tupK K rfl) (pv 7) pe_int (fun _ _ => rfl)) (pa_cons (pe_ix (ix_tupK K rfl) (pv 7) pe_int (fun _ _ => rfl)) pa_nil)))))))))))), ?_⟩
    refine ⟨fun σ' H' => σ' = [some (.int p), some (.ref e1), some (.int d), some (.ref ax1), some (.ref ax2), none, none, none] ∧ H' = H, ?_, ?_⟩
    · exact ⟨_, rfl, e1, _, _, _, rfl, rfl, g11, rfl, b1, _, rfl, g13, rfl, _, _, rfl, _, _, rfl, rfl, rfl, rfl⟩
    rintro σ' H0 ⟨rfl, rfl⟩
    refine ⟨fun σ' H' => σ' = [some (.int p), some (.ref e1), some (.int d), some (.ref ax1), some (.ref ax2), none, none, none] ∧ H' = H0 ∧ Zn.Bt z.g d, ?_, ?_⟩
    · refine ⟨_, rfl, _, rfl, e1, _, _, _, rfl, rfl, g11, rfl, nil_ ⟨d, _, z.g.1, z.g.2, rfl, ⟨cg1, rfl, g15⟩, ?_⟩⟩
      refine ⟨_, rfl, ?_⟩
      cases hb : betw z.g.1 z.g.2 d with
      | false =>
        refine iteT (k false _ (Same.refl _) ⟨(fun z => nomatch z), fun h => ?_⟩)
        rw [betw_iff.mpr (iff0.mp h).1] at hb
        cases hb
      | true => exact iteF ⟨rfl, rfl, betw_iff.mp hb⟩
    rintro σ' H0' ⟨rfl, rfl, hb⟩
    refine ⟨fun σ' H' => σ' = [some (.int p), some (.ref e1), some (.int d), some (.ref ax1), some (.ref ax2), some (ob r1), none, none] ∧ H' = H0', ?_, ?_⟩
    · exact ⟨_, rfl, ax1, _, _, _, rfl, rfl, hX1, rfl, rfl, rfl⟩
    rintro σ' H0 ⟨rfl, rfl⟩
    refine ⟨fun σ' H' => ∃ (rr : Option Int) (u6 : Option V), σ' = [some (.int p), some (.ref e1), some (.int d), some (.ref ax1), some (.ref ax2), some (ob rr), u6, none] ∧ H' = H0 ∧ Zn.Res p rr ∧ ∀ x, Zn.Cl p rr x ↔ Zn.Cl p r1 x ∧ Zn.Cl p (oth p r2 d) x, ?_, ?_⟩
    · refine ⟨_, rfl, ax2, _, _, _, rfl, rfl, hX2, rfl, ?_⟩
      cases r2 with
      | none => exact ⟨_, rfl, iteF ⟨r1, none, rfl, rfl, hr1, fun x => ⟨fun h => ⟨h, fun _ z => nomatch z⟩, fun h => h.1⟩⟩⟩
      | some c =>
        have eo : oth p (some c) d = some ((c - d) % p) := rfl
        refine ⟨_, rfl, iteT ?_⟩
        refine ⟨_, rfl, ax2, _, _, _, rfl, rfl, hX2, rfl, _, rfl, _, _, rfl, rfl, nil_ ?_⟩
        refine Or.inl ⟨_, rfl, _, rfl, _, _, rfl, rfl, hp, ?_⟩
        have h0 := Int.emod_nonneg (c - d) (show p ≠ 0 by omega)
        have h1 := Int.emod_lt_of_pos (c - d) hp
        cases r1 with
        | none =>
          refine ⟨_, rfl, _, rfl, iteF ?_⟩
          exact ⟨_, rfl, some ((c - d) % p), _, rfl, rfl, fun i e => by cases e; exact ⟨h0, h1⟩, fun x => ⟨fun h => ⟨(fun _ z => nomatch z), h⟩, fun h => h.2⟩⟩
        | some a =>
          refine ⟨_, rfl, _, rfl, iteT ⟨_, rfl, _, rfl, rfl, _, rfl, ?_⟩⟩
          by_cases cc : a = (c - d) % p
          · refine iteN (by simp [ob, cc]) ⟨_, rfl, some ((c - d) % p), _, rfl, rfl, fun i e => by cases e; exact ⟨h0, h1⟩, fun x => ⟨fun h => ⟨by rw [cc]; exact h, h⟩, fun h => h.2⟩⟩
          · refine iteD (by simp [ob, cc]) (k false _ (Same.refl _) ⟨(fun z => nomatch z), fun h => ?_⟩)
            obtain ⟨_, x, _, _, q1, q2⟩ := iff0.mp h
            exact (cc ((q1 a rfl).symm.trans (q2 _ rfl))).elim
    rintro σ' H0' ⟨rr, u6, rfl, rfl, hrr, hcl⟩
    refine ⟨fun σ' H' => ∃ (rr : Option Int) (u6 : Option V) (pa : Addr), σ' = [some (.int p), some (.ref e1), some (.int d), some (.ref ax1), some (.ref ax2), some (ob rr), u6, some (.ref pa)] ∧ Same H0' H' ∧ SqT K H' pa [ob (Zn.grt lo1 (Zn.sh (0 - d) lo2)), ob (Zn.lst hh1 (Zn.sh (0 - d) hh2))] ∧ Zn.Res p rr ∧ ∀ x, Zn.Cl p rr x ↔ Zn.Cl p r1 x ∧ Zn.Cl p (oth p r2 d) x, ?_, ?_⟩
    · refine ⟨_, rfl, _, rfl, ax1, _, rfl, hX1, (fun ⟨z, _⟩ => by rw [show HT.sIx _ 0 (some 1) = _ from HT.sIx_nat _ 0 1] at z; cases z), fun q2 H2 n2 s2 e2 => ?_⟩
      refine ⟨_, rfl, _, rfl, ax2, _, rfl, SqT.same hX2 s2, (fun ⟨z, _⟩ => by rw [show HT.sIx _ 0 (some 1) = _ from HT.sIx_nat _ 0 1] at z; cases z), fun q3 H3 n3 s3 e3 => ?_⟩
      refine ⟨_, rfl, _, _, rfl, rfl, nil_ ⟨.ref q3, (lo2, hh2), 0 - d, rfl, Tp.of e3, fun u H4 s4 hu4 => nil_ ⟨.ref q2, u, (lo1, hh1), (Zn.sh (0 - d) lo2, Zn.sh (0 - d) hh2), rfl, Tp.of ((s3.trans s4) _ _ e2), hu4, fun u' H5 s5 hu' => ?_⟩⟩⟩
      obtain ⟨pa, rfl, hpa⟩ := hu'
      exact ⟨rr, u6, pa, rfl, s2.trans (s3.trans (s4.trans s5)), hpa, hrr, hcl⟩
    rintro σ' H2 ⟨rr, u6, pa, rfl, s2, hpa, hrr, hcl⟩
    refine ⟨_, rfl, _, rfl, _, rfl, pa, _, _, _, rfl, rfl, hpa, rfl, _, rfl, pa, _, _, _, rfl, rfl, hpa, rfl, nil_ ⟨p, rr, _, _, rfl, hp, hrr, fun b hb' => k b H2 s2 ?_⟩⟩
    rw [hb', iff0]
    exact ⟨fun ⟨x, h1, h2, h3⟩ => ⟨hb, x, h1, h2, (hcl x).mp h3⟩, fun ⟨_, x, h1, h2, h3⟩ => ⟨x, h1, h2, (hcl x).mpr h3⟩⟩
end
end TM
end

section
set_option maxHeartbeats 4000000
namespace TM
open PySem PySem.Spec PyProof.Rows L2 EW
abbrev NKnown : List Str := ["_law_zone_here", "_law_found", "_law_spans", "_law_gap", "_law_span_here", "_law_one", "_law_bound_here"]
theorem Known : FnScope NKnown ["_law_zone_here"] (defScope sKnown) := ⟨rfl, rfl, rfl, by decide +kernel, rfl, by decide +kernel, by decide +kernel⟩
def spKnown (K : W.Frag) : Sp := fun vs H Q _ => ∃ (v : V) (z : Zn.Z), vs = [v] ∧ ZnV K H v z ∧ z.ss.length ≤ 2 ∧ ∀ (l : Addr) (H' : Hp), H l = none → Same H H' → H' l = some (.lst ((Zn.known z).map V.int)) → Q (.ref l) H'
theorem bnds_len (q : OO) : (Zn.bnds q).length ≤ 2 := by
  obtain ⟨a, b⟩ := q
  have := nn_len [a, b]
  rw [nn_two] at this
  exact this
def kn1 (ss : List Rn.Sp3) : List Int := (ss.map fun s => Zn.bnds (s.lo, s.hi)).flatten
theorem kn1_take {ss : List Rn.Sp3} {i : Nat} {s : Rn.Sp3} (h : ss[i]? = some s) : kn1 (ss.take (i + 1)) = kn1 (ss.take i) ++ Zn.bnds (s.lo, s.hi) := by
  unfold kn1
  rw [List.take_add_one, h, List.map_append, List.flatten_append]
  simp
theorem kn1_len : ∀ ss : List Rn.Sp3, (kn1 ss).length ≤ 2 * ss.length
  | [] => Nat.le_refl _
  | s :: ss => by
    have h1 := kn1_len ss
    have h2 := bnds_len (s.lo, s.hi)
    show ((Zn.bnds (s.lo, s.hi)) ++ kn1 ss).length ≤ 2 * (ss.length + 1)
    rw [List.length_append]
    omega
abbrev kn2 (s t : Rn.Sp3) (u : Int) : List Int := (Zn.bnds (s.lo, s.hi)).map (fun b => u + b) ++ (Zn.bnds (t.lo, t.hi)).map fun b => b - u
theorem kn2_len (s t : Rn.Sp3) (us : List Int) : (us.flatMap (kn2 s t)).length ≤ 4 * us.length := by
  induction us with
  | nil => exact Nat.le_refl _
  | cons u us ih =>
    have h1 := bnds_len (s.lo, s.hi)
    have h2 := bnds_len (t.lo, t.hi)
    rw [List.flatMap_cons, List.length_append, List.length_append, List.length_map, List.length_map, List.length_cons]
    omega
theorem known_few {z : Zn.Z} (h : z.ss.length ≠ 2) : Zn.known z = 0 :: kn1 z.ss := by
  obtain ⟨vs, ss, g⟩ := z
  unfold Zn.known kn1
  match ss, h with
  | [], _ => rfl
  | [s], _ => simp
  | [s, t], h => exact absurd rfl h
  | s :: t :: r :: q, _ => simp
theorem known_two {z : Zn.Z} {s t : Rn.Sp3} (h : z.ss = [s, t]) : Zn.known z = 0 :: (kn1 z.ss ++ (Zn.bnds z.g).flatMap (kn2 s t)) := by
  obtain ⟨vs, ss, g⟩ := z
  subst h
  rfl
theorem both_of {α : Type} : ∀ {l : List α}, l.length = 2 → ∃ a b, l = [a, b]
  | [a, b], _ => ⟨a, b, rfl⟩
section
variable {P : Program} {w : World} {K : W.Frag} {mg : Str → Option Value} {base : Heap}
theorem ok_known {fd : FuncData} (F : FnP K "_law_known" sKnown fd) (T : Fre mg) : FnOk P w K mg base CX0 1 (He.ga K "_law_known") fd ["_law_zone_here"] (spKnown K) := by
  refine F.ok Known (fun vs H Q E h => ?_) (fun cdv A outer s H vs Q E hr h => ?_)
  · obtain ⟨v, z, rfl, _⟩ := h
    rfl
  · obtain ⟨v, z, rfl, hz, l2, k⟩ := h
    obtain ⟨e1, a1, b1, c1, us1, rfl, g11, g12, g13, g14, ⟨cg1, rfl, g15⟩⟩ := ix_same hz
    have hul := Paired.length g14
    have hbig : (64 : Nat) ≤ sizeLine := by decide
    refine ⟨_, PSs.nox (pss_cons (ps_cut (ps_par3 (i := 1) (j := 2) (l := 3) (by rfl) Known.nd rfl rfl rfl (by decide) (by decide) (by decide) rfl rfl rfl (pa_cons (pe_lstS (pa_cons pe_int pa_nil)) (pa_cons (pe_ix (ix_tupK K rfl) (pv 0) pe_int (fun _ _ => rfl)) (pa_cons (pe_ix (ix_tupK K rfl) (pv 0) pe_int (fun _ _ => rfl)) pa_nil))) (by rfl)))
      (pss_cons (ps_cut (ps_for PassesOwn.never rfl (pi_tupK (K := K) rfl (pv 2)) (pg_name (i := 4) Known.nd rfl (Or.inl rfl)) (pss_one (ps_expr (pe_bm PySem.F.plainAttrs_list PySem.F.slot_list_extend PySem.F.type_list_extend mt_extend (pv 1) (pa_cons (pe_lc (own := [("_law_one", 5)]) (g := gName 5) (tt := _) (by rfl) Known.nd (pi_tupK (K := K) rfl (pe_slice (sl_tupS K rfl) (pv 4) (po_some pe_int) po_none)) (blkOk_by (own := [("_law_one", 5)]) (N := NKnown) (sc := defScope sKnown) (by decide +kernel)) (fun _ _ _ _ _ => (pg_name (i := 5) Known.nd rfl (Or.inl rfl))) (fun _ _ _ _ _ => (pts_one (pt_cmp (pc_notN (pv 5))))) (fun _ _ _ _ _ => (pv 5))) pa_nil))))))
      (pss_cons (ps_cut (ps_if (pt_cmpR op_eq (pe_callB (call_lenK K rfl) (by rfl) T.len PySem.boot_len (pa_cons (pv 2) pa_nil)) pe_int (nomark _)) (pss_one (ps_for PassesOwn.never rfl (pi_listK (K := K) rfl (pe_lc (own := [("_law_bound_here", 6)]) (g := gName 6) (tt := _) (by rfl) Known.nd (pi_tupK (K := K) rfl (pv 3)) (blkOk_by (own := [("_law_bound_here", 6)]) (N := NKnown) (sc := defScope sKnown) (by decide +kernel)) (fun _ _ _ _ _ => (pg_name (i := 6) Known.nd rfl (Or.inl rfl))) (fun _ _ _ _ _ => (pts_one (pt_cmp (pc_notN (pv 6))))) (fun _ _ _ _ _ => (pv 6)))) (pg_name (i := 5) Known.nd rfl (Or.inr rfl)) (pss_cons (ps_expr (pe_bm PySem.F.plainAttrs_list PySem.F.slot_list_extend PySem.F.type_list_extend mt_extend (pv 1) (pa_cons (pe_lc (own := [("_law_bound_here", 6)]) (g := gName 6) (tt := _) (by rfl) Known.nd (pi_tupK (K := K) rfl (pe_slice (sl_tupS K rfl) (pe_ix (ix_tupK K rfl) (pv 2) pe_int (fun _ _ => rfl)) (po_some pe_int) po_none)) (blkOk_by (own := [("_law_bound_here", 6)]) (N := NKnown) (sc := defScope sKnown) (by decide +kernel)) (fun _ _ _ _ _ => (pg_name (i := 6) Known.nd rfl (Or.inl rfl))) (fun _ _ _ _ _ => (pts_one (pt_cmp (pc_notN (pv 6))))) (fun _ _ _ _ _ => (pe_op op_add (pv 5) (pv 6)))) pa_nil)))
      (pss_one (ps_expr (pe_bm PySem.F.plainAttrs_list PySem.F.slot_list_extend PySem.F.type_list_extend mt_extend (pv 1) (pa_cons (pe_lc (own := [("_law_bound_here", 6)]) (g := gName 6) (tt := _) (by rfl) Known.nd (pi_tupK (K := K) rfl (pe_slice (sl_tupS K rfl) (pe_ix (ix_tupK K rfl) (pv 2) pe_int (fun _ _ => rfl)) (po_some pe_int) po_none)) (blkOk_by (own := [("_law_bound_here", 6)]) (N := NKnown) (sc := defScope sKnown) (by decide +kernel)) (fun _ _ _ _ _ => (pg_name (i := 6) Known.nd rfl (Or.inl rfl))) (fun _ _ _ _ _ => (pts_one (pt_cmp (pc_notN (pv 6))))) (fun _ _ _ _ _ => (pe_op op_sub (pv 6) (pv 5)))) pa_nil))))))) pss_nil))
      (pss_one (ps_ret (pv 1)))))), ?_⟩
    refine ⟨fun σ' H' => ∃ l : Addr, σ' = [some (.ref e1), some (.ref l), some (.ref b1), some (.ref cg1), none, none, none] ∧ H l = none ∧ Same H H' ∧ H' l = some (.lst [.int 0]), ?_, ?_⟩
    · refine ⟨(by show 1 ≤ sizeLine; decide), fun l H1 n1 s1 q1 => ⟨_, rfl, e1, _, _, _, rfl, rfl, SqT.same g11 s1, rfl, _, rfl, e1, _, _, _, rfl, rfl, SqT.same g11 s1, rfl, nil_ ⟨_, _, _, rfl, l, rfl, n1, s1, q1⟩⟩⟩
    rintro σ' H1 ⟨l, rfl, nl, s1, q1⟩
    refine ⟨fun σ' H' => ∃ u4 u5 u6 : Option V, σ' = [some (.ref e1), some (.ref l), some (.ref b1), some (.ref cg1), u4, u5, u6] ∧ Same H H' ∧ H' l = some (.lst ((0 :: kn1 z.ss).map V.int)), ?_, ?_⟩
    · refine ⟨_, rfl, b1, rfl, ⟨_, SqT.same g13 s1⟩, ?_⟩
      refine for_tup (xs := us1) (fun i σ' H' => ∃ u4 u5 u6 : Option V, σ' = [some (.ref e1), some (.ref l), some (.ref b1), some (.ref cg1), u4, u5, u6] ∧ Same H H' ∧ H' l = some (.lst ((0 :: kn1 (z.ss.take i)).map V.int))) ⟨none, none, none, rfl, s1, q1⟩ ?_ ?_ ?_
      · rintro i σ' H2 _ ⟨_, _, _, _, s2, _⟩
        exact SqT.same g13 s2
      · rintro i x σ' H2 hx ⟨u4, u5, u6, rfl, s2, q2⟩
        obtain ⟨⟨r, lo, hi⟩, hsp, sx⟩ := pr_get g14 hx
        obtain ⟨ax, rfl, hX⟩ := Tp.same sx s2
        refine ⟨_, rfl, .inl ⟨rfl, _, SqL.of q2⟩, ?_⟩
        refine ⟨_, rfl, _, rfl, ax, _, rfl, hX, (fun ⟨z, _⟩ => by rw [show HT.sIx _ 0 (some 1) = _ from HT.sIx_nat _ 0 1] at z; cases z), fun q3 H3 n3 s3 e3 => ?_⟩
        refine ⟨q3, rfl, ⟨_, SqT.of e3⟩, fun D hD => ?_⟩
        refine loop_tup (xs := [lo, hi].map ob) (fun i H' => H' D = some (.lst (((nn ([lo, hi].take i)).map (fun b => b)).map V.int)) ∧ Same H3 H') ⟨upd_same, upd_new hD⟩ ?_ ?_ ?_
        · rintro i H9 _ ⟨_, s9⟩
          exact SqT.same (SqT.of e3) s9
        · rintro i xo H9 ho ⟨eD, s9⟩
          rw [List.getElem?_map] at ho
          obtain ⟨o, hq, rfl⟩ := Option.map_eq_some_iff.mp ho
          refine ⟨rfl, ?_⟩
          refine ⟨_, rfl, _, rfl, ?_⟩
          rw [nn_take hq]
          cases o with
          | none => exact iteF ⟨by rw [eD]; simp, s9⟩
          | some o =>
            have l1 := nn_len ([lo, hi].take i)
            rw [List.length_take] at l1
            refine iteT ⟨_, rfl, _, eD, by rw [List.length_map, List.length_map]; have : ([lo, hi] : List (Option Int)).length = 2 := rfl; omega, ?_, same_upd s9 hD⟩
            rw [upd_same, List.map_append, List.map_append]
            rfl
        · rintro H9 ⟨eD, s9⟩
          have eD : H9 D = some (.lst (((nn [lo, hi]).map (fun b => b)).map V.int)) := eD
          rw [nn_two] at eD
          have q9 := s9 _ _ (s3 _ _ q2)
          have wl := kn1_len (z.ss.take i)
          rw [List.length_take] at wl
          have wl2 := bnds_len (lo, hi)
          refine nil_ ⟨l, D, _, _, rfl, rfl, q9, eD, by rw [List.length_map, List.length_map, List.length_map, List.length_cons]; omega, ?_⟩
          refine ⟨_, _, _, rfl, same_upd (s2.trans (s3.trans s9)) nl, ?_⟩
          rw [upd_same, kn1_take hsp, List.map_id'' (fun _ => rfl), ← List.map_append]
          rfl
      · rintro σ' H2 ⟨u4, u5, u6, rfl, s2, q2⟩
        rw [List.take_of_length_le (by omega)] at q2
        exact ⟨u4, u5, u6, rfl, s2, q2⟩
    clear q1 s1
    rintro σ' H2 ⟨u4, u5, u6, rfl, s2, q2⟩
    refine ⟨fun σ' H' => ∃ u4 u5 u6 : Option V, σ' = [some (.ref e1), some (.ref l), some (.ref b1), some (.ref cg1), u4, u5, u6] ∧ Same H H' ∧ H' l = some (.lst ((Zn.known z).map V.int)), ?_, ?_⟩
    · refine ⟨_, rfl, _, _, rfl, .inr ⟨_, SqT.same g13 s2, rfl⟩, rfl, _, rfl, ite2 (fun c => ?_) fun c => ?_⟩
      · have c : us1.length = 2 := by simp at c; omega
        obtain ⟨x0, x1, hU⟩ := both_of c
        obtain ⟨s0, t0, hS⟩ := both_of (l := z.ss) (by omega)
        subst hU
        rw [hS] at g14
        cases g14 with
        | cons g14 g14' =>
          cases g14' with
          | cons g14' _ =>
            obtain ⟨r1, lo1, hi1⟩ := s0
            obtain ⟨r2, lo2, hi2⟩ := t0
            obtain ⟨ax0, rfl, hX0⟩ := id g14
            obtain ⟨ax1, rfl, hX1⟩ := id g14'
            rw [known_two hS]
            refine ⟨_, rfl, cg1, rfl, ⟨_, SqT.same g15 s2⟩, fun D hD => ?_⟩
            refine loop_tup (xs := [z.g.1, z.g.2].map ob) (fun i H' => H' D = some (.lst (((nn ([z.g.1, z.g.2].take i)).map (fun b => b)).map V.int)) ∧ Same H2 H') ⟨upd_same, upd_new hD⟩ ?_ ?_ ?_
            · rintro i H9 _ ⟨_, s9⟩
              exact SqT.same (SqT.same g15 s2) s9
            · rintro i xo H9 ho ⟨eD, s9⟩
              rw [List.getElem?_map] at ho
              obtain ⟨o, hq, rfl⟩ := Option.map_eq_some_iff.mp ho
              refine ⟨rfl, ?_⟩
              refine ⟨_, rfl, _, rfl, ?_⟩
              rw [nn_take hq]
              cases o with
              | none => exact iteF ⟨by rw [eD]; simp, s9⟩
              | some o =>
                have l1 := nn_len ([z.g.1, z.g.2].take i)
                rw [List.length_take] at l1
                refine iteT ⟨_, rfl, _, eD, by rw [List.length_map, List.length_map]; have : ([z.g.1, z.g.2] : List (Option Int)).length = 2 := rfl; omega, ?_, same_upd s9 hD⟩
                rw [upd_same, List.map_append, List.map_append]
                rfl
            · rintro H9 ⟨eD, s9⟩
              have eD : H9 D = some (.lst (((nn [z.g.1, z.g.2]).map (fun b => b)).map V.int)) := eD
              rw [nn_two] at eD
              rw [List.map_id'' (fun _ => rfl)] at eD
              have s29 := s2.trans s9
              have nD : D ≠ l := fun e => by rw [e, q2] at hD; cases hD
              refine ⟨D, rfl, ⟨_, SqL.of eD⟩, ?_⟩
              refine for_list (xs := (Zn.bnds z.g).map V.int) (fun i σ' H' => ∃ u4 u5 u6 : Option V, σ' = [some (.ref e1), some (.ref l), some (.ref b1), some (.ref cg1), u4, u5, u6] ∧ Same H H' ∧ H' l = some (.lst ((0 :: (kn1 z.ss ++ ((Zn.bnds z.g).take i).flatMap (kn2 ⟨r1, lo1, hi1⟩ ⟨r2, lo2, hi2⟩))).map V.int)) ∧ H' D = some (.lst ((Zn.bnds z.g).map V.int))) ⟨_, _, _, rfl, s29, by rw [s9 _ _ q2]; simp, eD⟩ ?_ ?_ ?_
              · rintro i σ' H4 _ ⟨_, _, _, _, _, _, d4⟩
                exact SqL.of d4
              · rintro i xu σ' H4 hxu ⟨u4, u5, u6, rfl, s4, q4, d4⟩
                rw [List.getElem?_map] at hxu
                obtain ⟨u, hu, rfl⟩ := Option.map_eq_some_iff.mp hxu
                have hi : i < (Zn.bnds z.g).length := (List.getElem?_eq_some_iff.mp hu).1
                have bl := bnds_len z.g
                have k1l := kn1_len z.ss
                have k2l := kn2_len ⟨r1, lo1, hi1⟩ ⟨r2, lo2, hi2⟩ ((Zn.bnds z.g).take i)
                rw [List.length_take] at k2l
                have wl1 := bnds_len (lo1, hi1)
                have wl2 := bnds_len (lo2, hi2)
                clear eD hD
                refine ⟨_, rfl, .inl ⟨rfl, _, SqL.of q4⟩, ?_⟩
                refine ⟨_, rfl, b1, _, _, _, rfl, rfl, SqT.same g13 s4, rfl, _, rfl, ax0, _, rfl, SqT.same hX0 s4, (fun ⟨z, _⟩ => by rw [show HT.sIx _ 0 (some 1) = _ from HT.sIx_nat _ 0 1] at z; cases z), fun q3 H3 n3 s3 e3 => ?_⟩
                refine ⟨q3, rfl, ⟨_, SqT.of e3⟩, fun D1 hD => ?_⟩
                refine loop_tup (xs := [lo1, hi1].map ob) (fun i H' => H' D1 = some (.lst (((nn ([lo1, hi1].take i)).map (fun b => u + b)).map V.int)) ∧ Same H3 H') ⟨upd_same, upd_new hD⟩ ?_ ?_ ?_
                · rintro i H9 _ ⟨_, s9⟩
                  exact SqT.same (SqT.of e3) s9
                · rintro i xo H9 ho ⟨eD, s9⟩
                  rw [List.getElem?_map] at ho
                  obtain ⟨o, hq, rfl⟩ := Option.map_eq_some_iff.mp ho
                  refine ⟨rfl, ?_⟩
                  refine ⟨_, rfl, _, rfl, ?_⟩
                  rw [nn_take hq]
                  cases o with
                  | none => exact iteF ⟨by rw [eD]; simp, s9⟩
                  | some o =>
                    have l1 := nn_len ([lo1, hi1].take i)
                    rw [List.length_take] at l1
                    refine iteT ⟨_, rfl, _, rfl, _, _, rfl, rfl, _, eD, by rw [List.length_map, List.length_map]; have : ([lo1, hi1] : List (Option Int)).length = 2 := rfl; omega, ?_, same_upd s9 hD⟩
                    rw [upd_same, List.map_append, List.map_append]
                    rfl
                · rintro H9 ⟨eD, s9⟩
                  have eD : H9 D1 = some (.lst (((nn [lo1, hi1]).map (fun b => u + b)).map V.int)) := eD
                  rw [nn_two] at eD
                  have s39 := s3.trans s9
                  have q9 := s39 _ _ q4
                  have d9 := s39 _ _ d4
                  have s49 := s4.trans s39
                  refine nil_ ⟨l, D1, _, _, rfl, rfl, q9, eD, by simp only [List.length_map, List.length_cons, List.length_append] at *; omega, ?_⟩
                  have sL : Same H (upd H9 l (.lst (List.map V.int (0 :: (kn1 z.ss ++ ((Zn.bnds z.g).take i).flatMap (kn2 ⟨r1, lo1, hi1⟩ ⟨r2, lo2, hi2⟩))) ++ List.map V.int (List.map (fun b => u + b) (Zn.bnds (lo1, hi1)))))) := same_upd s49 nl
                  have qL := upd_same (H := H9) (a := l) (o := .lst (List.map V.int (0 :: (kn1 z.ss ++ ((Zn.bnds z.g).take i).flatMap (kn2 ⟨r1, lo1, hi1⟩ ⟨r2, lo2, hi2⟩))) ++ List.map V.int (List.map (fun b => u + b) (Zn.bnds (lo1, hi1)))))
                  have dL := (upd_ne (H := H9) (o := .lst (List.map V.int (0 :: (kn1 z.ss ++ ((Zn.bnds z.g).take i).flatMap (kn2 ⟨r1, lo1, hi1⟩ ⟨r2, lo2, hi2⟩))) ++ List.map V.int (List.map (fun b => u + b) (Zn.bnds (lo1, hi1)))))  nD).trans d9
                  generalize upd H9 l (.lst (List.map V.int (0 :: (kn1 z.ss ++ ((Zn.bnds z.g).take i).flatMap (kn2 ⟨r1, lo1, hi1⟩ ⟨r2, lo2, hi2⟩))) ++ List.map V.int (List.map (fun b => u + b) (Zn.bnds (lo1, hi1))))) = H5 at sL qL dL ⊢
                  clear eD q9 d9 s49 s39 s9
                  refine ⟨_, rfl, .inl ⟨rfl, _, SqL.of qL⟩, ?_⟩
                  refine ⟨_, rfl, b1, _, _, _, rfl, rfl, SqT.same g13 sL, rfl, _, rfl, ax1, _, rfl, SqT.same hX1 sL, (fun ⟨z, _⟩ => by rw [show HT.sIx _ 0 (some 1) = _ from HT.sIx_nat _ 0 1] at z; cases z), fun q6 H6 n6 s6 e6 => ?_⟩
                  refine ⟨q6, rfl, ⟨_, SqT.of e6⟩, fun D2 hD => ?_⟩
                  refine loop_tup (xs := [lo2, hi2].map ob) (fun i H' => H' D2 = some (.lst (((nn ([lo2, hi2].take i)).map (fun b => b - u)).map V.int)) ∧ Same H6 H') ⟨upd_same, upd_new hD⟩ ?_ ?_ ?_
                  · rintro i H9 _ ⟨_, s9⟩
                    exact SqT.same (SqT.of e6) s9
                  · rintro i xo H9 ho ⟨eD, s9⟩
                    rw [List.getElem?_map] at ho
                    obtain ⟨o, hq, rfl⟩ := Option.map_eq_some_iff.mp ho
                    refine ⟨rfl, ?_⟩
                    refine ⟨_, rfl, _, rfl, ?_⟩
                    rw [nn_take hq]
                    cases o with
                    | none => exact iteF ⟨by rw [eD]; simp, s9⟩
                    | some o =>
                      have l1 := nn_len ([lo2, hi2].take i)
                      rw [List.length_take] at l1
                      refine iteT ⟨_, rfl, _, rfl, _, _, rfl, rfl, _, eD, by rw [List.length_map, List.length_map]; have : ([lo2, hi2] : List (Option Int)).length = 2 := rfl; omega, ?_, same_upd s9 hD⟩
                      rw [upd_same, List.map_append, List.map_append]
                      rfl
                  · rintro H9 ⟨eD, s9⟩
                    have eD : H9 D2 = some (.lst (((nn [lo2, hi2]).map (fun b => b - u)).map V.int)) := eD
                    rw [nn_two] at eD
                    have s69 := s6.trans s9
                    have q9 := s69 _ _ qL
                    have d9 := s69 _ _ dL
                    refine nil_ ⟨l, D2, _, _, rfl, rfl, q9, eD, by simp only [List.length_map, List.length_cons, List.length_append] at *; omega, ?_⟩
                    refine ⟨_, _, _, rfl, same_upd (sL.trans s69) nl, ?_, by rw [upd_ne nD]; exact d9⟩
                    rw [upd_same, List.take_add_one, hu]
                    simp [List.flatMap_append]
              · rintro σ' H4 ⟨u4, u5, u6, rfl, s4, q4, d4⟩
                rw [List.length_map, List.take_length] at q4
                exact ⟨_, _, _, rfl, s4, q4⟩
      · have c : ¬ us1.length = 2 := fun q => c (by simp; omega)
        rw [known_few (by omega)]
        exact ⟨_, _, _, rfl, s2, q2⟩
    rintro σ' H3 ⟨u4, u5, u6, rfl, s3, q3⟩
    exact ⟨_, rfl, k l H3 nl s3 q3⟩
end
end TM
end

section
set_option maxHeartbeats 4000000
/-! EwRgW: walks over range(a), range(a, b) with bounds of any size. -/
namespace EW
open PySem PySem.Spec PyProof.Rows L2
theorem turn_long {P : Program} {w : World} {K : W.Frag} {tg : Expr} (it : Addr) (lo : Int) (n : Nat) : Turn P w K tg (Itr lo n) [it] it (fun i h => IsLongIter h it (lo + (i : Nat) * 1) ((n : Int) - (i : Nat)) 1) where
  mem := by simp
  obj := fun i h st b hb => by
    have e : b = it := by simpa using hb
    subst e
    exact ⟨_, st, fun v z => by
      have z' : Data.fields _ = Data.cell v := z
      cases z'⟩
  keep := fun i h h' st k => k it (by simp) _ st
  item := by
    intro X hP hw hK hc i pins s σ H E I hf st hg
    subst hP hw hK
    obtain ⟨f0, f1, f2, f3, f4, f5⟩ := hf it (by simp)
    have W := Walks.longrange (prog := X.prog) (w := X.w) (I.ok.hd hc) it lo 1 n
    refine W.item i s _ _ hg st fun v h' tk hv st' kk => ?_
    obtain ⟨t, rfl⟩ := hv
    have I1 : Inv X pins σ H { s with heap := h', toks := tk } := I.turned (fun b o hb e => kk b o (by simpa using hb) e) f0 f1 f3 f4 f5
    refine ⟨_, rfl, go_of (s := { s with heap := h', toks := tk }) (n := "longrange_iterator") st' rfl rfl (by decide) ⟨.int (lo + i), H, I1, ⟨t, ?_⟩, ⟨rfl, rfl⟩, st', fun b hb => (hf b hb).1⟩⟩
    rw [Int.mul_one]
  done := by
    intro X hP hw hK hc i pins s σ H E I hf st hg
    subst hP hw hK
    obtain ⟨f0, f1, f2, f3, f4, f5⟩ := hf it (by simp)
    exact wpAny_pyNext_long_end (I.ok.hd hc) st (by have : n ≤ i := hg; omega) fun h' eb => ⟨rfl, I.turned (t' := s.toks) (fun b o hb e => eb b o hb e) f0 f1 f3 f4 f5⟩
  self := fun _ _ _ _ _ st h => wpAny_pyIter_longiter st h
theorem range_itW {X : Cx} {tg : Expr} {pins : List (Addr × Obj)} {σ : L2.St} {H : Hp} {s : Shared} {R : It → Hp → Prop} {E : Value → Shared → Prop} {lo hi : Int} {t u v : Tok} {tk : Nat} (I : Inv X pins σ H s)
    (q : R (Itr lo (hi - lo).toNat) H) : wpAny (model X.prog X.w) X.A (pyIter (.ref s.heap.objs.size)) (PIE X pins σ tg R) E { s with heap := s.heap.push { cls := .type "range", data := .fields #[.int lo t, .int hi u, .int 1 v] }, toks := tk } := by
  have I1 : Inv X pins σ H { s with heap := s.heap.push { cls := .type "range", data := .fields #[.int lo t, .int hi u, .int 1 v] }, toks := tk } := I.kept fun b o e => Heap.get?_push_of_some _ e
  have e2 : (((hi - lo).toNat : Nat) : Int) - ((0 : Nat) : Int) = Builtin.Range.rangeSize lo hi 1 := by rw [rangeSize_one]; split <;> omega
  have e1 : lo + ((0 : Nat) : Int) * 1 = lo := by simp
  have fp : ∀ b ∈ [(s.heap.push { cls := .type "range", data := .fields #[.int lo t, .int hi u, .int 1 v] }).objs.size], FpOk X pins H b := fun b hb => by
    have e : b = (s.heap.push { cls := .type "range", data := .fields #[.int lo t, .int hi u, .int 1 v] }).objs.size := by simpa using hb
    subst e
    exact I1.fpOk (Nat.le_refl _) (I1.hok.fresh (Nat.le_refl _))
  by_cases hsm : Builtin.Range.small lo hi 1 = true
  · refine wpAny_pyIter_range (IsRange.new ..) hsm ?_
    refine ⟨_, _, _, _, H, rfl, I1.kept (t' := tk) fun b o e => Heap.get?_push_of_some _ e, turn_range _ lo (hi - lo).toNat, ?_, fp, q⟩
    show IsRangeIter _ _ (lo + ((0 : Nat) : Int) * 1) ((((hi - lo).toNat : Nat) : Int) - ((0 : Nat) : Int)) 1
    rw [e1, e2]
    exact Heap.get?_push_size _ rfl
  · refine wpAny_pyIter_longrange (IsRange.new ..) (by simpa using hsm) ?_
    refine ⟨_, _, _, _, H, rfl, I1.kept (t' := tk) fun b o e => Heap.get?_push_of_some _ e, turn_long _ lo (hi - lo).toNat, ?_, fp, q⟩
    show IsLongIter _ _ (lo + ((0 : Nat) : Int) * 1) ((((hi - lo).toNat : Nat) : Int) - ((0 : Nat) : Int)) 1
    rw [e1, e2]
    exact Heap.get?_push_size _ rfl
def iRng2W (ta : TA) : TI := fun σ H R => ta σ H fun vs H1 => ∃ i j : Int, vs = [.int i, .int j] ∧ R (Itr i (j - i).toNat) H1
theorem pi_range2W {X : Cx} {tg : Expr} {a b : Expr} {ta : TA} {p pos : Pos} (hg : Gl X "range") (hm : X.mg "range" = none) (ha : PA X [a, b] ta) (hs : starEach [a, b] X.env = [(false, eval a X.env), (false, eval b X.env)] := by rfl) (hs2 : starEach [b] X.env = [(false, eval b X.env)] := by rfl) :
    PI X tg (.Call (.Name "range" p) [a, b] [] pos) (iRng2W ta) := by
  refine ⟨fun pins s σ H R I h => ?_⟩
  refine Call_ (ld_blt I hg hm boot_range (PyProof.Rows.callWith_type1 (thn (ha.run pos pins s σ H _ I h) fun us s1 ⟨vs, H1, I1, r1, q1⟩ => ?_) (by rw [hs, hs2]) (by rw [hs2]; rfl)))
  obtain ⟨i, j, e, q⟩ := q1
  subst e
  cases r1 with
  | cons r rr =>
    cases rr with
    | cons r' rr =>
      cases rr
      obtain ⟨t, rfl⟩ := r
      obtain ⟨t', rfl⟩ := r'
      exact call_range_2 (range_itW I1 q)
end EW
end

section
set_option maxHeartbeats 4000000
namespace TM
open PySem PySem.Spec PyProof.Rows L2 EW
abbrev NIsEmp : List Str := ["_law_period", "_law_zone_here", "_law_found", "_law_known_here", "_law_time"]
theorem IsEmp : FnScope NIsEmp ["_law_period", "_law_zone_here"] (defScope sIsEmp) := ⟨rfl, rfl, rfl, by decide +kernel, rfl, by decide +kernel, by decide +kernel⟩
def spIsEmp (K : W.Frag) : Sp := fun vs H Q _ => ∃ (p : Int) (v : V) (z : Zn.Z), vs = [.int p, v] ∧ 0 < p ∧ p ≤ 400 ∧ ZnV K H v z ∧ (∀ s ∈ z.ss, Zn.Res p s.res) ∧ z.ss.length ≤ 2 ∧ ∀ H', Same H H' → Q (.bl (Zn.norm p z).isNone) H'
theorem tspans_shaped (zs : List Rn.Sp3) : SeqAt.shaped (.tuple (zs.map spanD)) = true := by
  have h := spans_depth zs
  simp [SeqAt.shaped, PyData.canLay0, PyData.depth, spans_lay]
  omega
/-- what is found up to the place i of the known bounds -/
structure Fnd (p : Int) (z : Zn.Z) (i : Nat) (ns : List Int) : Prop where
  real : ns ≠ [] → ∃ t r, Zn.InT p z (t :: r)
  all : ∀ j k, j < i → (Zn.known z)[j]? = some k → ∀ t, k - 2 * p ≤ t → t ≤ k + 2 * p → (∃ r, Zn.InT p z (t :: r)) → ns ≠ []
theorem fnd_end {p : Int} {z : Zn.Z} {ns : List Int} (hp : 0 < p) (l2 : z.ss.length ≤ 2) (l1 : 1 ≤ z.ss.length) (hr : ∀ s ∈ z.ss, Zn.Res p s.res) (h : Fnd p z (Zn.known z).length ns) : (ns.map PyData.int).isEmpty = (Zn.norm p z).isNone := by
  obtain ⟨h1, h2⟩ := Zn.norm_spec hp l2 hr
  cases e : Zn.norm p z with
  | none =>
    cases ns with
    | nil => rfl
    | cons n r =>
      obtain ⟨t, q, m⟩ := h.real (by simp)
      exact absurd m (h1 e _)
  | some y =>
    obtain ⟨ts, m⟩ := (h2 y e).some
    obtain ⟨x, r, k, m, hk, n1, n2⟩ := Zn.near_known hp l2 l1 m
    obtain ⟨j, hj⟩ := List.getElem?_of_mem hk
    have := h.all j k (List.getElem?_eq_some_iff.mp hj).1 hj x n1 n2 ⟨r, m⟩
    cases ns with
    | nil => exact absurd rfl this
    | cons n r => rfl
theorem known_len {z : Zn.Z} (l2 : z.ss.length ≤ 2) : (Zn.known z).length ≤ 13 := by
  have h1 := kn1_len z.ss
  have h3 := bnds_len z.g
  by_cases c : z.ss.length = 2
  · obtain ⟨s, t, e⟩ := both_of c
    have h2 := kn2_len s t (Zn.bnds z.g)
    rw [known_two e, List.length_cons, List.length_append]
    omega
  · rw [known_few c, List.length_cons]
    omega
theorem norm_zero {p : Int} {z : Zn.Z} (h : z.ss = []) : (Zn.norm p z).isNone = false := by
  obtain ⟨vs, ss, g⟩ := z
  subst h
  rfl
section
variable {P : Program} {w : World} {K : W.Frag} {mg : Str → Option Value} {base : Heap}
theorem ok_isEmp {fd : FuncData} (F : FnP K "_law_is_empty" sIsEmp fd) (T : Fre mg) (D_law_known : Df P w K mg base 1 "_law_known" ["_law_zone_here"] (spKnown K)) (D_law_has_time : Df P w K mg base 2 "_law_has_time" ["_law_period", "_law_zone_here", "_law_place", "_law_time"] (spHasT K)) :
    FnOk P w K mg base CX0 3 (He.ga K "_law_is_empty") fd ["_law_period", "_law_zone_here"] (spIsEmp K) := by
  refine F.ok IsEmp (fun vs H Q E h => ?_) (fun cdv A outer s H vs Q E hr h => ?_)
  · obtain ⟨p, v, z, rfl, _⟩ := h
    rfl
  · obtain ⟨p, v, z, rfl, hp, p4, hz, hres, l2, k⟩ := h
    obtain ⟨e1, a1, b1, c1, us1, rfl, g11, g12, g13, g14, _⟩ := ix_same hz
    have hul := Paired.length g14
    have hbig : (100000 : Nat) ≤ sizeLine := by rw [sizeLine_eq]; decide
    refine ⟨_, PSs.nox (pss_cons (ps_cut (ps_if (pt_cmpR (op_eqDK K rfl hr.units) (pe_ix (ix_tupK K rfl) (pv 1) pe_int (fun _ _ => rfl)) (pe_tupS pa_nil) (nomark _)) (pss_one (ps_ret pe_bl)) pss_nil))
      (pss_cons (ps_cut (ps_set (i := 2) IsEmp.nd rfl (Or.inl rfl) (pe_lstS pa_nil)))
      (pss_cons (ps_cut (ps_for PassesOwn.never rfl (pi_listK (K := K) rfl (pe_df D_law_known (hr.mono (by decide)) rfl (pa_cons (pv 1) pa_nil))) (pg_name (i := 3) IsEmp.nd rfl (Or.inl rfl)) (pss_one (ps_for PassesOwn.never rfl (EW.pi_range2W rfl T.range (pa_cons (pe_op op_sub (pv 3) (pe_op op_mul pe_int (pv 0))) (pa_cons (pe_op op_add (pe_op op_add (pv 3) (pe_op op_mul pe_int (pv 0))) pe_int) pa_nil))) (pg_name (i := 4) IsEmp.nd rfl (Or.inl rfl)) (pss_one (ps_set (i := 2) IsEmp.nd rfl (Or.inl rfl) (pe_op op_catS (pv 2) (pe_op op_rep (pe_lstS (pa_cons (pv 4) pa_nil)) (pe_callTy call_int1 (by rfl) T.int EW.boot_int (pa_cons (pe_df D_law_has_time (hr.mono (by decide)) rfl (pa_cons (pv 0) (pa_cons (pv 1) (pa_cons pe_int (pa_cons (pv 4) pa_nil))))) pa_nil))))))))))
      (pss_one (ps_ret (pe_cmpR (op_eqDK K rfl hr.units) (pv 2) (pe_lstS pa_nil) (nomark _))))))), ?_⟩
    refine ⟨fun σ' H' => σ' = [some (.int p), some (.ref e1), none, none, none] ∧ Same H H' ∧ 1 ≤ z.ss.length, ?_, ?_⟩
    · refine ⟨_, rfl, e1, _, _, _, rfl, rfl, g11, rfl, (by show 0 ≤ sizeLine; omega), fun q H1 n1 s1 q1 => ?_⟩
      refine ⟨.tuple (z.ss.map spanD), .tuple [], .tup (SqT.same g13 s1) (spans_dp (Sns.same g14 s1)), .tup (SqT.of q1) .nil, tspans_shaped _, tspans_shaped [], _, rfl, ?_⟩
      rw [PyData.eqv]
      cases hs : z.ss with
      | nil =>
        refine iteD (by simp [PyData.eqvAll]) ?_
        have := k H1 s1
        rw [norm_zero hs] at this
        exact this
      | cons x r => exact iteN (by simp [PyData.eqvAll]) ⟨rfl, s1, by simp⟩
    rintro σ' H1 ⟨rfl, s1, l1⟩
    refine ⟨fun σ' H' => ∃ f : Addr, σ' = [some (.int p), some (.ref e1), some (.ref f), none, none] ∧ Same H H' ∧ H' f = some (.lst []), ?_, ?_⟩
    · exact ⟨by decide, fun f H2 n2 s2 q2 => ⟨f, rfl, s1.trans s2, q2⟩⟩
    clear s1
    rintro σ' H1 ⟨f, rfl, s1, q1⟩
    refine ⟨fun σ' H' => ∃ (f : Addr) (u3 u4 : Option V) (ns : List Int), σ' = [some (.int p), some (.ref e1), some (.ref f), u3, u4] ∧ Same H H' ∧ H' f = some (.lst (ns.map V.int)) ∧ Fnd p z (Zn.known z).length ns, ?_, ?_⟩
    · refine ⟨_, rfl, .ref e1, z, rfl, hz.same s1, l2, fun kl H2 n2 s2 q2 => ?_⟩
      refine ⟨kl, rfl, ⟨_, SqL.of q2⟩, ?_⟩
      refine for_list (xs := (Zn.known z).map V.int) (fun i σ' H' => ∃ (f : Addr) (u3 u4 : Option V) (ns : List Int), σ' = [some (.int p), some (.ref e1), some (.ref f), u3, u4] ∧ Same H H' ∧ H' kl = some (.lst ((Zn.known z).map V.int)) ∧ H' f = some (.lst (ns.map V.int)) ∧ ns.length ≤ 2000 * i ∧ Fnd p z i ns) ⟨f, none, none, [], rfl, s1.trans s2, q2, s2 _ _ q1, Nat.zero_le _, ⟨fun h => absurd rfl h, fun j k hj => absurd hj (Nat.not_lt_zero _)⟩⟩ ?_ ?_ ?_
      · rintro i σ' H3 _ ⟨_, _, _, _, _, _, q3, _⟩
        exact SqL.of q3
      · rintro i xk σ' H3 hxk ⟨f, u3, u4, ns, rfl, s3, q3, f3, ln, hF⟩
        rw [List.getElem?_map] at hxk
        obtain ⟨kk, hk, rfl⟩ := Option.map_eq_some_iff.mp hxk
        have hi : i < (Zn.known z).length := (List.getElem?_eq_some_iff.mp hk).1
        have hkl := known_len l2
        refine ⟨_, rfl, _, rfl, _, _, rfl, rfl, (by first | exact .inl ⟨by omega, by omega⟩ | exact ⟨by omega, by omega, by omega, by omega⟩), _, _, rfl, rfl, _, rfl, _, rfl, _, _, rfl, rfl, (by first | exact .inl ⟨by omega, by omega⟩ | exact ⟨by omega, by omega, by omega, by omega⟩), _, _, rfl, rfl, _, _, rfl, rfl, nil_ ⟨_, _, rfl, ?_⟩⟩
        refine for_range (fun j σ' H' => ∃ (f : Addr) (u4 : Option V) (ns : List Int), σ' = [some (.int p), some (.ref e1), some (.ref f), some (.int kk), u4] ∧ Same H H' ∧ H' kl = some (.lst ((Zn.known z).map V.int)) ∧ H' f = some (.lst (ns.map V.int)) ∧ ns.length ≤ 2000 * i + j ∧ Fnd p z i ns ∧ ∀ t, kk - 2 * p ≤ t → t < kk - 2 * p + j → (∃ r, Zn.InT p z (t :: r)) → ns ≠ []) ⟨f, u4, ns, rfl, s3, q3, f3, by omega, hF, fun t t1 t2 => absurd t2 (by omega)⟩ ?_ ?_
        · rintro j σ' H4 hj ⟨f, u4, ns, rfl, s4, q4, f4, ln, hF, hc⟩
          refine ⟨_, rfl, _, rfl, (by show 1 ≤ sizeLine; omega), fun q5 H5 n5 s5 e5 => ?_⟩
          refine ⟨_, rfl, _, rfl, _, rfl, p, .ref e1, z, 0, _, rfl, l1, hp, hz.same (s4.trans s5), hres, l2, fun b H6 s6 hb => ?_⟩
          have hb : b = true ↔ ∃ r, Zn.InT p z ((kk - 2 * p + (j : Int)) :: r) := hb.trans hasP_zero
          have fin : ∀ (c : Addr) (H8 : Hp) (ns' : List Int), Same H6 H8 → H8 c = some (.lst (ns'.map V.int)) → (ns' = ns ∧ b = false ∨ ns' = ns ++ [kk - 2 * p + (j : Int)] ∧ b = true) → ∃ (f : Addr) (u4 : Option V) (ns : List Int), [some (.int p), some (.ref e1), some (.ref c), some (.int kk), some (.int (kk - 2 * p + (j : Int)))] = [some (.int p), some (.ref e1), some (.ref f), some (.int kk), u4] ∧ Same H H8 ∧ H8 kl = some (.lst ((Zn.known z).map V.int)) ∧ H8 f = some (.lst (ns.map V.int)) ∧ ns.length ≤ 2000 * i + (j + 1) ∧ Fnd p z i ns ∧ ∀ t, kk - 2 * p ≤ t → t < kk - 2 * p + ((j + 1 : Nat) : Int) → (∃ r, Zn.InT p z (t :: r)) → ns ≠ [] := fun c H8 ns' s8 e8 hn => by
            refine ⟨c, _, ns', rfl, s4.trans (s5.trans (s6.trans s8)), (s5.trans (s6.trans s8)) _ _ q4, e8, ?_, ⟨?_, ?_⟩, ?_⟩
            · rcases hn with ⟨rfl, _⟩ | ⟨rfl, _⟩
              · omega
              · rw [List.length_append, List.length_singleton]
                omega
            · rcases hn with ⟨rfl, _⟩ | ⟨rfl, hb'⟩
              · exact hF.real
              · intro _
                exact ⟨_, hb.mp hb'⟩
            · rcases hn with ⟨rfl, _⟩ | ⟨rfl, hb'⟩
              · exact hF.all
              · intro _ _ _ _ _ _ _ _
                simp
            · intro t t1 t2 ht
              rcases hn with ⟨rfl, hb'⟩ | ⟨rfl, hb'⟩
              · by_cases c : t = kk - 2 * p + (j : Int)
                · subst c
                  rw [hb.mpr ht] at hb'
                  cases hb'
                · exact hc t t1 (by omega) ht
              · simp
          have f6 := (s5.trans s6) _ _ f4
          cases b with
          | true =>
            refine nil_ (Or.inr ⟨true, rfl, q5, 1, _, rfl, rfl, s6 _ _ e5, by decide, by decide, (by show 1 * 1 ≤ sizeLine; omega), fun q7 hq7 => ?_⟩)
            have s7 := upd_new (o := .lst (List.replicate (1 : Int).toNat [V.int (kk - 2 * p + (j : Int))]).flatten) hq7
            refine ⟨f, q7, _, _, rfl, rfl, s7 _ _ f6, upd_same, ?_, fun c H8 n8 s8 e8 => ?_⟩
            · rw [List.length_map]
              show ns.length + 1 ≤ _
              omega
            · exact fin c H8 (ns ++ [kk - 2 * p + (j : Int)]) (s7.trans s8) (by rw [e8, List.map_append]; rfl) (.inr ⟨rfl, rfl⟩)
          | false =>
            refine nil_ (Or.inr ⟨false, rfl, q5, 0, _, rfl, rfl, s6 _ _ e5, by decide, by decide, (by show 1 * 0 ≤ sizeLine; omega), fun q7 hq7 => ?_⟩)
            have s7 := upd_new (o := .lst (List.replicate (0 : Int).toNat [V.int (kk - 2 * p + (j : Int))]).flatten) hq7
            refine ⟨f, q7, _, _, rfl, rfl, s7 _ _ f6, upd_same, ?_, fun c H8 n8 s8 e8 => ?_⟩
            · rw [List.length_map]
              show ns.length + 0 ≤ _
              omega
            · exact fin c H8 ns (s7.trans s8) (by rw [e8]; exact congrArg (fun z => some (HO.lst z)) (List.append_nil _)) (.inl ⟨rfl, rfl⟩)
        · rintro σ' H4 ⟨f, u4, ns, rfl, s4, q4, f4, ln, hF, hc⟩
          refine ⟨f, _, _, ns, rfl, s4, q4, f4, by omega, hF.real, fun j k' hj hk' t t1 t2 ht => ?_⟩
          by_cases c : j = i
          · subst c
            rw [hk] at hk'
            cases hk'
            exact hc t t1 (by omega) ht
          · exact hF.all j k' (by omega) hk' t t1 t2 ht
      · rintro σ' H3 ⟨f, u3, u4, ns, rfl, s3, q3, f3, ln, hF⟩
        rw [List.length_map] at hF
        exact ⟨f, u3, u4, ns, rfl, s3, f3, hF⟩
    clear s1 q1
    rintro σ' H2 ⟨f, u3, u4, ns, rfl, s2, q2, hF⟩
    refine ⟨_, rfl, (by show 0 ≤ sizeLine; omega), fun q H3 n3 s3 e3 => ?_⟩
    refine eqNil (.lst (SqL.of (s3 _ _ q2)) (ints_dp _)) (shaped_ints _) (.lst (SqL.of e3) .nil) ?_
    rw [fnd_end hp l2 l1 hres hF]
    exact k H3 (s2.trans s3)
end
end TM
end

section
set_option maxHeartbeats 4000000
/-! EwLamA: a lambda with parameters, nothing captured: its call. -/
namespace EW
open PySem PySem.Spec PyProof.Rows L2
/-- the call of a lambda that captures nothing -/
theorem run_lam {P : Program} {w : World} {K : W.Frag} {mg : Str → Option Value} {base : Heap} {k : Nat} {f c' : Addr} {qual : Str} {params : Arguments} {body : Expr} {scope : Scope} {pm ct : Value} {N ps : List Str} (S : FnScope N ps scope)
    {A : Around} {outer : List Env} {s : Shared} {H : Hp} {us : List Value} {vs : List V} {Q : VK} {E : XK} {t : TE}
    (of : s.heap.get? f = some (W.kla_obj "<lambda>" qual params body scope [] pm c' ct)) (hcode : s.heap.CodeRec (.ref c') qual) (hr : Room (k + 1) A) (e0 : Env0 P w K mg base A outer s H)
    (hb : bindArgs (W.kla_fn "<lambda>" qual params body scope [] pm (.ref c') ct) ⟨us, []⟩ = pure (ps.zip us)) (r : Vals vs us) (hl : vs.length = ps.length)
    (hbody : Room k (A.deeper (envOfC qual scope s.heap.objs.size f (.ref c'))) → PE (cxOf CX0 P w K mg base N qual scope f (.ref c') A outer s H E) body t) (ht : t (L2.start N vs) H Q) :
    codeAny (model P w) A (.call (.ref f) ⟨us, []⟩) (CR CX0 outer P w H s Q E) s := by
  have lim : s.heap.NoLimit := e0.mod.nolimit.keeps fun b o e => (e0.bs b o e).1
  have hkind : ∀ y ∈ ps.zip us, scope.names.lookup y.1 = some .local ∨ (scope.names.lookup y.1 = some .cell ∧ ((cellsFrom (s.heap.objs.size + 1) scope.names []).lookup y.1).isSome = true) := fun ⟨n, v⟩ hy => by
    rcases S.par n (List.of_mem_zip hy).1 with q | q
    · exact .inl q
    · exact .inr ⟨q, W.cellsFrom_some _ _ _ (.inl q)⟩
  refine W.kla_callFunE hr.depth of rfl S.co S.gen rfl hcode ?_
  rw [hb]
  refine wpAny_pure (wpAny_newFunctionEnv_cells S.kind hkind fun env he s1 x => ?_)
  subst he
  refine ⟨lim.keeps x.toInCall.keep, ?_⟩
  have I : Inv (cxOf CX0 P w K mg base N qual scope f (.ref c') A outer s H E) [] (L2.start N vs) H s1 := inv_start S hr.hd e0 hl r x
  refine W.kla_codeExpr (wpAny_mono ((hbody (hr.deeper _)).run [] s1 (L2.start N vs) H _ I ht) (fun u s' hq => ?_) fun e s' hs => hs)
  obtain ⟨v, H', J, rv, q⟩ := hq
  exact ⟨v, H', J.os, J.bare, J.base, J.hok, rv, q⟩
end EW
end

section
set_option maxHeartbeats 4000000
/-! EwLamB: a lambda is made, and known from then on. -/
namespace EW
open PySem PySem.Spec PyProof.Rows L2 LamX
/-- the lambda at f, its code object at c' -/
def LamO (f : Addr) (qual : Str) (params : Arguments) (body : Expr) (scope : Scope) (c' : Addr) : HO := .ext fun h => ∃ pm ct, h.get? f = some (W.kla_obj "<lambda>" qual params body scope [] pm c' ct)
section
variable {X : Cx} {pins : List (Addr × Obj)} {σ : L2.St} {H : Hp} {s : Shared}
theorem lamO_ok {P : Program} {w : World} {H : Hp} {h : Heap} {f c' : Addr} {qual : Str} {params : Arguments} {body : Expr} {scope : Scope} {pm ct : Value} (e : h.get? f = some (W.kla_obj "<lambda>" qual params body scope [] pm c' ct)) : ObjOk P w H h f (LamO f qual params body scope c') :=
  ⟨⟨pm, ct, e⟩, ⟨_, e⟩, fun _ _ ⟨pm, ct, p⟩ k => ⟨pm, ct, k _ p⟩⟩
theorem lam_make3 {T : List (Addr × Str)} {c P : Addr} {params : Arguments} {body : Expr} {scope : Scope} {pos : Pos} {E : Value → Shared → Prop} {Q : Value → Shared → Prop} (I : Inv X pins σ H s) (TB : TabB X.base X.mg c P) (hcode : X.env.code = .ref c)
    (hm : (P, X.env.qual ++ "<lambda>") ∈ T) (hu : ∀ p ∈ T, p.1 = P → p.2 = X.env.qual ++ "<lambda>") (hT : Tabs T H) (hdef : defaultsOf params X.env = ([], [])) (hfree : ∀ y ∈ scope.names, y.2 = .free → ∃ c, X.env.cells.lookup y.1 = some c) (hclo : cloFrom X.env.cells scope.names [] = [])
    (h : ∀ (f c' : Addr) (H1 : Hp) (s' : Shared), Inv X pins σ H1 s' → ExtN H H1 → Tabs T H1 → H f = none → H1 f = some (LamO f (X.env.qual ++ "<lambda>") params body scope c') → H1 c' = some (CodeO c' (X.env.qual ++ "<lambda>")) → Q (.ref f) s') :
    wpAny (model X.prog X.w) X.A (eval (.Lambda params body scope pos) X.env) Q E s := by
  obtain ⟨ps, hP, ht, ha⟩ := hT _ hm
  refine W.kla_eval hdef ?_
  have bP : s.heap.BuiltinsAt X.mg P := TB.bm.keeps I.bk
  have hP' : s.heap.get? P = some { cls := .none, data := .fields ps } := I.hok P _ hP
  cases hc : codeAmong pos ps.toList with
  | none =>
    refine W.kla_makeFunction (mg := X.mg) (c := c) (P := P) (ps := ps) (closure_ok hfree) I.ok.glob (I.mod.glob.keeps I.bk) hcode (TB.code.keeps I.bk) hP' ht hc TB.gP bP fun c' ctv h' tk hx hge hlt hrec htb => ?_
    rw [hclo]
    obtain ⟨c2, oc, vs, t, e2, hoc, hd, hv⟩ := hrec
    cases e2
    have hsz : s.heap.objs.size ≤ h'.objs.size := Nat.le_trans hge (Nat.le_of_lt hlt)
    have nC : H c' = none := I.hok.fresh hge
    have I1 := inv_table (t' := tk) (more := #[rawInt pos.line, rawInt pos.col, .ref c']) (h' := h') I hP hx htb hge ⟨oc, vs, t, hoc, hd, hv⟩
    have hE : ExtN H (upd (upd H P (.tbl (ps ++ #[rawInt pos.line, rawInt pos.col, .ref c']))) c' (CodeO c' (X.env.qual ++ "<lambda>"))) := fun b o e n => by
      rw [upd_ne (ne_of_none e nC), upd_ne (fun z => n ps (Option.some.inj (e.symm.trans (by rw [z]; exact hP))))]
      exact e
    have eL : (ps ++ #[rawInt pos.line, rawInt pos.col, .ref c']).toList = ps.toList ++ [rawInt pos.line, rawInt pos.col, .ref c'] := by simp
    have hTT : Tabs T (upd (upd H P (.tbl (ps ++ #[rawInt pos.line, rawInt pos.col, .ref c']))) c' (CodeO c' (X.env.qual ++ "<lambda>"))) := fun p hp => by
      by_cases hb : p.1 = P
      · rw [hu p hp hb, hb]
        refine ⟨_, by rw [upd_ne (ne_of_none hP nC), upd_same], by rw [eL]; exact PySem.TriplesOk_snoc _ _ _ _ ht, fun p' cv hcv => ?_⟩
        rw [eL] at hcv
        rcases among_app _ ht hcv with z | z
        · obtain ⟨c0, e1, e2⟩ := ha p' cv z
          exact ⟨c0, e1, hE _ _ e2 codeO_ne⟩
        · exact ⟨c', z, upd_same⟩
      · obtain ⟨ps', a1, a2, a3⟩ := hT p hp
        refine ⟨ps', by rw [upd_ne (ne_of_none a1 nC), upd_ne hb]; exact a1, a2, fun p' cv hcv => ?_⟩
        obtain ⟨c0, e1, e2⟩ := a3 p' cv hcv
        exact ⟨c0, e1, hE _ _ e2 codeO_ne⟩
    have hcn : (upd (upd H P (.tbl (ps ++ #[rawInt pos.line, rawInt pos.col, .ref c']))) c' (CodeO c' (X.env.qual ++ "<lambda>"))) c' = some (CodeO c' (X.env.qual ++ "<lambda>")) := upd_same
    generalize upd (upd H P (.tbl (ps ++ #[rawInt pos.line, rawInt pos.col, .ref c']))) c' (CodeO c' (X.env.qual ++ "<lambda>")) = H1 at I1 hE hTT hcn
    have nF : H1 h'.objs.size = none := I1.hok.fresh (Nat.le_refl _)
    have hsm : ∀ b o, H1 b = some o → upd H1 h'.objs.size (LamO h'.objs.size (X.env.qual ++ "<lambda>") params body scope c') b = some o := fun b o e => by rw [upd_ne (ne_of_none e nF)]; exact e
    exact h h'.objs.size c' _ _ (I1.laid (t' := tk) (o := LamO h'.objs.size (X.env.qual ++ "<lambda>") params body scope c') (fun _ _ e => Heap.get?_push_of_some _ e) (Nat.le_refl _) (lamO_ok (Heap.get?_push_size _ rfl))) (hE.trans (.of hsm)) (hTT.ext hsm) (I.hok.fresh hsz) upd_same (hsm _ _ hcn)
  | some cv =>
    obtain ⟨c', e, hco⟩ := ha pos cv hc
    subst e
    refine W.kla_makeFunctionHit (mg := X.mg) (c := c) (P := P) (ps := ps) (closure_ok hfree) I.ok.glob (I.mod.glob.keeps I.bk) hcode (TB.code.keeps I.bk) hP' ht hc bP fun ctv h' tk hx hsz => ?_
    rw [hclo]
    have I1 : Inv X pins σ H { s with heap := h', toks := tk } := I.kept fun b o e => hx b o e
    have nF : H h'.objs.size = none := I1.hok.fresh (Nat.le_refl _)
    have hsm : ∀ b o, H b = some o → upd H h'.objs.size (LamO h'.objs.size (X.env.qual ++ "<lambda>") params body scope c') b = some o := fun b o e => by rw [upd_ne (ne_of_none e nF)]; exact e
    exact h h'.objs.size c' _ _ (I1.laid (t' := tk) (o := LamO h'.objs.size (X.env.qual ++ "<lambda>") params body scope c') (fun _ _ e => Heap.get?_push_of_some _ e) (Nat.le_refl _) (lamO_ok (Heap.get?_push_size _ rfl))) (.of hsm) (hT.ext hsm) nF upd_same (hsm _ _ hco)
/-- a lambda that captures nothing, as an expression -/
def tLamX (T : List (Addr × Str)) (qual : Str) (params : Arguments) (body : Expr) (scope : Scope) : TE := fun σ H Q => Tabs T H ∧ ∀ (f c' : Addr) (H1 : Hp), ExtN H H1 → Tabs T H1 → H f = none → H1 f = some (LamO f qual params body scope c') → H1 c' = some (CodeO c' qual) → Q (.ref f) H1
theorem pe_lamX {T : List (Addr × Str)} {c P : Addr} {params : Arguments} {body : Expr} {scope : Scope} {pos : Pos} (TB : TabB X.base X.mg c P) (hcode : X.env.code = .ref c)
    (hm : (P, X.env.qual ++ "<lambda>") ∈ T) (hu : ∀ p ∈ T, p.1 = P → p.2 = X.env.qual ++ "<lambda>") (hdef : defaultsOf params X.env = ([], [])) (hfree : ∀ y ∈ scope.names, y.2 ≠ .free) (hclo : cloFrom X.env.cells scope.names [] = []) :
    PE X (.Lambda params body scope pos) (tLamX T (X.env.qual ++ "<lambda>") params body scope) := ⟨fun pins s σ H Q I h => by
  obtain ⟨hT, q⟩ := h
  refine lam_make3 I TB hcode hm hu hT hdef (fun y hy e => absurd e (hfree y hy)) hclo fun f c' H1 s' I1 hE hTT nf e1 e2 => ?_
  exact ⟨.ref f, H1, I1, rfl, q f c' H1 hE hTT nf e1 e2⟩⟩
end
end EW
end

section
set_option maxHeartbeats 4000000
/-! EwLam1: a lambda with parameters and captured names: made, known, handed to a def that calls it. -/
namespace EW
open PySem PySem.Spec PyProof.Rows L2 LamX NdefX
/-- a lambda's words, the cells that it captured, its code object -/
structure LF where
  qual : Str
  params : Arguments
  body : Expr
  scope : Scope
  cl : List (Str × Addr)
  c : Addr
abbrev LF.nf (F : LF) : NF := ⟨"<lambda>", F.qual, F.params, [], F.scope, F.cl, F.c⟩
abbrev LF.fd (F : LF) (pm ctv : Value) : FuncData := W.kla_fn "<lambda>" F.qual F.params F.body F.scope F.cl pm (.ref F.c) ctv
/-- the object at f is the lambda F -/
def LO (f : Addr) (F : LF) : HO := .ext fun h => ∃ pm ctv, h.get? f = some (W.kla_obj "<lambda>" F.qual F.params F.body F.scope F.cl pm F.c ctv)
theorem lo_ok {P : Program} {w : World} {H : Hp} {h : Heap} {f : Addr} {F : LF} {pm ctv : Value} (e : h.get? f = some (W.kla_obj "<lambda>" F.qual F.params F.body F.scope F.cl pm F.c ctv)) : ObjOk P w H h f (LO f F) :=
  ⟨⟨pm, ctv, e⟩, ⟨_, e⟩, fun _ _ ⟨pm, ct, p⟩ k => ⟨pm, ct, k _ p⟩⟩
theorem lo_ne {f : Addr} {F : LF} (ps : Array Value) : LO f F ≠ .tbl ps := fun z => by
  unfold LO at z
  cases z
theorem lo_at {P : Program} {w : World} {H : Hp} {h : Heap} {f : Addr} {F : LF} (hok : HOk P w H h) (e : H f = some (LO f F)) : ∃ pm ctv, h.get? f = some (W.kla_obj "<lambda>" F.qual F.params F.body F.scope F.cl pm F.c ctv) := (hok f _ e).1
section
variable {X : Cx} {pins : List (Addr × Obj)} {σ : L2.St} {H : Hp} {s : Shared}
theorem lam_make4 {T : List (Addr × Str)} {c P : Addr} {params : Arguments} {body : Expr} {scope : Scope} {pos : Pos} {E : Value → Shared → Prop} {Q : Value → Shared → Prop} (I : Inv X pins σ H s) (TB : TabB X.base X.mg c P) (hcode : X.env.code = .ref c)
    (hm : (P, X.env.qual ++ "<lambda>") ∈ T) (hu : ∀ p ∈ T, p.1 = P → p.2 = X.env.qual ++ "<lambda>") (hT : Tabs T H) (hdef : defaultsOf params X.env = ([], [])) (hfree : ∀ y ∈ scope.names, y.2 = .free → ∃ c, X.env.cells.lookup y.1 = some c)
    (h : ∀ (f c' : Addr) (H1 : Hp) (s' : Shared), Inv X pins σ H1 s' → ExtN H H1 → Tabs T H1 → H f = none → H1 f = some (LO f ⟨X.env.qual ++ "<lambda>", params, body, scope, cloFrom X.env.cells scope.names [], c'⟩) → H1 c' = some (CodeO c' (X.env.qual ++ "<lambda>")) → Q (.ref f) s') :
    wpAny (model X.prog X.w) X.A (eval (.Lambda params body scope pos) X.env) Q E s := by
  obtain ⟨ps, hP, ht, ha⟩ := hT _ hm
  refine W.kla_eval hdef ?_
  have bP : s.heap.BuiltinsAt X.mg P := TB.bm.keeps I.bk
  have hP' : s.heap.get? P = some { cls := .none, data := .fields ps } := I.hok P _ hP
  cases hc : codeAmong pos ps.toList with
  | none =>
    refine W.kla_makeFunction (mg := X.mg) (c := c) (P := P) (ps := ps) (closure_ok hfree) I.ok.glob (I.mod.glob.keeps I.bk) hcode (TB.code.keeps I.bk) hP' ht hc TB.gP bP fun c' ctv h' tk hx hge hlt hrec htb => ?_
    obtain ⟨c2, oc, vs, t, e2, hoc, hd, hv⟩ := hrec
    cases e2
    have hsz : s.heap.objs.size ≤ h'.objs.size := Nat.le_trans hge (Nat.le_of_lt hlt)
    have nC : H c' = none := I.hok.fresh hge
    have I1 := inv_table (t' := tk) (more := #[rawInt pos.line, rawInt pos.col, .ref c']) (h' := h') I hP hx htb hge ⟨oc, vs, t, hoc, hd, hv⟩
    have hE : ExtN H (upd (upd H P (.tbl (ps ++ #[rawInt pos.line, rawInt pos.col, .ref c']))) c' (CodeO c' (X.env.qual ++ "<lambda>"))) := fun b o e n => by
      rw [upd_ne (ne_of_none e nC), upd_ne (fun z => n ps (Option.some.inj (e.symm.trans (by rw [z]; exact hP))))]
      exact e
    have eL : (ps ++ #[rawInt pos.line, rawInt pos.col, .ref c']).toList = ps.toList ++ [rawInt pos.line, rawInt pos.col, .ref c'] := by simp
    have hTT : Tabs T (upd (upd H P (.tbl (ps ++ #[rawInt pos.line, rawInt pos.col, .ref c']))) c' (CodeO c' (X.env.qual ++ "<lambda>"))) := fun p hp => by
      by_cases hb : p.1 = P
      · rw [hu p hp hb, hb]
        refine ⟨_, by rw [upd_ne (ne_of_none hP nC), upd_same], by rw [eL]; exact PySem.TriplesOk_snoc _ _ _ _ ht, fun p' cv hcv => ?_⟩
        rw [eL] at hcv
        rcases among_app _ ht hcv with z | z
        · obtain ⟨c0, e1, e2⟩ := ha p' cv z
          exact ⟨c0, e1, hE _ _ e2 codeO_ne⟩
        · exact ⟨c', z, upd_same⟩
      · obtain ⟨ps', a1, a2, a3⟩ := hT p hp
        refine ⟨ps', by rw [upd_ne (ne_of_none a1 nC), upd_ne hb]; exact a1, a2, fun p' cv hcv => ?_⟩
        obtain ⟨c0, e1, e2⟩ := a3 p' cv hcv
        exact ⟨c0, e1, hE _ _ e2 codeO_ne⟩
    have hcn : (upd (upd H P (.tbl (ps ++ #[rawInt pos.line, rawInt pos.col, .ref c']))) c' (CodeO c' (X.env.qual ++ "<lambda>"))) c' = some (CodeO c' (X.env.qual ++ "<lambda>")) := upd_same
    generalize upd (upd H P (.tbl (ps ++ #[rawInt pos.line, rawInt pos.col, .ref c']))) c' (CodeO c' (X.env.qual ++ "<lambda>")) = H1 at I1 hE hTT hcn
    have nF : H1 h'.objs.size = none := I1.hok.fresh (Nat.le_refl _)
    have hsm : ∀ b o, H1 b = some o → upd H1 h'.objs.size (LO h'.objs.size ⟨X.env.qual ++ "<lambda>", params, body, scope, cloFrom X.env.cells scope.names [], c'⟩) b = some o := fun b o e => by rw [upd_ne (ne_of_none e nF)]; exact e
    exact h h'.objs.size c' _ _ (I1.laid (t' := tk) (o := LO h'.objs.size ⟨X.env.qual ++ "<lambda>", params, body, scope, cloFrom X.env.cells scope.names [], c'⟩) (fun _ _ e => Heap.get?_push_of_some _ e) (Nat.le_refl _) (lo_ok (Heap.get?_push_size _ rfl))) (hE.trans (.of hsm)) (hTT.ext hsm) (I.hok.fresh hsz) upd_same (hsm _ _ hcn)
  | some cv =>
    obtain ⟨c', e, hco⟩ := ha pos cv hc
    subst e
    refine W.kla_makeFunctionHit (mg := X.mg) (c := c) (P := P) (ps := ps) (closure_ok hfree) I.ok.glob (I.mod.glob.keeps I.bk) hcode (TB.code.keeps I.bk) hP' ht hc bP fun ctv h' tk hx hsz => ?_
    have I1 : Inv X pins σ H { s with heap := h', toks := tk } := I.kept fun b o e => hx b o e
    have nF : H h'.objs.size = none := I1.hok.fresh (Nat.le_refl _)
    have hsm : ∀ b o, H b = some o → upd H h'.objs.size (LO h'.objs.size ⟨X.env.qual ++ "<lambda>", params, body, scope, cloFrom X.env.cells scope.names [], c'⟩) b = some o := fun b o e => by rw [upd_ne (ne_of_none e nF)]; exact e
    exact h h'.objs.size c' _ _ (I1.laid (t' := tk) (o := LO h'.objs.size ⟨X.env.qual ++ "<lambda>", params, body, scope, cloFrom X.env.cells scope.names [], c'⟩) (fun _ _ e => Heap.get?_push_of_some _ e) (Nat.le_refl _) (lo_ok (Heap.get?_push_size _ rfl))) (.of hsm) (hT.ext hsm) nF upd_same (hsm _ _ hco)
/-- a lambda, as an expression -/
def tLamC (T : List (Addr × Str)) (mk : Addr → LF) : TE := fun σ H Q => Tabs T H ∧ ∀ (f c' : Addr) (H1 : Hp), ExtN H H1 → Tabs T H1 → H f = none → H1 f = some (LO f (mk c')) → H1 (mk c').c = some (CodeO (mk c').c (mk c').qual) → Q (.ref f) H1
/-- the lambda that X makes of these words -/
abbrev lamMk (X : Cx) (params : Arguments) (body : Expr) (scope : Scope) (c' : Addr) : LF := ⟨X.env.qual ++ "<lambda>", params, body, scope, cloFrom X.env.cells scope.names [], c'⟩
theorem pe_lamC {T : List (Addr × Str)} {c P : Addr} {params : Arguments} {body : Expr} {scope : Scope} {pos : Pos} (TB : TabB X.base X.mg c P) (hcode : X.env.code = .ref c)
    (hm : (P, X.env.qual ++ "<lambda>") ∈ T) (hu : ∀ p ∈ T, p.1 = P → p.2 = X.env.qual ++ "<lambda>") (hdef : defaultsOf params X.env = ([], []))
    (hfree : ∀ y ∈ scope.names, y.2 = .free → X.env.scope.names.lookup y.1 = some .cell ∨ X.env.scope.names.lookup y.1 = some .free) :
    PE X (.Lambda params body scope pos) (tLamC T (lamMk X params body scope)) := ⟨fun pins s σ H Q I h => by
  obtain ⟨hT, q⟩ := h
  have hfr : ∀ y ∈ scope.names, y.2 = .free → ∃ c, X.env.cells.lookup y.1 = some c := fun y hy e => (hfree y hy e).elim (fun z => I.ok.has _ (.inl z)) fun z => I.ok.has _ (.inr z)
  refine lam_make4 I TB hcode hm hu hT hdef hfr fun f c' H1 s' I1 hE hTT nf e1 e2 => ?_
  exact ⟨.ref f, H1, I1, rfl, q f c' H1 hE hTT nf e1 e2⟩⟩
end
/-! ### cells that are held: known to the object while another def runs -/
abbrev Fz (o : Obj) : HO := .frz o (.ext fun _ => True)
def IsCap (cl : List (Str × Addr)) (c : Addr) : Prop := ∃ y, cl.lookup y = some c
/-- H' is H without the cells -/
def Drp (cl : List (Str × Addr)) (H H' : Hp) : Prop := (∀ b, IsCap cl b → H' b = none) ∧ ∀ b, ¬ IsCap cl b → H' b = H b
/-- Hp' is H', the cells as in Hp -/
def Rtk (cl : List (Str × Addr)) (Hp H' Hp' : L2.Hp) : Prop := (∀ b, IsCap cl b → Hp' b = Hp b) ∧ ∀ b, ¬ IsCap cl b → Hp' b = H' b
structure CellsH (cl : List (Str × Addr)) (fr : List Str) (ws : List (Option V)) (H : Hp) : Prop where
  len : ws.length = fr.length
  all : ∀ c, IsCap cl c → ∃ o v, H c = some (Fz o) ∧ o.data = .cell v
  inj : ∀ x y c, cl.lookup x = some c → cl.lookup y = some c → x = y
  has : ∀ (i : Nat) (y : Str), fr[i]? = some y → ∃ c o, cl.lookup y = some c ∧ H c = some (Fz o) ∧ ∀ v, ws[i]? = some (some v) → ∃ u, L2.RelV v u ∧ o.data = .cell (some u)
theorem fz_ok {P : Program} {w : World} {H : Hp} {h : Heap} {c : Addr} {o : Obj} (e : h.get? c = some o) : ObjOk P w H h c (Fz o) := ⟨e, True.intro, ⟨o, e⟩, fun _ _ _ _ => True.intro⟩
theorem fz_lst {o : Obj} {xs : List V} : Fz o ≠ .lst xs := fun z => by cases z
section
variable {P : Program} {w : World} {K : W.Frag} {mg : Str → Option Value} {base : Heap} {fr : List Str} {ws : List (Option V)} {cl : List (Str × Addr)} {h h' : Heap} {A : Around} {outer : List Env} {s s' : Shared} {H H' Hp Hp' : L2.Hp} {fs : List Addr}
theorem drp_ex (cl : List (Str × Addr)) (H : L2.Hp) : ∃ H', Drp cl H H' := by
  classical
  exact ⟨fun b => if IsCap cl b then none else H b, fun b hb => if_pos hb, fun b hb => if_neg hb⟩
theorem rtk_ex (cl : List (Str × Addr)) (Hp H' : L2.Hp) : ∃ Hp', Rtk cl Hp H' Hp' := by
  classical
  exact ⟨fun b => if IsCap cl b then Hp b else H' b, fun b hb => if_pos hb, fun b hb => if_neg hb⟩
/-- what is no cell stands in both -/
theorem Drp.at (d : Drp cl Hp H) (C : CellsH cl fr ws Hp) {b : Addr} {u : HO} (e : Hp b = some u) (n : ∀ o, u ≠ Fz o) : H b = some u := by
  by_cases c : IsCap cl b
  · obtain ⟨o, v, e1, _⟩ := C.all b c
    rw [e] at e1
    exact absurd (Option.some.inj e1) (n o)
  · rw [d.2 b c]
    exact e
theorem Drp.up (d : Drp cl Hp H) {b : Addr} {u : HO} (e : H b = some u) : Hp b = some u ∧ ¬ IsCap cl b := by
  by_cases c : IsCap cl b
  · rw [d.1 b c] at e
    cases e
  · rw [← d.2 b c]
    exact ⟨e, c⟩
theorem drp_ok (d : Drp cl Hp H) (C : CellsH cl fr ws Hp) (ok : HOk P w Hp h) : HOk P w H h := fun b u e => by
  obtain ⟨e1, _⟩ := d.up e
  exact (ok b u e1).stay (fun _ _ _ q => q) (fun c q => d.at C q fun o z => by cases z) fun c xs q => d.at C q fun o z => by cases z
theorem unhold (C : CellsH cl fr ws Hp) (e0 : Env0 P w K mg base A outer s Hp) (d : Drp cl Hp H) : Env0 P w K mg base A outer s H ∧ CellsAt cl fr ws s.heap H := by
  have nn : ∀ b, Hp b = none → H b = none := fun b e => by
    by_cases c : IsCap cl b
    · exact d.1 b c
    · rw [d.2 b c]
      exact e
  have at_ : ∀ c o, Hp c = some (Fz o) → s.heap.get? c = some o := fun c o e => (e0.hok c _ e).1
  refine ⟨⟨e0.frames, e0.mod, fun b o e => ⟨(e0.bs b o e).1, nn b (e0.bs b o e).2⟩, e0.bsz, e0.funs, fun b hb => nn b (e0.frf b hb), drp_ok d C e0.hok, e0.bare⟩, C.len, fun y c e => ?_, C.inj, fun i y e => ?_⟩
  · obtain ⟨o, v, e1, e2⟩ := C.all c ⟨y, e⟩
    exact ⟨d.1 c ⟨y, e⟩, v, o, at_ c o e1, e2⟩
  · obtain ⟨c, o, e1, e2, e3⟩ := C.has i y e
    refine ⟨c, e1, fun v hv => ?_⟩
    obtain ⟨u, r, e4⟩ := e3 v hv
    exact ⟨u, r, o, at_ c o e2, e4⟩
theorem hold (C : CellsAt cl fr ws s.heap H) (e0 : Env0 P w K mg base A outer s H) (nb : ∀ c, IsCap cl c → base.get? c = none) (nf : ∀ c, IsCap cl c → c ∉ frs outer) : ∃ Hp, CellsH cl fr ws Hp ∧ Drp cl Hp H ∧ Env0 P w K mg base A outer s Hp := by
  classical
  let Hp : L2.Hp := fun b => if IsCap cl b then (s.heap.get? b).map Fz else H b
  have p1 : ∀ b, ¬ IsCap cl b → Hp b = H b := fun b c => if_neg c
  have p2 : ∀ b o, IsCap cl b → s.heap.get? b = some o → Hp b = some (Fz o) := fun b o c e => by
    show (if IsCap cl b then (s.heap.get? b).map Fz else H b) = _
    rw [if_pos c, e]
    rfl
  have hn : ∀ b, IsCap cl b → H b = none := fun b ⟨y, e⟩ => (C.all y b e).1
  have same : ∀ b u, H b = some u → Hp b = some u := fun b u e => by
    rw [p1 b fun c => by rw [hn b c] at e; cases e]
    exact e
  refine ⟨Hp, ⟨C.len, fun c hc => ?_, C.inj, fun i y e => ?_⟩, ⟨hn, fun b c => (p1 b c).symm⟩, ⟨e0.frames, e0.mod, fun b o e => ⟨(e0.bs b o e).1, ?_⟩, e0.bsz, e0.funs, fun b hb => ?_, fun b u e => ?_, e0.bare⟩⟩
  · obtain ⟨y, e⟩ := id hc
    obtain ⟨_, v, o, h1, h2⟩ := C.all y c e
    exact ⟨o, v, p2 c o hc h1, h2⟩
  · obtain ⟨c, h1, h2⟩ := C.has i y e
    obtain ⟨_, v, o, h3, h4⟩ := C.all y c h1
    refine ⟨c, o, h1, p2 c o ⟨y, h1⟩ h3, fun v hv => ?_⟩
    obtain ⟨u, r, o', h5, h6⟩ := h2 v hv
    rw [h3] at h5
    cases h5
    exact ⟨u, r, h6⟩
  · rw [p1 b fun c => by rw [nb b c] at e; cases e]
    exact (e0.bs b o e).2
  · rw [p1 b fun c => nf b c hb]
    exact e0.frf b hb
  · by_cases c : IsCap cl b
    · obtain ⟨y, ey⟩ := id c
      obtain ⟨_, v, o, h3, _⟩ := C.all y b ey
      rw [p2 b o c h3] at e
      cases e
      exact fz_ok h3
    · rw [p1 b c] at e
      exact (e0.hok b u e).stay (fun _ _ _ q => q) (fun _ q => same _ _ q) fun _ _ q => same _ _ q
theorem un_hold (C : CellsH cl fr ws Hp) (ok : HOk P w Hp h) (d : Drp cl Hp H) (u : Un fs [] Hp Hp' h h') (ok' : HOk P w Hp' h') (d' : Drp cl Hp' H') : Un fs [] H H' h h' ∧ HOk P w H' h' := by
  have fz : ∀ b, IsCap cl b → ∃ o, Hp b = some (Fz o) ∧ Hp' b = some (Fz o) ∧ h.get? b = some o ∧ h'.get? b = some o := fun b c => by
    obtain ⟨o, v, e1, _⟩ := C.all b c
    have e2 := u.frzs b o _ e1
    exact ⟨o, e1, e2, (ok b _ e1).1, (ok' b _ e2).1⟩
  have up : ∀ b x, H b = some x → Hp b = some x ∧ ¬ IsCap cl b := fun b x e => d.up e
  refine ⟨⟨fun b o e n hb hx => ?_, fun b o e n hb hx => ?_, fun b o e n hx => ?_, u.there, fun b xs e => ?_, fun b o x e => ?_, fun b ps e => ?_⟩, fun b x e => ?_⟩
  · by_cases c : IsCap cl b
    · obtain ⟨o', _, _, e3, e4⟩ := fz b c
      rw [e] at e3
      cases e3
      exact e4
    · exact u.keep b o e (by rw [← d.2 b c]; exact n) hb hx
  · by_cases c : IsCap cl b
    · obtain ⟨o', _, _, e3, e4⟩ := fz b c
      rw [e] at e3
      cases e3
      exact ⟨o.slots, e4⟩
    · exact u.slot b o e (by rw [← d.2 b c]; exact n) hb hx
  · by_cases c : IsCap cl b
    · exact d'.1 b c
    · rw [d'.2 b c]
      exact u.free b o e (by rw [← d.2 b c]; exact n) hx
  · obtain ⟨e1, c⟩ := up b _ e
    rw [d'.2 b c]
    exact u.tups b xs e1
  · obtain ⟨e1, c⟩ := up b _ e
    rw [d'.2 b c]
    exact u.frzs b o x e1
  · obtain ⟨e1, c⟩ := up b _ e
    rw [d'.2 b c]
    exact u.tbls b ps e1
  · obtain ⟨e1, _⟩ := d'.up e
    have at' : ∀ b x, Hp' b = some x → (∀ o, x ≠ Fz o) → H' b = some x := fun b x e n => by
      by_cases c : IsCap cl b
      · obtain ⟨o, _, e2, _⟩ := fz b c
        rw [e] at e2
        exact absurd (Option.some.inj e2) (n o)
      · rw [d'.2 b c]
        exact e
    exact (ok' b x e1).stay (fun _ _ _ q => q) (fun _ q => at' _ _ q fun o z => by cases z) fun _ _ q => at' _ _ q fun o z => by cases z
theorem un_unhold (C : CellsH cl fr ws Hp) (ok : HOk P w Hp h) (nf : ∀ b ∈ fs, Hp b = none) (d : Drp cl Hp H) (u : Un fs [] H H' h h') (ok' : HOk P w H' h') (r : Rtk cl Hp H' Hp') : Un fs [] Hp Hp' h h' ∧ HOk P w Hp' h' := by
  have fz : ∀ b, IsCap cl b → ∃ o, Hp b = some (Fz o) ∧ Hp' b = some (Fz o) ∧ h.get? b = some o ∧ h'.get? b = some o ∧ H' b = none := fun b c => by
    obtain ⟨o, v, e1, _⟩ := C.all b c
    have e3 := (ok b _ e1).1
    have nb : b ∉ fs := fun hb => by
      rw [nf b hb] at e1
      cases e1
    exact ⟨o, e1, by rw [r.1 b c]; exact e1, e3, u.keep b o e3 (d.1 b c) nb (by simp), u.free b o e3 (d.1 b c) (by simp)⟩
  have dn : ∀ b x, Hp b = some x → (∀ o, x ≠ Fz o) → H b = some x ∧ ¬ IsCap cl b := fun b x e n => by
    refine ⟨d.at C e n, fun c => ?_⟩
    obtain ⟨o, e1, _⟩ := fz b c
    rw [e] at e1
    exact n o (Option.some.inj e1)
  have up : ∀ b x, H' b = some x → Hp' b = some x := fun b x e => by
    by_cases c : IsCap cl b
    · obtain ⟨_, _, _, _, _, e5⟩ := fz b c
      rw [e5] at e
      cases e
    · rw [r.2 b c]
      exact e
  refine ⟨⟨fun b o e n hb hx => ?_, fun b o e n hb hx => ?_, fun b o e n hx => ?_, u.there, fun b xs e => ?_, fun b o x e => ?_, fun b ps e => ?_⟩, fun b x e => ?_⟩
  · by_cases c : IsCap cl b
    · obtain ⟨o', e1, _⟩ := fz b c
      rw [n] at e1
      cases e1
    · exact u.keep b o e (by rw [d.2 b c]; exact n) hb hx
  · by_cases c : IsCap cl b
    · obtain ⟨o', e1, _⟩ := fz b c
      rw [n] at e1
      cases e1
    · exact u.slot b o e (by rw [d.2 b c]; exact n) hb hx
  · by_cases c : IsCap cl b
    · obtain ⟨o', e1, _⟩ := fz b c
      rw [n] at e1
      cases e1
    · rw [r.2 b c]
      exact u.free b o e (by rw [d.2 b c]; exact n) hx
  · exact up b _ (u.tups b xs (dn b _ e fun o z => by cases z).1)
  · by_cases c : IsCap cl b
    · rw [r.1 b c]
      exact e
    · rw [r.2 b c]
      exact u.frzs b o x (by rw [d.2 b c]; exact e)
  · obtain ⟨more, e1⟩ := u.tbls b ps (dn b _ e fun o z => by cases z).1
    exact ⟨more, up b _ e1⟩
  · by_cases c : IsCap cl b
    · obtain ⟨o, _, e2, _, e4, _⟩ := fz b c
      rw [e2] at e
      cases e
      exact fz_ok e4
    · rw [r.2 b c] at e
      exact (ok' b x e).stay (fun _ _ _ q => q) (fun _ q => up _ _ q) fun _ _ q => up _ _ q
end
/-! ### what it promises -/
section
variable {P : Program} {w : World} {K : W.Frag} {mg : Str → Option Value} {base : Heap} {N ps fr : List Str} {F : LF} {f : Addr} {k j : Nat} {ws : List (Option V)}
/-- the lambda F at f; sp ws: ws what its captured cells hold at the call -/
structure LOk (P : Program) (w : World) (K : W.Frag) (mg : Str → Option Value) (base : Heap) (k : Nat) (f : Addr) (F : LF) (fr : List Str) (sp : List (Option V) → Sp) : Prop where
  run : ∀ (A : Around) (outer : List Env) (s : Shared) (H : Hp) (us : List Value) (vs : List V) (ws : List (Option V)) (Q : VK) (E : XK), Room k A → Env0 P w K mg base A outer s H → H f = some (LO f F) → H F.c = some (CodeO F.c F.qual) →
    CellsAt F.cl fr ws s.heap H → Vals vs us → sp ws vs H Q E → codeAny (model P w) A (.call (.ref f) ⟨us, []⟩) (CR CX0 outer P w H s Q E) s
theorem lok_of {sp : List (Option V) → Sp} (S : NScope N ps fr F.scope) (hb : ∀ (pm ctv : Value) (us : List Value), us.length = ps.length → bindArgs (F.fd pm ctv) ⟨us, []⟩ = pure (ps.zip us)) (len : ∀ ws vs H Q E, sp ws vs H Q E → vs.length = ps.length)
    (hbody : ∀ (A : Around) (outer : List Env) (s : Shared) (H : Hp) (vs : List V) (ws : List (Option V)) (Q : VK) (E : XK), Room k (A.deeper (envF F.nf f s.heap.objs.size)) → ws.length = fr.length → sp ws vs H Q E →
      ∃ t, PE (ncx CX0 P w K mg base N F.nf f A outer s H E) F.body t ∧ t (startF N vs ws) H Q) :
    LOk P w K mg base (k + 1) f F fr sp := by
  refine ⟨fun A outer s H us vs ws Q E hr e0 hf hc C r hsp => ?_⟩
  have hl := len _ _ _ _ _ hsp
  have lim : s.heap.NoLimit := e0.mod.nolimit.keeps fun b o e => (e0.bs b o e).1
  obtain ⟨pm, ctv, ho⟩ := lo_at e0.hok hf
  refine W.kla_callFunE hr.depth ho rfl S.co S.gen rfl (codeO_at e0.hok hc) ?_
  rw [show bindArgs (W.kla_fn "<lambda>" F.qual F.params F.body F.scope F.cl pm (.ref F.c) ctv) ⟨us, []⟩ = pure (ps.zip us) from hb pm ctv us (by rw [← r.length]; exact hl)]
  refine wpAny_pure (wpAny_newFunctionEnv S.nocell (fun ⟨n, _⟩ hy => S.par n (List.of_mem_zip hy).1) (fun h₁ hns hsb => ⟨lim.fresh _ hsb, ?_⟩) S.kind)
  show codeAny _ _ (.expr F.body (envF F.nf f s.heap.objs.size)) _ _
  have kp : ∀ b o, s.heap.get? b = some o → h₁.get? b = some o := fun b o e => hsb.extBut b o (Nat.ne_of_lt (Heap.lt_size e)) (Heap.get?_push_of_some _ e)
  obtain ⟨t, ht, hq⟩ := hbody A outer s H vs ws Q E (hr.deeper _) C.len hsp
  have I : Inv (ncx CX0 P w K mg base N F.nf f A outer s H E) [] (startF N vs ws) H { s with heap := h₁, toks := s.toks + (ps.zip us).length } := inv_startN (F := F.nf) S hr.hd e0 hl r C hns kp
  refine W.kla_codeExpr (wpAny_mono (ht.run [] _ (startF N vs ws) H _ I hq) (fun v s' hq => ?_) fun e s' hq => hq)
  obtain ⟨w', H', J', rv, q⟩ := hq
  exact ⟨w', H', J'.os, J'.bare, J'.base, J'.hok, rv, q⟩
/-- what f is good for -/
def Cb (P : Program) (w : World) (K : W.Frag) (mg : Str → Option Value) (base : Heap) (k : Nat) (f : Addr) (sp : Sp) : Prop :=
  ∀ (A : Around) (outer : List Env) (s : Shared) (H : Hp) (us : List Value) (vs : List V) (Q : VK) (E : XK), Room k A → Env0 P w K mg base A outer s H → Vals vs us → sp vs H Q E → codeAny (model P w) A (.call (.ref f) ⟨us, []⟩) (CR CX0 outer P w H s Q E) s
/-- the lambda, its cells held -/
def spHeld (f : Addr) (F : LF) (fr : List Str) (ws : List (Option V)) (sp : List (Option V) → Sp) : Sp := fun vs Hp Q E => Hp f = some (LO f F) ∧ Hp F.c = some (CodeO F.c F.qual) ∧ CellsH F.cl fr ws Hp ∧ ∀ H, Drp F.cl Hp H → sp ws vs H (fun v H' => ∀ Hp', Rtk F.cl Hp H' Hp' → Q v Hp') E
theorem cb_of {sp : List (Option V) → Sp} (L : LOk P w K mg base k f F fr sp) : Cb P w K mg base k f (spHeld f F fr ws sp) := by
  intro A outer s Hp us vs Q E hr e0 r ⟨hf, hc, C, h⟩
  obtain ⟨H, d⟩ := drp_ex F.cl Hp
  obtain ⟨e1, CA⟩ := unhold C e0 d
  have hf' := d.at C hf fun o z => by unfold LO at z; cases z
  have hc' := d.at C hc fun o z => by unfold CodeO at z; cases z
  refine codeAny_mono (L.run A outer s H us vs ws _ E hr e1 hf' hc' CA r (h H d)) fun r s' hq => ?_
  cases r with
  | error e => exact (show False from hq).elim
  | ok fl =>
    cases fl with
    | ret u =>
      obtain ⟨v, H', os, bare, un, hok, rv, q⟩ := hq
      obtain ⟨Hp', rk⟩ := rtk_ex F.cl Hp H'
      obtain ⟨un', ok'⟩ := un_unhold C e0.hok e0.frf d un hok rk
      exact ⟨v, Hp', os, bare, un', ok', rv, q Hp' rk⟩
    | next => exact False.elim hq
    | brk => exact False.elim hq
    | cont => exact False.elim hq
end
section
variable {X : Cx} {k j : Nat} {ps : List Str} {x : Str} {p pos : Pos} {e : Expr} {es : List Expr} {t : TA}
theorem fnAt_lo {pins : List (Addr × Obj)} {σ : L2.St} {H : Hp} {s : Shared} {f : Addr} (I : Inv X pins σ H s) (e : ∃ F, H f = some (LO f F)) : W.FnAt f s.heap := by
  obtain ⟨F, e⟩ := e
  obtain ⟨pm, ctv, ho⟩ := lo_at I.hok e
  exact ⟨_, _, _, _, ho⟩
/-- x(..), x a name that holds a lambda -/
theorem pe_cb {i : Nat} {f : Addr} {sp : Sp} (a : Cb X.prog X.w X.K X.mg X.base k f sp) (hr : Room j X.A) (hk : k ≤ j) (hN : X.N[i]? = some x) (hv : Vis X.env.scope x) (ha : PA X (e :: es) t)
    (hd : (x == ("__debug__" : Str)) = false := by decide) (hcd : (x == ("__classdict__" : Str)) = false := by decide)
    (he : starEach (e :: es) X.env = (false, eval e X.env) :: starEach es X.env := by rfl) (hpl : (backTo pos (starEach es X.env)).any (·.1) = false := by rfl) :
    PE X (.Call (.Name x p) (e :: es) [] pos) (fun σ H Q => σ[i]? = some (some (.ref f)) ∧ (∃ F, H f = some (LO f F)) ∧ t σ H fun vs H1 => (∃ F, H1 f = some (LO f F)) ∧ sp vs H1 Q E0) := by
  refine ⟨fun pins s σ H Q I h => ?_⟩
  obtain ⟨hs, hf, ht⟩ := h
  refine wpAny_Call_Name_kw (thn ((pe_var (pos := p) hN hv hd hcd).run pins s σ H (fun v H1 => v = .ref f ∧ H1 = H) I ⟨.ref f, hs, rfl, rfl⟩) fun u s1 ⟨v, H1, I1, r1, q1⟩ => ?_)
  obtain ⟨ev, eH⟩ := q1
  subst ev
  rw [eH] at I1
  obtain rfl : u = Value.ref f := r1
  refine W.callWith_F (first := []) (fnAt_lo I1 hf) (thn (ha.run pos pins s1 σ H _ I1 ht) fun us s2 ⟨vs, H2, I2, r, h1, q⟩ => ⟨fnAt_lo I2 h1, ?_⟩) he hpl
  show wpAny _ _ (call (.ref f) us) _ _ _
  refine wpAny_call (codeAny_mono (a X.A X.stack s2 H2 us vs Q E0 (hr.mono hk) I2.env0 r q) fun r s' hq => ?_)
  cases r with
  | error e => exact (show False from hq).elim
  | ok fl =>
    cases fl with
    | ret u => exact I2.after hq
    | next => exact False.elim hq
    | brk => exact False.elim hq
    | cont => exact False.elim hq
/-- x(..), x a def, while some of the running def's own cells are held -/
theorem pe_dfH {sp : Sp} {cl : List (Str × Addr)} {fr : List Str} {js : List Nat} (cp : X.Ok → Caps X cl fr js) (hfn : ∀ x, X.fn x = true) (D : Df X.prog X.w X.K X.mg X.base k x ps sp) (hr : Room k X.A) (hg : Gl X x) (ha : PA X (e :: es) t) (hdb : (x == ("__debug__" : Str)) = false := by decide)
    (he : starEach (e :: es) X.env = (false, eval e X.env) :: starEach es X.env := by rfl) (hpl : (backTo pos (starEach es X.env)).any (·.1) = false := by rfl) :
    PE X (.Call (.Name x p) (e :: es) [] pos) (fun σ H Q => t σ H fun vs H1 => ∀ Hp, CellsH cl fr (js.map (slotAt σ)) Hp → Drp cl Hp H1 → sp vs Hp (fun v Hp' => ∀ H', Drp cl Hp' H' → Q v H') E0) := by
  obtain ⟨fd, F, b⟩ := D.ex
  refine ⟨fun pins s σ H Q I h => ?_⟩
  refine wpAny_Call_Name_kw (ld_glob I hg D.gl ?_ hdb)
  refine W.callWith_K (h₀ := X.base) I.ok.mod.kin D.kp (thn (ha.run pos pins s σ H _ I h) fun us s1 ⟨vs, H1, I1, r, q⟩ => ⟨I1.kIn, ?_⟩) he hpl
  have cp1 := cp I1.ok
  have own : ∀ c, IsCap cl c → X.s_0.heap.objs.size ≤ c ∧ c ≠ X.env.locals := fun c ⟨y, e⟩ => ⟨I1.ok.cab y c (hfn y) (cp1.sub y c e), I1.cne y c (cp1.sub y c e)⟩
  obtain ⟨Hp, C, d, e0⟩ := hold (cells_of I1 cp1) I1.env0 (fun c hc => Heap.get?_none_of_le (Nat.le_trans I1.ok.bsz (own c hc).1)) (fun c hc z => by
    rcases List.mem_cons.mp (I1.stkSub c z) with e | e
    · exact (own c hc).2 e
    · obtain ⟨_, o, ho, _⟩ := I1.ok.funs.mem e
      exact Nat.lt_irrefl _ (Nat.lt_of_lt_of_le (Heap.lt_size ho) (own c hc).1))
  have q := q Hp C d
  have hl : (us ++ []).length = ps.length := by rw [List.append_nil, ← r.length]; exact F.len _ _ _ _ q
  have hb := b s1 us I1.kIn hl
  rw [List.append_nil] at hb
  refine wpAny_call (codeAny_mono (F.run X.A X.stack s1 Hp ⟨us, []⟩ us vs _ E0 hr e0 hb r q) fun r s' hq => ?_)
  cases r with
  | error e => exact (show False from hq).elim
  | ok fl =>
    cases fl with
    | ret u =>
      obtain ⟨v, Hp', os, bare, un, hok, rv, q⟩ := hq
      obtain ⟨H', d'⟩ := drp_ex cl Hp'
      obtain ⟨un', ok'⟩ := un_hold C e0.hok d un hok d'
      exact I1.after ⟨v, H', os, bare, un', ok', rv, q H' d'⟩
    | next => exact False.elim hq
    | brk => exact False.elim hq
    | cont => exact False.elim hq
end
end EW
end

section
set_option maxHeartbeats 4000000
namespace EW
open PySem PySem.Spec PyProof.Rows L2
section
variable {X : Cx} {k : Nat} {f a kS : Addr} {KeyOf : Hp → V → PyData → Prop} {pins : List (Addr × Obj)} {σ : L2.St} {H : Hp} {s : Shared} {A : Around} {E : Value → Shared → Prop} {P : PySem.Fin → Shared → Prop}
theorem sortD_end {e1 : Nat} {kz : List (PyData)} {ks xs : List V} {Hi : Hp} {vs us : List Value} (hne : a ≠ kS) (ha : H a = none) (h0 : H kS = none) (L : KysD X pins σ H a kS e1 kz ks Hi s) (rv : Vals ks us) (r : Vals xs vs) (hx : ∀ x ∈ xs, ∃ b, x = V.ref b)
    (hl : us.length = vs.length) (hk : kz.length = vs.length) (hz : xs.length ≤ sizeLine) (hal : W.AllAlike kz) (hsk : W.Sortable kz) (hu : ∀ d, d ∈ kz → A.units + d.depth < cLine)
    (q : ∀ ys Hn s', OutD xs kz ys → Inv X pins σ Hn s' → Same H Hn → Hn a = some (.lst ys) → P (.done (.ret .none)) s') : wpAny (model X.prog X.w) A (ksk_end a false vs.toArray e1 (.ref kS) us.toArray) P E s := by
  have ez : (us.toArray.zip vs.toArray).toList = us.zip vs := by simp
  have hsz : vs.toArray.size = vs.length := List.size_toArray
  have hS := W.SortsAt.data (prog := X.prog) (w := X.w) (A := A) (s := s) (each_of (by omega) (keysD_reads L rv)) hal hsk hu
  have ea : s.heap.get? a = some (seqObj "list" #[] e1) := (L.inv.hok a _ L.at_).1
  unfold ksk_end
  try dsimp only
  simp only [Bool.false_eq_true, if_false]
  by_cases h2 : vs.toArray.size < 2
  · rw [if_pos h2, if_pos h2]
    refine wpAny_bind (wpAny_pure ?_)
    rw [StateT.run_pure]
    refine wpAny_bind (wpAny_pure ?_)
    try dsimp only
    refine sortD_tail (st := SortSt.mk' general' (us.toArray.zip vs.toArray) #[] 7 none) hne ha h0 hal L rv r hx hl hk (List.Perm.of_eq ez) ?_ rfl hz q
    show SrtO.Srtd _ (us.toArray.zip vs.toArray).toList
    rw [ez]
    match us, vs, hl, h2 with
    | [], [], _, _ => exact List.Pairwise.nil
    | [u], [v], _, _ => exact List.pairwise_singleton _ _
    | _, _ :: _ :: l, _, h2 => exact absurd h2 (by simp)
    | _ :: _ :: _, [], hl, _ => simp at hl
    | _ :: _ :: _, [_], hl, _ => simp at hl
    | [], [_], hl, _ => simp at hl
    | [_], [], hl, _ => simp at hl
  · rw [if_neg h2, if_neg h2]
    obtain ⟨κ, hlt, hkind⟩ := hS.kind
    have hT : SrtO.Cmp X.prog X.w A s κ (fun p => p.1 ∈ us) (SrtO.lt2 fun v u => tkLt (tkAt s.heap kz v) (tkAt s.heap kz u)) := fun p q hp hq => by
      obtain ⟨x, ex⟩ := hS.keys p.1 hp
      obtain ⟨y, ey⟩ := hS.keys q.1 hq
      refine hlt _ p.1 q.1 x y ex ey ⟨rfl, ?_⟩
      show _ = tkLt (tkAt s.heap kz p.1) (tkAt s.heap kz q.1)
      unfold tkAt
      rw [ex, ey]
      rfl
    have hsz2 : 2 ≤ us.length := by omega
    refine wpAny_bind (hkind hsz2 _ ?_)
    have hall : SrtO.AllL (fun p : Keyed => p.1 ∈ us) (us.toArray.zip vs.toArray).toList := fun p hm => by
      rw [ez] at hm
      exact (List.of_mem_zip hm).1
    refine wpAny_bind (wpAny_mono (SrtO.wpS_sortO (st0 := SortSt.mk' κ (us.toArray.zip vs.toArray) #[] 7 none)
      (Q := fun _ st' => SrtO.Srtd (SrtO.lt2 fun v u => tkLt (tkAt s.heap kz v) (tkAt s.heap kz u)) (arrOf st').toList ∧ (arrOf st').toList.Perm (us.zip vs) ∧ failedOf st' = none) (SrtO.swo2 (swo_tk (tkAt s.heap kz))) hT rfl hall rfl rfl fun st' b1 b2 b3 => ⟨b1, by rw [← ez]; exact b2.perm, b3⟩) ?_ fun _ _ z => z)
    rintro ⟨⟨⟩, st'⟩ s' ⟨rfl, b1, b2, b3⟩
    try dsimp only
    exact sortD_tail hne ha h0 hal L rv r hx hl hk b2 b1 b3 hz q
theorem sortD_rest {e1 : Nat} {kz : List (PyData)} {xs : List V} {Hi : Hp} {vs : List Value} (T : KeyFnD X k f KeyOf) (sb : Sub X k A) (hne : a ≠ kS) (ha : H a = none) (h0 : H kS = none) (L : KysD X pins σ H a kS e1 kz [] Hi s) (r : Vals xs vs) (hx : ∀ x ∈ xs, ∃ b, x = V.ref b)
    (hk : kz.length = xs.length) (hz : xs.length ≤ sizeLine) (hal : W.AllAlike kz) (hsk : W.Sortable kz) (hu : ∀ d, d ∈ kz → A.units + d.depth < cLine) (hfl : ∀ d ∈ kz, flatD d = true) (hK : ∀ (j : Nat) (x : V) (pr : PyData), xs[j]? = some x → kz[j]? = some pr → KeyOf H x pr)
    (q : ∀ ys Hn s', OutD xs kz ys → Inv X pins σ Hn s' → Same H Hn → Hn a = some (.lst ys) → P (.done (.ret .none)) s') : wpAny (model X.prog X.w) A (ksk_rest a (.ref f) false vs.toArray e1 (.ref kS)) P E s := by
  have hlv := r.length
  unfold ksk_rest
  refine wpAny_bind (wpAny_rule ?_)
  first
    | rw [List.forIn_toArray]
    | (rw [← Array.forIn_toList]; simp only [List.toList_toArray])
    | rw [← Array.forIn_toList]
  refine wpAny_bind (ksk_fold (fun i s' => ∃ ks Hn, ks.length = i ∧ KysD X pins σ H a kS e1 kz ks Hn s') vs 0 s ⟨[], Hi, rfl, L⟩ ?step ?done)
  case step =>
    rintro j x s' hxj ⟨ks, Hn, hj, L'⟩
    simp only [Nat.zero_add] at hj ⊢
    have hjv : j < vs.length := (List.getElem?_eq_some_iff.mp hxj).1
    obtain ⟨v, hv⟩ : ∃ v, xs[j]? = some v := ⟨_, List.getElem?_eq_getElem (by omega)⟩
    obtain ⟨pr, hpr⟩ : ∃ pr, kz[j]? = some pr := ⟨_, List.getElem?_eq_getElem (by omega)⟩
    obtain ⟨u, hu, ru⟩ := r.get hv
    rw [hxj] at hu
    obtain rfl := Option.some.inj hu
    refine wpAny_bind (wpAny_attempt ?_)
    refine wpAny_mono (keysD_turn (E := E) (Q := fun s2 => ∃ ks' Hn', ks'.length = j + 1 ∧ KysD X pins σ H a kS e1 kz ks' Hn' s2) T sb hne h0 hfl L' (by rw [hj]; exact hpr) (hK j v pr hv hpr) ru (by omega) fun ks' Hn' s2 h1 h2 => ⟨ks', Hn', by omega, h2⟩) (fun z s2 hq => ?_) fun _ _ z => z.elim
    try dsimp only
    refine wpAny_bind (wpAny_mono hq (fun _ s3 h3 => ?_) fun _ _ z => z)
    exact wpAny_pure ⟨rfl, h3⟩
  case done =>
    rintro s' ⟨ks, Hn, hj, L'⟩
    simp only [Nat.zero_add] at hj
    obtain ⟨_, us, n, rk, hkl, e⟩ := L'.inv.lstM L'.kst
    try dsimp only
    refine wpAny_bind (listItems_at e rfl ?_)
    exact sortD_end hne ha h0 L' rk r hx (by omega) (by omega) hz hal hsk hu q
end
end EW
end

section
set_option maxHeartbeats 4000000
namespace EW
open PySem PySem.Spec PyProof.Rows L2
section
variable {X : Cx} {k : Nat} {f a kS : Addr} {KeyOf : Hp → V → PyData → Prop} {pins : List (Addr × Obj)} {σ : L2.St} {H : Hp} {s : Shared} {A : Around} {E : Value → Shared → Prop} {P : PySem.Fin → Shared → Prop}
theorem sortD_tree {kz : List (PyData)} {xs : List V} {vs : List Value} {n : Nat} (T : KeyFnD X k f KeyOf) (sb : Sub X k A) (ha : H a = none) (I : Inv X pins σ (upd H a (.lst xs)) s) (ho : s.heap.get? a = some (seqObj "list" vs.toArray n)) (r : Vals xs vs) (hx : ∀ x ∈ xs, ∃ b, x = V.ref b)
    (hk : kz.length = xs.length) (hal : W.AllAlike kz) (hsk : W.Sortable kz) (hu : ∀ d, d ∈ kz → A.units + d.depth < cLine) (hfl : ∀ d ∈ kz, flatD d = true) (hK : ∀ (j : Nat) (x : V) (pr : PyData), xs[j]? = some x → kz[j]? = some pr → KeyOf H x pr)
    (q : ∀ ys Hn s', OutD xs kz ys → Inv X pins σ Hn s' → Same H Hn → Hn a = some (.lst ys) → P (.done (.ret .none)) s') : wpAny (model X.prog X.w) A (ksk_tree a (.ref f) false) P E s := by
  have hz : xs.length ≤ sizeLine := (I.lstM upd_same).1
  have hv : vs.length ≤ sizeLine := by rw [← r.length]; exact hz
  obtain ⟨e1, ho1⟩ : ∃ e1, (s.heap.update a (Obj.mapSeq fun _ => (#[] : Array Value))).get? a = some (seqObj "list" #[] e1) := ⟨_, get?_update_seq ho fun _ => #[]⟩
  unfold ksk_tree
  refine wpAny_bind (listItems_at ho rfl ?_)
  refine wpAny_bind (listUpdate_at ho rfl ?_ (by rw [List.size_toArray]; exact hv) (Nat.zero_le _))
  refine wpAny_bind (seqEpoch_at ho1 rfl ?_)
  refine wpAny_bind (wpAny_newTuple ?_ hv)
  refine wpAny_bind (wpAny_newList ?_ (Nat.zero_le _))
  refine wpAny_holding ?_
  have I1 : Inv X pins σ (upd (upd H a (.lst xs)) a (LsO a #[] e1)) { s with heap := s.heap.update a (Obj.mapSeq fun _ => (#[] : Array Value)), toks := s.toks } :=
    I.write (by rw [upd_same]; exact True.intro) (.inl rfl) (fun b u hb hu => (Heap.get?_update_other _ _ (Ne.symm hb)).trans hu) ⟨_, ho1⟩ (lsO_ok ho1)
  have I2 := I1.kept (h' := (s.heap.update a (Obj.mapSeq fun _ => (#[] : Array Value))).push (seqObj "tuple" vs.toArray 0)) (t' := s.toks) fun b u e => Heap.get?_push_of_some _ e
  have I3 := I2.lnew (ys := []) (its := []) (t' := s.toks) .nil (Nat.zero_le _)
  have hf := I2.fresh
  have hne : a ≠ ((s.heap.update a (Obj.mapSeq fun _ => (#[] : Array Value))).push (seqObj "tuple" vs.toArray 0)).objs.size := fun z => by
    rw [← z, upd_same] at hf
    cases hf
  refine sortD_rest T sb hne ha ?_ ⟨I3, fun b o h => ?_, ?_, upd_same, fun j v hj => by simp at hj⟩ r hx hk hz hal hsk hu hfl hK q
  · rw [upd_ne (Ne.symm hne), upd_ne (Ne.symm hne)] at hf
    exact hf
  · have h1 : b ≠ a := fun z => by rw [z, ha] at h; cases h
    rw [upd_ne (fun z => by rw [← z, upd_ne h1, upd_ne h1, h] at hf; cases hf), upd_ne h1, upd_ne h1]
    exact h
  · rw [upd_ne hne]
    exact upd_same
def rSortByD (K : W.Frag) (f : Addr) (KeyOf : Hp → V → PyData → Prop) : List V → List V → Hp → VK → Prop := fun vs zs H Q => ∃ (a : Addr) (xs : List V) (kz : List (PyData)), vs = [.ref a] ∧ zs = [.ref f] ∧ SqL K H a xs ∧ (∀ x ∈ xs, ∃ b, x = V.ref b) ∧ kz.length = xs.length ∧ W.AllAlike kz ∧ W.Sortable kz ∧ (∀ d ∈ kz, flatD d = true ∧ d.depth ≤ 8) ∧
  (∀ (j : Nat) (x : V) (pr : PyData), xs[j]? = some x → kz[j]? = some pr → KeyOf H x pr) ∧ ∀ ys, OutD xs kz ys → New H (fun _ => .lst ys) Q
/-- sorted(l, key=f) -/
theorem cr_sortedByD (T : KeyFnD X k f KeyOf) (hr : Room (k + 2) X.A) : CallRK X (.builtin "sorted") [Str.ofString "key"] (rSortByD X.K f KeyOf) := by
  intro pins s σ H vs zs us ws Q I r rz h
  obtain ⟨l, xs, kz, rfl, rfl, hS, hx, hk, hal, hsk, hfl, hK, q⟩ := h
  obtain rfl := Vals.ref1 r
  obtain rfl := Vals.ref1 rz
  obtain ⟨its, rv, hl, hz⟩ := I.list hS
  have hz' : its.length ≤ sizeLine := by rw [← rv.length]; exact hz
  show wpAny _ _ (call (.builtin "sorted") [.ref l] [(Str.ofString "key", .ref f)]) _ _ _
  refine call_function_entry_kw kind_sorted plain_sorted entry_sorted (ksk_s1 _ _) ?_
  unfold Builtin.«sorted»
  refine wpAny_bind (m := checkCount "sorted" 1 1 _) (wpAny_pure ?_)
  refine wpAny_bind (collect_list hl.isList ?_ hz')
  refine wpAny_bind (wpAny_newList ?_ hz')
  have hsz : ((s.heap.push (seqObj "list" #[] 0)).update s.heap.objs.size (Obj.mapSeq (· ++ its.toArray))).objs.size = s.heap.objs.size + 1 := by
    rw [Heap.size_update, size_push']
  have hoL : (((s.heap.push (seqObj "list" #[] 0)).update s.heap.objs.size (Obj.mapSeq (· ++ its.toArray))).push (seqObj "list" its.toArray 0)).get? (s.heap.objs.size + 1) = some (seqObj "list" its.toArray 0) := by
    rw [← hsz]; exact Heap.get?_push_size _ rfl
  have keep : ∀ b o, s.heap.get? b = some o → (((s.heap.push (seqObj "list" #[] 0)).update s.heap.objs.size (Obj.mapSeq (· ++ its.toArray))).push (seqObj "list" its.toArray 0)).get? b = some o := fun b o e => by
    refine Heap.get?_push_of_some _ ?_
    rw [Heap.get?_update_ne _ _ _ _ (Nat.ne_of_lt (Heap.lt_size e))]
    exact Heap.get?_push_of_some _ e
  show wpAny _ _ _ _ _ { s with heap := ((s.heap.push (seqObj "list" #[] 0)).update s.heap.objs.size (Obj.mapSeq (· ++ its.toArray))).push (seqObj "list" its.toArray 0) }
  rw [hsz]
  have hfr : H (s.heap.objs.size + 1) = none := I.hok.fresh (Nat.le_succ _)
  have I1 := I.laid (h' := ((s.heap.push (seqObj "list" #[] 0)).update s.heap.objs.size (Obj.mapSeq (· ++ its.toArray))).push (seqObj "list" its.toArray 0)) (a := s.heap.objs.size + 1) (o := .lst xs) (t' := s.toks) keep (Nat.le_succ _) ⟨hz, its, 0, rv, hoL⟩
  refine wpAny_bind (wpAny_holding (wpAny_call_entry_kw slot_list_sort ⟨_, hoL, rfl⟩ entry_list_sort ?_ (ksk_l1 _ _)))
  rw [ksk_t1]
  refine sortD_tree T (Sub.in1 (Sub.in1 ⟨hr, rfl⟩)) hfr I1 hoL rv hx hk hal hsk (fun d hd => by
    have h1 := (hfl d hd).2
    have h2 := hr.units
    show X.A.units + 1 + 1 + d.depth < cLine
    omega) (fun d hd => (hfl d hd).1) hK fun ys Hn s' o I' sm ea => ⟨_, rfl, ?_⟩
  exact wpAny_pure ⟨_, rfl, .ref _, Hn, I', rfl, q ys o _ Hn hfr sm ea⟩
end
end EW
end

section
set_option maxHeartbeats 4000000
namespace EW
open PySem PySem.Spec PyProof.Rows L2
/-! ### what is in order stays as it stands -/
theorem perm_sorted {α : Type} {lt : α → α → Bool} : ∀ {m l : List α}, l.Perm m → l.Pairwise (fun x y => lt y x = false) → m.Pairwise (fun x y => lt x y = true) → l = m
  | [], l, hp, _, _ => hp.eq_nil
  | b :: m, [], hp, _, _ => by
    have := hp.length_eq
    simp at this
  | b :: m, a :: l, hp, h1, h2 => by
    obtain ⟨h3, h4⟩ := List.pairwise_cons.mp h1
    obtain ⟨h5, h6⟩ := List.pairwise_cons.mp h2
    have e : a = b := by
      rcases List.mem_cons.mp (hp.mem_iff.mp List.mem_cons_self) with e | e
      · exact e
      · rcases List.mem_cons.mp (hp.mem_iff.mpr List.mem_cons_self) with e' | e'
        · exact e'.symm
        · have q1 := h5 a e
          have q2 := h3 b e'
          rw [q1] at q2
          cases q2
    subst e
    rw [perm_sorted (List.perm_cons a |>.mp hp) h4 h6]
theorem outD_id {xs ys : List V} {kz : List PyData} (hl : kz.length = xs.length) (h : (xs.zip (kz.map W.keyToks)).Pairwise fun x y => tkLt x.2 y.2 = true) (o : OutD xs kz ys) : ys = xs := by
  obtain ⟨ps, hp, hs, rfl⟩ := o
  rw [perm_sorted (lt := fun x y => tkLt x.2 y.2) hp hs h, List.map_fst_zip]
  rw [List.length_map]
  omega
theorem tk_cons (a b : Int) (r t : List PyData) : tkLt (W.keyToks (.tuple (.int a :: r))) (W.keyToks (.tuple (.int b :: t))) = (decide (a < b) || (decide (a = b) && tkLt (W.keyToks (.tuple r)) (W.keyToks (.tuple t)))) := by
  have e : ∀ (x : Int) (q : List PyData), W.keyToks (.tuple (.int x :: q)) = Sum.inl 1 :: Sum.inl x :: W.keyToks (.tuple q) := fun x q => by
    simp [W.keyToks, W.keyToksAll]
  rw [e, e]
  unfold tkLt
  rw [lex_self, lex_cons]
  show (decide (a < b) || (!decide (b < a) && _)) = _
  by_cases h1 : a < b
  · simp [h1]
  · by_cases h2 : a = b
    · subst h2
      simp
    · have h3 : b < a := by omega
      simp [h1, h2, h3]
/-- the key of a run: residue, whether it has a least time, that time -/
def keyD (z : Rn.Run) : PyData := .tuple [.int z.r, .int (if z.lo.isSome then 1 else 0), .int (z.lo.getD 0)]
theorem keyD_lt {p : Int} {x y : Rn.Run} (hp : 0 < p) (gx : Rn.Good p x) (h : Rn.Lt p x y) : tkLt (W.keyToks (keyD x)) (W.keyToks (keyD y)) = true := by
  unfold keyD
  rw [tk_cons, tk_cons, tk_cons]
  rcases h with h | ⟨h1, u, l, h2, h3, h4⟩
  · simp [h]
  · rw [h1, h3]
    cases e : x.lo with
    | none => simp
    | some m =>
      have q := gx.le m u e h2
      have q2 : m < l := by omega
      simp [q2]
theorem keyD_alike (zs : List Rn.Run) : W.AllAlike (zs.map keyD) := fun d hd e he => by
  obtain ⟨x, _, rfl⟩ := List.mem_map.mp hd
  obtain ⟨y, _, rfl⟩ := List.mem_map.mp he
  simp [keyD, W.alike, W.alikeAll]
theorem keyD_sortable (zs : List Rn.Run) : W.Sortable (zs.map keyD) := .inl fun d hd => by
  obtain ⟨x, _, rfl⟩ := List.mem_map.mp hd
  exact ⟨_, _, rfl⟩
theorem keyD_flat (zs : List Rn.Run) : ∀ d ∈ zs.map keyD, flatD d = true ∧ d.depth ≤ 8 := fun d hd => by
  obtain ⟨x, _, rfl⟩ := List.mem_map.mp hd
  simp [keyD, flatD, flatAll, PyData.depth, PyData.depthAll]
theorem keyD_sorted {p : Int} (hp : 0 < p) : ∀ {xs : List V} {zs : List Rn.Run}, Rn.Canon p zs → (xs.zip ((zs.map keyD).map W.keyToks)).Pairwise fun x y => tkLt x.2 y.2 = true
  | [], _, _ => by
    rw [List.zip_nil_left]
    exact .nil
  | x :: xs, [], _ => by
    simp
  | x :: xs, z :: zs, c => by
    rw [List.map_cons, List.map_cons, List.zip_cons_cons, List.pairwise_cons]
    refine ⟨fun q hq => ?_, keyD_sorted hp c.tail⟩
    have h := (List.of_mem_zip hq).2
    obtain ⟨d, hd, e⟩ := List.mem_map.mp h
    obtain ⟨y, hy, rfl⟩ := List.mem_map.mp hd
    rw [← e]
    exact keyD_lt hp c.head (c.lt y hy)
end EW
end

section
set_option maxHeartbeats 4000000
namespace EW
open PySem PySem.Spec PyProof.Rows L2
/-! ### members with their sizes -/
def absD (m : Int) : PyData := .tuple [.int (m.natAbs : Int), .int m]
theorem absD_inj {m l : Int} (h : absD m = absD l) : m = l := by
  unfold absD at h
  injection h with h
  injection h with _ h
  injection h with h _
  injection h
theorem abs_lt {m l : Int} : W.dataLt (absD m) (absD l) = true ↔ m.natAbs < l.natAbs ∨ (m.natAbs = l.natAbs ∧ m < l) := by
  have e : W.dataLt (absD m) (absD l) = tkLt (W.keyToks (absD m)) (W.keyToks (absD l)) := rfl
  rw [e]
  unfold absD
  rw [tk_cons, tk_cons]
  have e2 : tkLt (W.keyToks (.tuple [])) (W.keyToks (.tuple [])) = false := by decide +kernel
  rw [e2]
  simp only [Bool.and_false, Bool.or_false, Bool.or_eq_true, Bool.and_eq_true, decide_eq_true_eq]
  omega
theorem minD_abs : ∀ (mr : List Int) (m0 : Int), ∃ m ∈ m0 :: mr, W.minD (absD m0) (mr.map absD) = absD m ∧ ∀ l ∈ m0 :: mr, Rn.Before m l := by
  intro mr
  induction mr with
  | nil =>
    intro m0
    refine ⟨m0, List.mem_cons_self, rfl, fun l hl => ?_⟩
    rw [List.mem_singleton.mp hl]
    exact .inr ⟨rfl, Int.le_refl _⟩
  | cons y ys ih =>
    intro m0
    have e : W.minD (absD m0) ((y :: ys).map absD) = W.minD (absD (if W.dataLt (absD y) (absD m0) = true then y else m0)) (ys.map absD) := by
      unfold W.minD
      rw [List.map_cons, List.foldl_cons]
      split <;> rfl
    obtain ⟨m, hm, h1, h2⟩ := ih (if W.dataLt (absD y) (absD m0) = true then y else m0)
    rw [e]
    refine ⟨m, ?_, h1, fun l hl => ?_⟩
    · rcases List.mem_cons.mp hm with e | e
      · rw [e]
        split
        · exact List.mem_cons_of_mem _ List.mem_cons_self
        · exact List.mem_cons_self
      · exact List.mem_cons_of_mem _ (List.mem_cons_of_mem _ e)
    · have hb := h2 _ List.mem_cons_self
      have key : Rn.Before m m0 ∧ Rn.Before m y := by
        cases c : W.dataLt (absD y) (absD m0) with
        | true =>
          rw [c, if_pos rfl] at hb
          have q := abs_lt.mp c
          unfold Rn.Before at *
          omega
        | false =>
          rw [c, if_neg (by decide)] at hb
          have q : ¬ (y.natAbs < m0.natAbs ∨ (y.natAbs = m0.natAbs ∧ y < m0)) := fun z => by
            rw [abs_lt.mpr z] at c
            cases c
          unfold Rn.Before at *
          omega
      rcases List.mem_cons.mp hl with e | hl
      · rw [e]
        exact key.1
      · rcases List.mem_cons.mp hl with e | hl
        · rw [e]
          exact key.2
        · exact h2 l (List.mem_cons_of_mem _ hl)
theorem abs_alike (ms : List Int) : W.AlikeAll (ms.map absD) := by
  refine ⟨fun x hx y hy => ?_, fun x hx => ?_⟩
  · obtain ⟨m, _, rfl⟩ := List.mem_map.mp hx
    obtain ⟨l, _, rfl⟩ := List.mem_map.mp hy
    simp [absD, W.alike, W.alikeAll]
  · obtain ⟨m, _, rfl⟩ := List.mem_map.mp hx
    exact fun e => nomatch e
theorem abs_depth : ∀ ms : List Int, PyData.depthAll (ms.map absD) ≤ 1
  | [] => by simp [PyData.depthAll]
  | m :: ms => by
    have := abs_depth ms
    simp [PyData.depthAll, absD, PyData.depth]
    omega
theorem abs_lay : ∀ ms : List Int, PyData.canLayAll0 (ms.map absD) = true
  | [] => by simp [PyData.canLayAll0]
  | m :: ms => by simp [PyData.canLayAll0, absD, PyData.canLay0, abs_lay ms]
theorem abs_shaped (ms : List Int) : SeqAt.shaped (.list (ms.map absD)) = true := by
  have h := abs_depth ms
  simp [SeqAt.shaped, PyData.canLay0, PyData.depth, abs_lay]
  omega
end EW
end

section
set_option maxHeartbeats 4000000
/-! EwLamC: min(l, key=lambda t: (abs(t), t)). -/
namespace EW
open PySem PySem.Spec PyProof.Rows L2 LamX
section
variable {X : Cx} {pins : List (Addr × Obj)} {σ : L2.St} {H Hc : Hp} {s s' : Shared} {h : Heap}
/-- some objects that are not known of are changed -/
theorem inv_moved {ch : List Addr} (I : Inv X pins σ Hc s) (hf : ∀ b ∈ ch, FpOk X pins Hc b) (m : Moved ch (fun a b => b = a) s s') : Inv X pins σ Hc s' := by
  obtain ⟨hp, g, d, tk, os⟩ := s'
  obtain ⟨m1, m2, m3, m4, m5⟩ := m
  dsimp only at m1 m2 m3 m4 m5
  subst m2 m3 m4
  have nch : ∀ b u, Hc b = some u → b ∉ ch := fun b u e z => by
    rw [(hf b z).1] at e
    cases e
  refine I.step (g' := s.gens) (d' := s.drawn) (ch := ch) (fun b hb => ?_) (fun b o _ _ hc e _ => m1 b o hc e) (fun b o _ _ hc e _ => ⟨o.slots, m1 b o hc e⟩) (fun _ _ _ _ n => n)
    (fun b o hc e => ⟨o, m1 b o hc e⟩) (fun _ _ e => e) (fun _ _ _ e => e) (fun b ps e => ⟨#[], by rw [e]; simp⟩) (fun mm hm => ?_) (fun b u e => ?_) I.bare
  · obtain ⟨f0, f1, f2, f3, f4, f5⟩ := hf b hb
    exact ⟨f3, f1, f4, f5⟩
  · obtain ⟨o, es, ep, ho, r⟩ := hm
    exact ⟨o, es, ep, m1 _ o (fun z => (hf _ z).2.1 rfl) ho, r⟩
  · refine (I.hok b u e).stay (fun c v hc q => m1 c v ?_ q) (fun _ q => q) fun _ _ q => q
    rcases hc with z | z
    · rw [z]
      exact nch b u e
    · exact nch c _ z
/-- what stands while min asks for the keys -/
structure Jm (X : Cx) (pins : List (Addr × Obj)) (σ : L2.St) (H : Hp) (it S : Addr) (Hc : Hp) (s : Shared) : Prop where
  inv : Inv X pins σ Hc s
  same : Same H Hc
  new : ∀ b o, H b = none → Hc b = some o → ∃ xs, o = .tup xs
  i0 : FpOk X pins Hc it
  s0 : FpOk X pins Hc S
/-- a pair at a new place -/
def PrAt (X : Cx) (H : Hp) (it S : Addr) (h : Heap) (v : Value) (n : Int) : Prop := ∃ b, v = .ref b ∧ H b = none ∧ b ∉ frs X.stack ∧ b ≠ it ∧ b ≠ S ∧ Srt.IsPair h (.ref b) (n.natAbs : Int) n
theorem pair_reads {v : Value} {n : Int} (p : Srt.IsPair h v (n.natAbs : Int) n) : ∃ as, Reads h v (absD n) as := by
  obtain ⟨a, o, t, u, k, rfl, ho, hc, hd⟩ := p
  exact ⟨_, .tuple ho hc hd (.cons (.int _ _) (.cons (.int _ _) .nil))⟩
theorem fpOk_of {b : Addr} {H1 H2 : Hp} (f : FpOk X pins H1 b) (n : H2 b = none) : FpOk X pins H2 b := ⟨n, f.2⟩
theorem rel_int {v : V} {x : Int} {t : Tok} (r : RelV v (.int x t)) : v = .int x := by
  cases v with
  | int i =>
    obtain ⟨_, e⟩ := r
    cases e
    rfl
  | non => cases r
  | bl b => cases r
  | ref a => cases r
  | ty n => cases r
  | str z =>
    obtain ⟨_, e⟩ := r
    cases e
  | byt z =>
    obtain ⟨_, e⟩ := r
    cases e
  | flt z =>
    obtain ⟨_, e⟩ := r
    cases e
/-- a pair stays over a call -/
theorem pair_stays {P : Program} {w : World} {fs : List Addr} {H1 H2 : Hp} {h1 h2 : Heap} {b : Addr} {x y : Int} (u : Un fs [] H1 H2 h1 h2) (hok : HOk P w H1 h1) (hok2 : HOk P w H2 h2) (hb : b ∉ fs) (nw : ∀ o, H1 b = some o → ∃ xs, o = .tup xs) (p : Srt.IsPair h1 (.ref b) x y) : Srt.IsPair h2 (.ref b) x y := by
  obtain ⟨a, o, t, t', n, e, ho, hc, hd⟩ := p
  cases e
  cases q : H1 b with
  | none => exact ⟨b, o, t, t', n, rfl, u.keep b o ho q hb (by simp), hc, hd⟩
  | some z =>
    obtain ⟨xs, rfl⟩ := nw z q
    have q2 := u.tups b xs q
    obtain ⟨_, its, rv, o1, n1, ho1, hc1, hd1⟩ := hok b _ q
    obtain ⟨_, its2, rv2, o2, n2, ho2, hc2, hd2⟩ := hok2 b _ q2
    have e1 : o1 = o := Option.some.inj (n1.symm.trans ho)
    subst e1
    rw [hd] at hd1
    injection hd1 with e2 e3
    have e4 : its = [.int x t, .int y t'] := by
      have := congrArg Array.toList e2
      simpa using this.symm
    subst e4
    cases rv with
    | cons r1 rv =>
      cases rv with
      | cons r2 rv =>
        cases rv
        cases rel_int r1
        cases rel_int r2
        cases rv2 with
        | cons q1 rv2 =>
          cases rv2 with
          | cons q2 rv2 =>
            cases rv2
            obtain ⟨_, rfl⟩ := q1
            obtain ⟨_, rfl⟩ := q2
            exact ⟨b, o2, _, _, hc2, rfl, n2, ho2, hd2⟩
theorem pair_tup {P : Program} {w : World} {H : Hp} {h : Heap} {p : Addr} {x y : Int} (ok : ObjOk P w H h p (.tup [.int x, .int y])) : Srt.IsPair h (.ref p) x y := by
  obtain ⟨_, its, rv, o, ho, hc, n, hd⟩ := ok
  cases rv with
  | cons q1 rv =>
    cases rv with
    | cons q2 rv =>
      cases rv
      obtain ⟨_, rfl⟩ := q1
      obtain ⟨_, rfl⟩ := q2
      exact ⟨p, o, _, _, n, rfl, ho, hc, hd⟩
/-- min(l, key=f), f a lambda that tells (abs(t), t) -/
def rMinLam (K : W.Frag) (qual : Str) (params : Arguments) (body : Expr) (scope : Scope) : List V → List V → Hp → VK → Prop := fun vs zs H Q => ∃ (a f c' : Addr) (od : Obj) (ns : List Int), vs = [.ref a] ∧ zs = [.ref f] ∧ H a = some (.frz od (.lst (ns.map V.int))) ∧ ns ≠ [] ∧
  H f = some (LamO f qual params body scope c') ∧ H c' = some (CodeO c' qual) ∧ ∀ (m : Int) (H' : Hp), m ∈ ns → (∀ l ∈ ns, Rn.Before m l) → Same H H' → Q (.int m) H'
theorem cr_minLam {k : Nat} {N : List Str} {p0 : Str} {qual : Str} {params : Arguments} {body : Expr} {scope : Scope} {tb : TE} (K : W.Frag) (hK : X.K = K) (hc : X.calm = true) (hu : X.A.units + 64 < cLine) (hr : Room (k + 2) X.A) (S : FnScope N [p0] scope)
    (hb : ∀ (pm cd ct u : Value), bindArgs (W.kla_fn "<lambda>" qual params body scope [] pm cd ct) ⟨[u], []⟩ = pure ([p0].zip [u]))
    (hbody : ∀ (f c' : Addr) (A : Around) (outer : List Env) (s : Shared) (H : Hp), Room k (A.deeper (envOfC qual scope s.heap.objs.size f (.ref c'))) → PE (cxOf CX0 X.prog X.w X.K X.mg X.base N qual scope f (.ref c') A outer s H E0) body tb)
    (ht : ∀ (n : Int) (H : Hp) (Q : VK), (∀ p, H p = none → Q (.ref p) (upd H p (.tup [.int (n.natAbs : Int), .int n]))) → tb (L2.start N [.int n]) H Q) :
    CallRK X (.builtin "min") [Str.ofString "key"] (rMinLam K qual params body scope) := by
  subst hK
  intro pins s σ H vs zs us ws Q I r rz h
  obtain ⟨a, f, c', od, ns, rfl, rfl, ha, hne, hf, hcd, q⟩ := h
  rw [Vals.ref1 r]
  obtain ⟨w1, rfl, e1⟩ := vals1 rz
  obtain rfl : w1 = .ref f := e1
  have hoa := I.hok a _ ha
  obtain ⟨hoa1, _, its, ep, rv, hls⟩ := hoa
  have eod : od = { cls := .type "list", data := .seq its.toArray ep } := Option.some.inj (hoa1.symm.trans hls)
  have hl : s.heap.IsList a its.toArray := ⟨_, hls, rfl, _, rfl⟩
  have hlen : its.length = ns.length := by
    have := rv.length
    rw [List.length_map] at this
    exact this.symm
  have gi : ∀ (i : Nat) (v : Value), its.toArray[i]? = some v → ∃ n t, ns[i]? = some n ∧ v = Value.int n t := fun i v hv => by
    have hv : its[i]? = some v := by simpa using hv
    have hix : i < ns.length := by rw [← hlen]; exact (List.getElem?_eq_some_iff.mp hv).1
    obtain ⟨u, hu, ru⟩ := rv.get (i := i) (x := V.int ns[i]) (by rw [List.getElem?_map, List.getElem?_eq_getElem hix]; rfl)
    rw [hv] at hu
    obtain rfl := Option.some.inj hu
    obtain ⟨t, e⟩ := ru
    exact ⟨_, t, List.getElem?_eq_getElem hix, e⟩
  have gd : ∀ {i : Nat} {n : Int}, ns[i]? = some n → (ns.map absD).getD i .none = absD n := fun {i n} hn => by
    rw [List.getD_eq_getElem?_getD, List.getElem?_map, hn]
    rfl
  refine call_min_walkK (W.iter_listW (A := X.A.in1) (I.ok.hd hc) hl fun s₂ e Wk st hfp hw hk => ?_)
  have I2 : Inv X pins σ H s₂ := by
    rw [e]
    exact I.kept fun b o q => Heap.get?_push_of_some _ q
  have hsz : s₂.heap.objs.size = s.heap.objs.size + 1 := by
    rw [e]
    exact Heap.size_push ..
  have f1 : FpOk X pins H s.heap.objs.size := I.fpOk (Nat.le_refl _) (I.hok.fresh (Nat.le_refl _))
  have f2 : FpOk X pins H s₂.heap.objs.size := I2.fpOk (Nat.le_refl _) (I2.hok.fresh (Nat.le_refl _))
  have sub : Sub X (k + 1) X.A.in1 := Sub.in1 ⟨hr, rfl⟩
  have nfr : ∀ b, FpOk X pins H b → b ∉ frs X.stack := fun b f z => by
    rcases List.mem_cons.mp (I.stkSub b z) with q | q
    · exact f.2.1 q
    · exact f.2.2.1 q
  refine ⟨s.heap.objs.size, _, _, _, _, _, _, fun s' => ∃ Hc, Jm X pins σ H s.heap.objs.size s₂.heap.objs.size Hc s', fun i kv s' => ∃ n, ns[i]? = some n ∧ PrAt X H s.heap.objs.size s₂.heap.objs.size s'.heap kv n, fun i j => W.dataLt ((ns.map absD).getD i .none) ((ns.map absD).getD j .none),
    rfl, Wk, st, hfp, ?_, ⟨?_, ?_, ?_, ?_⟩, ⟨H, I2, Same.refl H, fun b o q1 q2 => (by rw [q1] at q2; cases q2), f1, f2⟩, ?_⟩
  · rw [List.size_toArray, hlen]
    exact List.length_pos_iff.mpr hne
  · rintro s1 s2 ⟨Hc, J⟩ m
    refine ⟨Hc, inv_moved J.inv (fun b hb => ?_) m, J.same, J.new, J.i0, J.s0⟩
    rcases List.mem_cons.mp hb with rfl | hb
    · exact J.s0
    · rw [List.mem_singleton.mp hb]
      exact J.i0
  · rintro i kv s1 s2 ⟨n, hn, b, rfl, g1, g2, g3, g4, a', o, t, u, n', e', ho, hc', hd⟩ m
    cases e'
    exact ⟨n, hn, b, rfl, g1, g2, g3, g4, b, o, t, u, n', rfl, m.heap b o (by simp [g3, g4]) ho, hc', hd⟩
  · rintro i v s' o Q' E' hi hv ⟨Hc, J⟩ hst hS hq
    obtain ⟨n, t, hn, rfl⟩ := gi i v hv
    obtain ⟨⟨pm, ct, of⟩, _, _⟩ := J.inv.hok f _ (J.same _ _ hf)
    obtain ⟨⟨oc, vs, tq, g1, g2, g3⟩, _, _⟩ := J.inv.hok c' _ (J.same _ _ hcd)
    have e0 : Env0 X.prog X.w X.K X.mg X.base X.A.in1 X.stack s' Hc := ⟨sub.fr.trans J.inv.env0.frames, J.inv.env0.mod, J.inv.env0.bs, J.inv.env0.bsz, J.inv.env0.funs, J.inv.env0.frf, J.inv.env0.hok, J.inv.env0.bare⟩
    refine wpAny_call (codeAny_mono (run_lam (us := [Value.int n t]) (vs := [V.int n]) (E := E0) (Q := fun v H' => ∃ p, v = .ref p ∧ Hc p = none ∧ H' = upd Hc p (.tup [.int (n.natAbs : Int), .int n])) S of ⟨c', oc, vs, tq, rfl, g1, g2, g3⟩ sub.room e0 (hb _ _ _ _) (.cons ⟨t, rfl⟩ .nil) rfl (fun R => hbody f c' _ _ _ _ R) (ht n Hc _ fun p hp => ⟨p, rfl, hp, rfl⟩)) fun r2 s2 hr2 => ?_)
    match r2, hr2 with
    | .error e, hr2 => exact (hr2 : False).elim
    | .ok .next, hr2 => exact (hr2 : False).elim
    | .ok .brk, hr2 => exact (hr2 : False).elim
    | .ok .cont, hr2 => exact (hr2 : False).elim
    | .ok (.ret u), hr2 =>
      obtain ⟨v', H', os, bare, un, hok, rvv, p, rfl, np, rfl⟩ := hr2
      obtain rfl : u = .ref p := rvv
      have inv' : Inv X pins σ (upd Hc p (.tup [.int (n.natAbs : Int), .int n])) s2 := J.inv.call' os un hok bare (fun b z => absurd z (by simp))
      obtain ⟨⟨oi, hoi, hci, hdi⟩, _⟩ := hst
      have n1 := un.free _ oi hoi J.i0.1 (by simp)
      have n2 := un.free _ o hS J.s0.1 (by simp)
      have pi1 : p ≠ s.heap.objs.size := fun z => by rw [← z, upd_same] at n1; cases n1
      have pi2 : p ≠ s₂.heap.objs.size := fun z => by rw [← z, upd_same] at n2; cases n2
      have hp0 : H p = none := by
        cases q1 : H p with
        | none => rfl
        | some z =>
          rw [J.same _ _ q1] at np
          cases np
      have pfr : p ∉ frs X.stack := fun z => by
        have := inv'.stkFree p z
        rw [upd_same] at this
        cases this
      have hA := un.frzs a od _ (J.same _ _ ha)
      have hA2 := (inv'.hok a _ hA).1
      have pr : Srt.IsPair s2.heap (.ref p) (n.natAbs : Int) n := pair_tup (hok p _ upd_same)
      refine hq (.ref p) s2 ⟨_, inv', J.same.trans (sameN np), fun b o' q1 q2 => ?_, fpOk_of J.i0 n1, fpOk_of J.s0 n2⟩ ⟨⟨oi, un.keep _ oi hoi J.i0.1 (nfr _ f1) (by simp), hci, hdi⟩, ⟨od, hA2, by rw [eod], ep, by rw [eod]⟩⟩ (un.keep _ o hS J.s0.1 (nfr _ f2) (by simp)) ⟨n, hn, p, rfl, hp0, pfr, pi1, pi2, pr⟩ ?_
      · by_cases z : b = p
        · rw [z, upd_same] at q2
          exact ⟨_, (Option.some.inj q2).symm⟩
        · rw [upd_ne z] at q2
          exact J.new b o' q1 q2
      · rintro j k' ⟨m, hm, b, rfl, g1, g2, g3, g4, pb⟩
        exact ⟨m, hm, b, rfl, g1, g2, g3, g4, pair_stays un J.inv.hok hok g2 (fun o ho => J.new b o g1 ho) pb⟩
  · rintro i j ki kj s' Q' E' ⟨Hc, J⟩ ⟨n, hn, b, rfl, _, _, _, _, pr⟩ ⟨m, hm, b', rfl, _, _, _, _, pr'⟩ hq
    obtain ⟨as, ra⟩ := pair_reads pr
    obtain ⟨bs, rb⟩ := pair_reads pr'
    rw [gd hn, gd hm] at hq
    refine W.rcLt_alike _ _ X.A.in1 s' _ _ _ _ ra rb ((abs_alike [n, m]).1 _ (by simp) _ (by simp)) ((abs_alike [n]).2 _ (by simp)) ?_ X.prog X.w E' Q' hq
    show X.A.units + 1 + _ < _
    have h1 : (absD n).depth = 1 := by simp [absD, PyData.depth, PyData.depthAll]
    have := Nat.min_le_left (absD n).depth (absD m).depth
    omega
  · rintro v s' hv ⟨Hc, J⟩
    obtain ⟨n, t, hn, rfl⟩ := gi _ v hv
    obtain ⟨n0, nr, e0⟩ : ∃ n0 nr, ns = n0 :: nr := by
      cases ns with
      | nil => exact absurd rfl hne
      | cons n0 nr => exact ⟨n0, nr, rfl⟩
    obtain ⟨m, hm, h1, h2⟩ := minD_abs nr n0
    obtain ⟨_, g2⟩ := W.argBest_fold W.dataLt PyData.none (absD n0) (nr.map absD) nr.length (by rw [List.length_map]; exact Nat.le_refl _)
    rw [List.take_of_length_le (by rw [List.length_map]; exact Nat.le_refl _)] at g2
    have hz : its.toArray.size - 1 = nr.length := by
      rw [List.size_toArray, hlen, e0]
      rfl
    rw [hz] at hn
    have e1 := gd hn
    rw [e0] at e1 hn
    have e2 : absD n = absD m := e1.symm.trans (g2.trans h1)
    have e3 := absD_inj e2
    subst e3
    exact ⟨.int n, Hc, J.inv, ⟨t, rfl⟩, q n Hc (by rw [e0]; exact hm) (by rw [e0]; exact h2) J.same⟩
end
end EW
end

section
set_option maxHeartbeats 4000000
/-! EwTab: what stands while tables of code objects grow. -/
namespace EW
open PySem PySem.Spec PyProof.Rows L2 LamX
section
variable {K : W.Frag} {H H' H1 : Hp} {a : Addr} {v : V} {xs vs : List V}
theorem rd_ext {u : HO} (h : Rd H a u) (hu : ∀ ps, u ≠ .tbl ps) (e : ExtN H H') : Rd H' a u := by
  rcases h with h | ⟨o, h⟩
  · exact .inl (e _ _ h hu)
  · exact .inr ⟨o, e _ _ h fun ps z => by cases z⟩
theorem sqT_ext (h : SqT K H a xs) (e : ExtN H H') : SqT K H' a xs := by
  rcases h with h | h
  · exact .inl (rd_ext h (fun ps z => by cases z) e)
  · exact .inr h
theorem sqL_ext (h : SqL K H a xs) (e : ExtN H H') : SqL K H' a xs := by
  rcases h with h | h
  · exact .inl (rd_ext h (fun ps z => by cases z) e)
  · exact .inr h
theorem tp_ext (h : Tp K H v xs) (e : ExtN H H') : Tp K H' v xs := let ⟨a, e1, q⟩ := h; ⟨a, e1, sqT_ext q e⟩
theorem sns_ext {ss : List Rn.Sp3} (h : Sns K H vs ss) (e : ExtN H H') : Sns K H' vs ss := Paired.mono (fun _ _ q => tp_ext q e) h
theorem znV_ext {z : Zn.Z} (h : ZnV K H v z) (e : ExtN H H') : ZnV K H' v z := by
  obtain ⟨a, b, c, us, h1, h2, h3, h4, h5⟩ := h
  exact ⟨a, b, c, us, tp_ext h1 e, sqT_ext h2 e, sqT_ext h3 e, sns_ext h4 e, tp_ext h5 e⟩
theorem kdV_ext {k : Kd} (h : KdV K H v k) (e : ExtN H H') : KdV K H' v k := by
  cases k with
  | time => exact h
  | dom l => exact tp_ext h e
theorem ent_ext {kvs : List (Key × V)} {S : Shp} (h : Ent K H kvs S) (e : ExtN H H') : Ent K H' kvs S := Paired.mono (fun _ _ q => ⟨q.1, kdV_ext q.2 e⟩) h
theorem shp_ext {S : Shp} (h : ShpAt K H v S) (e : ExtN H H') : ShpAt K H' v S := by
  obtain ⟨d, kvs, e1, h1, h2⟩ := h
  exact ⟨d, kvs, e1, e _ _ h1 (fun ps z => by cases z), ent_ext h2 e⟩
theorem ext_same (e : ExtN H H1) (s : Same H1 H') : ExtN H H' := fun b o q n => s _ _ (e b o q n)
theorem same_ext (s : Same H H1) (e : ExtN H1 H') : ExtN H H' := fun b o q n => e b o (s _ _ q) n
theorem ext_of (s : Same H H') : ExtN H H' := .of s
theorem lst_ne {xs : List V} (ps : Array Value) : HO.lst xs ≠ .tbl ps := fun z => by cases z
theorem ext_lst (e : ExtN H H') {d : Addr} (h : H d = some (.lst xs)) : H' d = some (.lst xs) := e _ _ h (lst_ne)
/-- one object, neither table nor code, is changed -/
theorem tabs_upd {T : List (Addr × Str)} {d : Addr} {u o : HO} (t : Tabs T H) (h : H d = some u) (n1 : ∀ ps, u ≠ .tbl ps) (n2 : ∀ q, u ≠ CodeO d q) : Tabs T (upd H d o) := fun p hp => by
  obtain ⟨ps, h1, h2, h3⟩ := t p hp
  have e : ∀ b w, H b = some w → b ≠ d ∨ w = u := fun b w e => by
    by_cases z : b = d
    · rw [z, h] at e
      exact .inr (Option.some.inj e).symm
    · exact .inl z
  refine ⟨ps, ?_, h2, fun pos cv hc => ?_⟩
  · rcases e _ _ h1 with z | z
    · rw [upd_ne z]
      exact h1
    · exact absurd z.symm (n1 ps)
  · obtain ⟨c, e1, e2⟩ := h3 pos cv hc
    refine ⟨c, e1, ?_⟩
    by_cases z : c = d
    · rw [z, h] at e2
      exact absurd (Option.some.inj e2) (n2 _)
    · rw [upd_ne z]
      exact e2
theorem tabs_lst {T : List (Addr × Str)} {d : Addr} {o : HO} (t : Tabs T H) (h : H d = some (.lst xs)) : Tabs T (upd H d o) := tabs_upd t h lst_ne fun q z => by unfold CodeO at z; cases z
theorem tabs_frz {T : List (Addr × Str)} {d : Addr} {o u : HO} {od : Obj} (t : Tabs T H) (h : H d = some (.frz od u)) : Tabs T (upd H d o) := tabs_upd t h (fun ps z => by cases z) fun q z => by unfold CodeO at z; cases z
theorem tabs_new {T : List (Addr × Str)} {d : Addr} {o : HO} (t : Tabs T H) (h : H d = none) : Tabs T (upd H d o) := t.ext fun b w e => by
  rw [upd_ne (ne_of_none e h)]
  exact e
/-- the object d, and tables, may change -/
def KeptN (d : Addr) (H H' : Hp) : Prop := ∀ a o, a ≠ d → H a = some o → (∀ ps, o ≠ .tbl ps) → H' a = some o
theorem keptN_ext {d : Addr} (k : Kept d H H1) (e : ExtN H1 H') : KeptN d H H' := fun a o n h t => e _ _ (k a o n h) t
end
/-- THE RULE of a def, its own code told -/
theorem okC {P : Program} {w : World} {K : W.Frag} {mg : Str → Option Value} {base : Heap} {x qual : Str} {params : Arguments} {body : List Stmt} {scope : Scope} {dvs : List V} {kws : List (Str × V)} {f : Addr} {fd : FuncData} {CX : CXT} {N ps : List Str} {k : Nat} {sp : Sp} {c : Addr}
    (F : FunD K x qual params body scope dvs kws f fd) (hc : fd.code = .ref c) (S : FnScope N ps scope) (len : ∀ vs H Q E, sp vs H Q E → vs.length = ps.length)
    (hbody : ∀ (A : Around) (outer : List Env) (s : Shared) (H : Hp) (vs : List V) (Q : VK) (E : XK), Room k (A.deeper (envOfC qual scope s.heap.objs.size f (.ref c))) → sp vs H Q E →
      ∃ t, PSs (cxOf CX P w K mg base N qual scope f (.ref c) A outer s H E) body t ∧ t { nx := fun _ H' => Q .non H', rt := Q } (start N vs) H) : FnOk P w K mg base CX (k + 1) f fd ps sp := by
  obtain ⟨oc, od, dV, kV, doc, pm, an, cdv, ct, osl, rfl, lk, hcd, _, _⟩ := F.ex
  have hc : cdv = .ref c := hc
  subst hc
  exact fn_of lk hcd S len fun A outer s H vs Q E hr hsp => hbody A outer s H vs Q E hr hsp
end EW
end

section
set_option maxHeartbeats 4000000
namespace TM
open PySem PySem.Spec PyProof.Rows L2 EW
abbrev NBoundR : List Str := ["_law_has", "_law_told", "_law_far", "_law_period", "_law_many"]
theorem BoundR : FnScope NBoundR ["_law_has", "_law_told", "_law_far", "_law_period"] (defScope sBoundR) := ⟨rfl, rfl, rfl, by decide +kernel, rfl, by decide +kernel, by decide +kernel⟩
/-- a lambda at f says which numbers there are -/
def Jg (f : Addr) (spf : Sp) (has : Int → Prop) (H : Hp) : Prop := ∀ (H1 : Hp) (m : Int) (Q1 : VK), LamX.ExtN H H1 → (∀ (b : Bool) H2, Same H1 H2 → (b = true ↔ has m) → Q1 (.bl b) H2) → spf [.int m] H1 Q1 E0
def spBR (P : Program) (w : World) (K : W.Frag) (mg : Str → Option Value) (base : Heap) : Sp := fun vs H Q _ => ∃ (f : Addr) (spf : Sp) (o : Option Int) (F p : Int) (has : Int → Prop), vs = [.ref f, ob o, .int F, .int p] ∧ 1 ≤ p ∧ p ≤ 400 ∧ Cb P w K mg base 4 f spf ∧ (∃ F, H f = some (LO f F)) ∧ Jg f spf has H ∧ Zn.Bd p F has o ∧ ∀ H', Same H H' → Q (.bl true) H'
section
variable {P : Program} {w : World} {K : W.Frag} {mg : Str → Option Value} {base : Heap}
theorem ones_dp {a : Addr} {c : Nat} {H : Hp} (h : H a = some (.lst (List.replicate c (.int 1)))) : Dp K H (.ref a) (.list (List.replicate c (.int 1))) := by
  refine .lst (SqL.of h) ?_
  have : List.replicate c (V.int 1) = (List.replicate c (1 : Int)).map V.int := by simp
  rw [this]
  have : List.replicate c (PyData.int 1) = (List.replicate c (1 : Int)).map PyData.int := by simp
  rw [this]
  exact ints_dp _
theorem ones_shaped (c : Nat) : SeqAt.shaped (.list (List.replicate c (.int 1))) = true := by
  have : List.replicate c (PyData.int 1) = (List.replicate c (1 : Int)).map PyData.int := by simp
  rw [this]
  exact shaped_ints _
theorem ok_boundR {fd : FuncData} (F : FnP K "_law_bound_right" sBoundR fd) (T : Fre mg) : FnOk P w K mg base CX0 5 (He.ga K "_law_bound_right") fd ["_law_has", "_law_told", "_law_far", "_law_period"] (spBR P w K mg base) := by
  refine F.ok BoundR (fun vs H Q E h => ?_) (fun cdv A outer s H vs Q E hr h => ?_)
  · obtain ⟨a, spf, o, far, p, has, rfl, _⟩ := h
    rfl
  · obtain ⟨a, spf, o, far, p, has, rfl, p1, p4, act, ⟨FL, hf⟩, hj, bd, k⟩ := h
    have hbig : (10000 : Nat) ≤ sizeLine := by decide
    have hfs : ∀ H', Same H H' → ∃ F, H' a = some (LO a F) := fun H' s => ⟨FL, s _ _ hf⟩
    refine ⟨_, PSs.nox (pss_cons (ps_if (pt_cmp (pc_isN (pv 1))) (pss_one (ps_ret (pe_cmpR (op_neDK K rfl hr.units) (pe_lc (own := [("_law_many", 4)]) (g := gName 4) (tt := _) (by rfl) BoundR.nd (EW.pi_range2W rfl T.range (pa_cons (pe_op op_sub (pv 2) (pe_op op_mul pe_int (pv 3))) (pa_cons (pv 2) pa_nil))) (blkOk_by (own := [("_law_many", 4)]) (N := NBoundR) (sc := defScope sBoundR) (by decide +kernel)) (fun _ _ _ _ _ => (pg_name (i := 4) BoundR.nd rfl (Or.inl rfl))) (fun _ _ _ _ _ => (pts_one (pt_val (EW.pe_cb (i := 0) (j := 4) act (hr.mono (by decide)) (Nat.le_refl _) rfl (by first | exact Or.inl rfl | exact Or.inr (Or.inl rfl) | exact Or.inr (Or.inr rfl)) (pa_cons (pv 4) pa_nil))))) (fun _ _ _ _ _ => pe_int)) (pe_lstS pa_nil) (nomark _)))) pss_nil)
      (pss_one (ps_ret (pe_and (EW.pe_cb (i := 0) (j := 4) act (hr.mono (by decide)) (Nat.le_refl _) rfl (by first | exact Or.inl rfl | exact Or.inr (Or.inl rfl) | exact Or.inr (Or.inr rfl)) (pa_cons (pv 1) pa_nil)) (pe_one (pe_cmpR (op_eqDK K rfl hr.units) (pe_lc (own := [("_law_many", 4)]) (g := gName 4) (tt := _) (by rfl) BoundR.nd (EW.pi_range2W rfl T.range (pa_cons (pe_op op_sub (pv 1) (pe_op op_mul pe_int (pv 3))) (pa_cons (pv 1) pa_nil))) (blkOk_by (own := [("_law_many", 4)]) (N := NBoundR) (sc := defScope sBoundR) (by decide +kernel)) (fun _ _ _ _ _ => (pg_name (i := 4) BoundR.nd rfl (Or.inl rfl))) (fun _ _ _ _ _ => (pts_one (pt_val (EW.pe_cb (i := 0) (j := 4) act (hr.mono (by decide)) (Nat.le_refl _) rfl (by first | exact Or.inl rfl | exact Or.inr (Or.inl rfl) | exact Or.inr (Or.inr rfl)) (pa_cons (pv 4) pa_nil))))) (fun _ _ _ _ _ => pe_int)) (pe_lstS pa_nil) (nomark _))))))), ?_⟩
    cases o with
    | none =>
      obtain ⟨m0, m1, m2, hm⟩ := bd.no rfl
      refine ⟨_, rfl, _, rfl, iteT ?_⟩
      refine ⟨_, rfl, _, rfl, _, _, rfl, rfl, (by first | exact .inl ⟨by omega, by omega⟩ | exact ⟨by omega, by omega, by omega, by omega⟩), _, _, rfl, rfl, _, rfl, nil_ ⟨_, _, rfl, fun D hD => ?_⟩⟩
      refine loop_rg (fun i H' => ∃ c : Nat, H' D = some (.lst (List.replicate c (.int 1))) ∧ c ≤ i ∧ Same H H' ∧ (m0 < far - 2 * p + (i : Int) → 0 < c)) ⟨0, upd_same, Nat.le_refl _, upd_new hD, fun h => absurd h (by omega)⟩ ?_ ?_
      · rintro i H2 hi ⟨c, eD, hc, s2, hw⟩
        refine ⟨rfl, rfl, hfs _ s2, _, rfl, nil_ ⟨hfs _ s2, hj H2 _ _ (.of s2) fun b H3 s3 hb => ?_⟩⟩
        have eD3 := s3 _ _ eD
        refine ⟨_, rfl, ?_⟩
        cases b with
        | false =>
          refine iteF ⟨c, eD3, by omega, s2.trans s3, fun h => hw ?_⟩
          by_cases e : m0 = far - 2 * p + (i : Int)
          · subst e
            cases hb.mpr hm
          · omega
        | true =>
          refine iteT ⟨_, eD3, by rw [List.length_replicate]; omega, c + 1, ?_, by omega, same_upd (s2.trans s3) hD, fun _ => Nat.succ_pos _⟩
          rw [upd_same, List.replicate_succ']
      · rintro H2 ⟨c, eD, hc, s2, hw⟩
        have hpos : 0 < c := hw (by omega)
        refine ⟨(by show 0 ≤ sizeLine; omega), fun q3 H3 n3 s3 e3 => ?_⟩
        refine neNil (ones_dp (s3 _ _ eD)) (ones_shaped c) (.lst (SqL.of e3) .nil) ?_
        have : (List.replicate c (PyData.int 1)).isEmpty = false := by
          cases c with
          | zero => omega
          | succ c => rfl
        rw [this]
        exact k H3 (s2.trans s3)
    | some t =>
      obtain ⟨h1, h2⟩ := bd.yes t rfl
      refine ⟨_, rfl, _, rfl, iteF ?_⟩
      refine ⟨rfl, ⟨FL, hf⟩, _, rfl, nil_ ⟨⟨FL, hf⟩, hj H _ _ (.of (Same.refl _)) fun b H1 s1 hb => ?_⟩⟩
      have hb : b = true := hb.mpr h1
      subst hb
      refine ⟨_, rfl, iteT ?_⟩
      refine ⟨_, rfl, _, rfl, _, _, rfl, rfl, (by first | exact .inl ⟨by omega, by omega⟩ | exact ⟨by omega, by omega, by omega, by omega⟩), _, _, rfl, rfl, _, rfl, nil_ ⟨_, _, rfl, fun D hD => ?_⟩⟩
      refine loop_rg (fun i H' => H' D = some (.lst []) ∧ Same H H') ⟨upd_same, s1.trans (upd_new hD)⟩ ?_ ?_
      · rintro i H2 hi ⟨eD, s2⟩
        refine ⟨rfl, rfl, hfs _ s2, _, rfl, nil_ ⟨hfs _ s2, hj H2 _ _ (.of s2) fun b H3 s3 hb => ?_⟩⟩
        have hb : b = false := by
          cases b with
          | false => rfl
          | true => exact absurd (hb.mp rfl) (h2 _ (by omega))
        subst hb
        exact ⟨_, rfl, iteF ⟨s3 _ _ eD, s2.trans s3⟩⟩
      · rintro H2 ⟨eD, s2⟩
        refine ⟨(by show 0 ≤ sizeLine; omega), fun q3 H3 n3 s3 e3 => ?_⟩
        refine eqNil (.lst (SqL.of (s3 _ _ eD)) .nil) nil_shaped (.lst (SqL.of e3) .nil) ?_
        exact k H3 (s2.trans s3)
end
end TM
end

section
set_option maxHeartbeats 4000000
namespace TM
open PySem PySem.Spec PyProof.Rows L2 EW
abbrev NPairR : List Str := ["_law_has", "_law_pair_here", "_law_period", "_law_far", "_law_most"]
theorem PairR : FnScope NPairR ["_law_has", "_law_pair_here", "_law_period"] (defScope sPairR) := ⟨rfl, rfl, rfl, by decide +kernel, rfl, by decide +kernel, by decide +kernel⟩
abbrev NToldR : List Str := ["_law_period", "_law_zone_here", "_law_found", "_law_place", "_law_has"]
theorem ToldR : FnScope NToldR ["_law_period", "_law_zone_here", "_law_found"] (defScope sToldR) := ⟨rfl, rfl, rfl, by decide +kernel, rfl, by decide +kernel, by decide +kernel⟩
abbrev lamP1 : Str := "_law_pair_right.<locals>.<lambda>"
abbrev lamP2 : Str := "_law_told_right.<locals>.<lambda>"
/-- the tables of the two defs that make lambdas -/
abbrev PT2 := Addr × Addr
abbrev LT (c : PT2) : List (Addr × Str) := [(c.1, lamP1), (c.2, lamP2)]
def lamSc (e : Expr) : Scope := match e with
  | .Lambda _ _ sc _ => sc
  | _ => default
def lamPs (e : Expr) : Arguments := match e with
  | .Lambda a _ _ _ => a
  | _ => default
def lamBd (e : Expr) : Expr := match e with
  | .Lambda _ b _ _ => b
  | _ => default
def retA (s : Stmt) : Expr := match (defBody s).reverse with
  | (.Return (some (.Call _ (a :: _) _ _)) _) :: _ => a
  | _ => default
def forA (s : Stmt) : Expr := match defBody s with
  | (.For _ _ (.Assign _ e _ :: _) _ _) :: _ => e
  | _ => default
abbrev lamN : Expr := retA sPairR
abbrev lamG : Expr := retA sToldR
abbrev lamT : Expr := forA sToldR
abbrev NLamN : List Str := ["_law_many", "_law_has"]
abbrev NLamG : List Str := ["_law_many", "_law_period", "_law_zone_here"]
abbrev NLamT : List Str := ["_law_time", "_law_period", "_law_zone_here", "_law_place"]
abbrev frN : List Str := ["_law_has"]
abbrev frG : List Str := ["_law_period", "_law_zone_here"]
abbrev frT : List Str := ["_law_period", "_law_zone_here", "_law_place"]
theorem lamN_scope : NdefX.NScope NLamN ["_law_many"] frN (lamSc lamN) := NdefX.nscope_by (by decide +kernel)
theorem lamG_scope : NdefX.NScope NLamG ["_law_many"] frG (lamSc lamG) := NdefX.nscope_by (by decide +kernel)
theorem lamT_scope : NdefX.NScope NLamT ["_law_time"] frT (lamSc lamT) := NdefX.nscope_by (by decide +kernel)
theorem lamN_free : ∀ y ∈ (lamSc lamN).names, y.2 = .free → (defScope sPairR).names.lookup y.1 = some .cell ∨ (defScope sPairR).names.lookup y.1 = some .free := by decide +kernel
theorem lamG_free : ∀ y ∈ (lamSc lamG).names, y.2 = .free → (defScope sToldR).names.lookup y.1 = some .cell ∨ (defScope sToldR).names.lookup y.1 = some .free := by decide +kernel
theorem lamT_free : ∀ y ∈ (lamSc lamT).names, y.2 = .free → (defScope sToldR).names.lookup y.1 = some .cell ∨ (defScope sToldR).names.lookup y.1 = some .free := by decide +kernel
theorem lamN_fr : ∀ y ∈ frN, (y, NameKind.free) ∈ (lamSc lamN).names := by decide +kernel
theorem lamG_fr : ∀ y ∈ frG, (y, NameKind.free) ∈ (lamSc lamG).names := by decide +kernel
theorem lamT_fr : ∀ y ∈ frT, (y, NameKind.free) ∈ (lamSc lamT).names := by decide +kernel
/-! ### what stands while cells are held -/
section
variable {K : W.Frag} {H H0 H1 H2 H3 H4 Hp Hp' : L2.Hp} {di : Addr} {cl : List (Str × Addr)} {fr : List Str} {ws : List (Option V)} {ds : List V}
theorem drp_same (d : Drp cl Hp H) : Same H Hp := fun _ _ e => (d.up e).1
theorem rtk_same (d : Drp cl H H1) (s : Same H1 H2) (r : Rtk cl H H2 H3) : Same H H3 := fun b o e => by
  by_cases c : IsCap cl b
  · rw [r.1 b c]
    exact e
  · rw [r.2 b c]
    exact s b o (by rw [d.2 b c]; exact e)
theorem cellsH_ext (C : CellsH cl fr ws H) (k : LamX.ExtN H H1) : CellsH cl fr ws H1 := by
  have q : ∀ c o, H c = some (Fz o) → H1 c = some (Fz o) := fun c o e => k c _ e fun ps z => by cases z
  refine ⟨C.len, fun c hc => ?_, C.inj, fun i y e => ?_⟩
  · obtain ⟨o, v, e, d⟩ := C.all c hc
    exact ⟨o, v, q c o e, d⟩
  · obtain ⟨c, o, h1, h2, h3⟩ := C.has i y e
    exact ⟨c, o, h1, q c o h2, h3⟩
/-- held, grown, let go -/
theorem extn_drp (d : Drp cl Hp H) (k : LamX.ExtN Hp Hp') (d' : Drp cl Hp' H1) : LamX.ExtN H H1 := fun b o e n => by
  obtain ⟨e1, c⟩ := d.up e
  rw [d'.2 b c]
  exact k b o e1 n
theorem tabs_same {T : List (Addr × Str)} (t : LamX.Tabs T H) (s : Same H H1) : LamX.Tabs T H1 := t.ext fun b w e => s b w e
theorem tabs_drp {T : List (Addr × Str)} (t : LamX.Tabs T Hp) (C : CellsH cl fr ws Hp) (d : Drp cl Hp H) : LamX.Tabs T H := fun p hp => by
  obtain ⟨ps, h1, h2, h3⟩ := t p hp
  refine ⟨ps, d.at C h1 fun o z => (by cases z), h2, fun pos cv hc => ?_⟩
  obtain ⟨c, e1, e2⟩ := h3 pos cv hc
  exact ⟨c, e1, d.at C e2 fun o z => by
    unfold LamX.CodeO at z
    cases z⟩
end
def spPR (P : Program) (w : World) (K : W.Frag) (mg : Str → Option Value) (base : Heap) (PT : PT2) : Sp := fun vs H Q _ => ∃ (f : Addr) (spf : Sp) (v : V) (q : OO) (p : Int) (has : Int → Prop), vs = [.ref f, v, .int p] ∧ Tp K H v [ob q.1, ob q.2] ∧ 1 ≤ p ∧ p ≤ 400 ∧ Cb P w K mg base 3 f spf ∧ (∃ F, H f = some (LO f F)) ∧ Jg f spf has H ∧ Zn.PairOk p (0 - 10000000000000000) has q ∧ LamX.Tabs (LT PT) H ∧
  ∀ H', LamX.ExtN H H' → LamX.Tabs (LT PT) H' → Q (.bl true) H'
def spLamN (a : Addr) (spf : Sp) : List (Option V) → Sp := fun ws vs H Q _ => ∃ m : Int, vs = [.int m] ∧ ws = [some (.ref a)] ∧ (∃ F, H a = some (LO a F)) ∧ spf [.int (0 - m)] H Q E0
section
variable {P : Program} {w : World} {K : W.Frag} {mg : Str → Option Value} {base : Heap}
theorem lok_N {a : Addr} {spf : Sp} (act : Cb P w K mg base 3 a spf) {f : Addr} {F : LF} (h1 : F.params = lamPs lamN) (h2 : F.body = lamBd lamN) (h3 : F.scope = lamSc lamN) : LOk P w K mg base 4 f F frN (spLamN a spf) := by
  obtain ⟨q, pa, bd, sc, cl, c⟩ := F
  dsimp only at h1 h2 h3
  subst h1 h2 h3
  refine lok_of (N := NLamN) (ps := ["_law_many"]) lamN_scope (fun pm ctv us hl => match us, hl with | [_], _ => rfl) (fun ws vs H Q E h => ?_) (fun A outer s H vs ws Q E hr hw h => ?_)
  · obtain ⟨m, rfl, _⟩ := h
    rfl
  · obtain ⟨m, rfl, rfl, hf, h⟩ := h
    refine ⟨_, (EW.pe_cb (i := 1) (j := 3) act (hr.mono (by decide)) (Nat.le_refl _) rfl (by first | exact Or.inl rfl | exact Or.inr (Or.inl rfl) | exact Or.inr (Or.inr rfl)) (pa_cons (pe_op op_sub pe_int (pv 0)) pa_nil)), ?_⟩
    exact ⟨rfl, hf, _, rfl, _, _, rfl, rfl, nil_ ⟨hf, h⟩⟩
theorem cb_up {k j : Nat} {f : Addr} {sp : Sp} (a : Cb P w K mg base k f sp) (h : k ≤ j) : Cb P w K mg base j f sp := fun A outer s H us vs Q E hr => a A outer s H us vs Q E (hr.mono h)
theorem lo_tbl {f : Addr} {F : LF} (ps : Array Value) : LO f F ≠ .tbl ps := lo_ne ps
theorem co_tbl {c : Addr} {q : Str} (ps : Array Value) : LamX.CodeO c q ≠ .tbl ps := fun z => by
  unfold LamX.CodeO at z
  cases z
theorem ok_pairR {fd : FuncData} (F : FnP K "_law_pair_right" sPairR fd) {c : Addr} {PT : PT2} (hne : PT.1 ≠ PT.2) (hcd : fd.code = .ref c) (TB : LamX.TabB base mg c PT.1) (D_law_bound_right : Df P w K mg base 5 "_law_bound_right" ["_law_has", "_law_told", "_law_far", "_law_period"] (spBR P w K mg base)) :
    FnOk P w K mg base CX0 6 (He.ga K "_law_pair_right") fd ["_law_has", "_law_pair_here", "_law_period"] (spPR P w K mg base PT) := by
  refine okC F hcd PairR (fun vs H Q E h => ?_) (fun A outer s H vs Q E hr h => ?_)
  · obtain ⟨a, spf, v, q, p, has, rfl, _⟩ := h
    rfl
  · obtain ⟨a, spf, v, ⟨lo, hi⟩, p, has, rfl, ⟨va, rfl, hv⟩, p1, p4, act, ⟨FL, hf⟩, hj, pok, ht, k⟩ := h
    have hlm : (PT.1, (cxOf CX0 P w K mg base NPairR "_law_pair_right" (defScope sPairR) (He.ga K "_law_pair_right") (.ref c) A outer s H E).env.qual ++ "<lambda>") ∈ LT PT := List.mem_cons_self
    have hlu : ∀ p ∈ LT PT, p.1 = PT.1 → p.2 = (cxOf CX0 P w K mg base NPairR "_law_pair_right" (defScope sPairR) (He.ga K "_law_pair_right") (.ref c) A outer s H E).env.qual ++ "<lambda>" := fun p hp hq => by
      rcases List.mem_cons.mp hp with e | e
      · rw [e]
        rfl
      · rw [List.mem_singleton.mp e] at hq
        exact absurd hq.symm hne
    obtain ⟨clN, hclN⟩ : ∃ cl, cl = cloFrom (envOfC "_law_pair_right" (defScope sPairR) s.heap.objs.size (He.ga K "_law_pair_right") (.ref c)).cells (lamSc lamN).names [] := ⟨_, rfl⟩
    refine ⟨_, PSs.nox (pss_cons (ps_cut (ps_set (i := 3) PairR.nd rfl (Or.inl rfl) (pe_op op_powW pe_int pe_int)))
      (pss_cons (ps_cut (ps_if (pt_not (pt_val (pe_df D_law_bound_right (hr.mono (by decide)) rfl (pa_cons (pv 0) (pa_cons (pe_ix (ix_tupK K rfl) (pv 1) pe_int (fun _ _ => rfl)) (pa_cons (pe_op op_sub pe_int (pv 3)) (pa_cons (pv 2) pa_nil))))))) (pss_one (ps_ret pe_bl)) pss_nil))
      (pss_cons (ps_cut (ps_set (i := 4) PairR.nd rfl (Or.inl rfl) (pe_ifExp (pt_cmp (pc_isN (pe_ix (ix_tupK K rfl) (pv 1) pe_int (fun _ _ => rfl)))) pe_non (pe_op op_sub pe_int (pe_ix (ix_tupK K rfl) (pv 1) pe_int (fun _ _ => rfl))))))
      (pss_one (ps_ret (EW.pe_dfH (js := [0]) (fr := frN) (fun ok => NdefX.Caps.made ok lamN_free lamN_fr rfl) (fun _ => rfl) D_law_bound_right (hr.mono (by decide)) rfl (pa_cons (EW.pe_lamC (params := lamPs lamN) (body := lamBd lamN) (scope := lamSc lamN) TB rfl hlm hlu rfl lamN_free) (pa_cons (pv 4) (pa_cons (pe_op op_sub pe_int (pv 3)) (pa_cons (pv 2) pa_nil)))))))))), ?_⟩
    refine ⟨fun σ' H' => σ' = [some (.ref a), some (.ref va), some (.int p), some (.int 10000000000000000), none] ∧ H' = H, ?_, ?_⟩
    · exact ⟨_, _, rfl, rfl, ⟨by decide, by decide⟩, rfl, rfl⟩
    rintro σ' H0 ⟨rfl, rfl⟩
    refine ⟨fun σ' H' => σ' = [some (.ref a), some (.ref va), some (.int p), some (.int 10000000000000000), none] ∧ Same H0 H', ?_, ?_⟩
    · refine ⟨_, rfl, _, rfl, va, _, _, _, rfl, rfl, hv, rfl, _, rfl, _, _, rfl, rfl, _, rfl, nil_ ⟨a, spf, lo, 0 - 10000000000000000, p, has, rfl, p1, p4, cb_up act (by decide), ⟨FL, hf⟩, hj, pok.lo, fun H1 s1 => ⟨_, rfl, iteF ⟨rfl, s1⟩⟩⟩⟩
    rintro σ' H1 ⟨rfl, s1⟩
    refine ⟨fun σ' H' => σ' = [some (.ref a), some (.ref va), some (.int p), some (.int 10000000000000000), some (ob (Zn.ng hi))] ∧ H' = H1, ?_, ?_⟩
    · refine ⟨_, rfl, va, _, _, _, rfl, rfl, SqT.same hv s1, rfl, ?_⟩
      cases hi with
      | none => exact ⟨_, rfl, iteT ⟨rfl, rfl⟩⟩
      | some j => exact ⟨_, rfl, iteF ⟨_, rfl, va, _, _, _, rfl, rfl, SqT.same hv s1, rfl, _, _, rfl, rfl, by show [_, _, _, _, some (V.int (0 - j))] = _; rw [Int.zero_sub]; rfl, rfl⟩⟩
    rintro σ' H1' ⟨rfl, rfl⟩
    refine ⟨tabs_same ht s1, fun f c' H2 e2 t2 nf ef ec => ?_⟩
    refine ⟨_, rfl, _, rfl, _, _, rfl, rfl, _, rfl, nil_ ?_⟩
    intro Hp C d
    have C : CellsH clN frN [some (.ref a)] Hp := by
      rw [hclN]
      exact C
    have d : Drp clN Hp H2 := by
      rw [hclN]
      exact d
    have s2p := drp_same d
    have e02 : LamX.ExtN H0 H2 := same_ext s1 e2
    obtain ⟨FN, hFN⟩ : ∃ FN : LF, FN = ⟨"_law_pair_right.<locals>." ++ "<lambda>", lamPs lamN, lamBd lamN, lamSc lamN, clN, c'⟩ := ⟨_, rfl⟩
    have ef : H2 f = some (LO f FN) := by
      rw [hFN, hclN]
      exact ef
    have ec : H2 FN.c = some (LamX.CodeO FN.c FN.qual) := by
      rw [hFN]
      exact ec
    have ecl : FN.cl = clN := by rw [hFN]
    refine ⟨f, spHeld f FN frN [some (.ref a)] (spLamN a spf), Zn.ng hi, 0 - 10000000000000000, p, fun m => has (-m), rfl, p1, p4, cb_of (lok_N act (by rw [hFN]) (by rw [hFN]) (by rw [hFN])), ⟨FN, s2p _ _ ef⟩, fun H7 m Q1 e7 hq => ?_, pok.hi, fun H7 s7 H8 d8 => ?_⟩
    · refine ⟨e7 _ _ (s2p _ _ ef) lo_tbl, e7 _ _ (s2p _ _ ec) co_tbl, by rw [ecl]; exact cellsH_ext C e7, fun H8 d8 => ?_⟩
      rw [ecl] at d8
      have e28 := extn_drp d e7 d8
      have e08 : LamX.ExtN H0 H8 := fun b o e n => e28 b o (e02 b o e n) n
      refine ⟨m, rfl, rfl, ⟨FL, e08 _ _ hf lo_tbl⟩, hj H8 _ _ e08 fun b H9 s9 hb Hq r9 => ?_⟩
      rw [ecl] at r9
      exact hq b Hq (rtk_same d8 s9 r9) (by rw [hb, Int.zero_sub])
    · have d8 : Drp clN H7 H8 := by
        rw [hclN]
        exact d8
      have e28 := extn_drp d (.of s7) d8
      exact k H8 (fun b o e n => e28 b o (e02 b o e n) n) (tabs_drp (tabs_same t2 (s2p.trans s7)) (cellsH_ext C (.of s7)) d8)
end
end TM
end

section
set_option maxHeartbeats 4000000
namespace TM
open PySem PySem.Spec PyProof.Rows L2 EW
abbrev NBent : List Str := ["_law_dice_here", "_law_zone_here", "_law_spans", "_law_gap", "_law_span_here", "_law_line", "_law_at"]
theorem Bent : FnScope NBent ["_law_dice_here", "_law_zone_here"] (defScope sBent) := ⟨rfl, rfl, rfl, by decide +kernel, rfl, by decide +kernel, by decide +kernel⟩
def spBent (K : W.Frag) : Sp := fun vs H Q _ => ∃ (di : Addr) (v : V) (S : Shp) (p n : Int) (z : Zn.Z), vs = [.ref di, v] ∧ Dc H di n ∧ n + 10 ≤ 1000000 ∧ ZnV K H v z ∧ ZOk S p z ∧ (tms S).length ≤ 2 ∧ 1 ≤ p ∧
  ∀ (b : V) (y : Zn.Z) (H' : Hp), ZnV K H' b y → ZOk S p y → EW.Kept di H H' → Dc H' di (n + 10) → Q b H'
/-- a new list with what a span tells -/
def Trq (H H' : Hp) (L : Addr) (u : V) (s : Rn.Sp3) : Prop := ∃ a, u = .ref a ∧ a ≠ L ∧ H a = none ∧ H' a = some (.lst [ob s.res, ob s.lo, ob s.hi])
theorem Trq.same {H H1 H2 : Hp} {L : Addr} {u : V} {s : Rn.Sp3} (h : Trq H H1 L u s) (k : Same H1 H2) : Trq H H2 L u s := by
  obtain ⟨a, e, n, f, q⟩ := h
  exact ⟨a, e, n, f, k _ _ q⟩
theorem Trq.upd {H H1 : Hp} {L : Addr} {u : V} {s : Rn.Sp3} {o : HO} (h : Trq H H1 L u s) : Trq H (upd H1 L o) L u s := by
  obtain ⟨a, e, n, f, q⟩ := h
  exact ⟨a, e, n, f, by rw [upd_ne n]; exact q⟩
def tripD (s : Rn.Sp3) : PyData := .list [od s.res, od s.lo, od s.hi]
theorem trips_dp {K : W.Frag} {H H' : Hp} {L : Addr} : ∀ {us : List V} {ss : List Rn.Sp3}, Paired (Trq H H' L) us ss → DpAll K H' us (ss.map tripD)
  | _, _, .nil => .nil
  | _, _, .cons h t => by
    obtain ⟨a, rfl, _, _, q⟩ := h
    exact .cons (.lst (SqL.of q) (.cons (od_dp _) (.cons (od_dp _) (.cons (od_dp _) .nil)))) (trips_dp t)
theorem trips_shaped {ss : List Rn.Sp3} (h : ss.length ≤ 2) : SeqAt.shaped (.list (ss.map tripD)) = true := by
  match ss, h with
  | [], _ => decide +kernel
  | [s], _ => simp [tripD, SeqAt.shaped, PyData.canLay0, PyData.canLayAll0, od_lay, PyData.depth, PyData.depthAll, od_depth]
  | [s, t], _ => simp [tripD, SeqAt.shaped, PyData.canLay0, PyData.canLayAll0, od_lay, PyData.depth, PyData.depthAll, od_depth]
theorem ixn_nat {n i : Nat} (h : i < n) : ixN n (i : Int) = some i := by
  unfold ixN
  rw [if_pos (by omega), if_pos (by omega), Int.toNat_natCast]
theorem none_back {H H1 : Hp} {a : Addr} (s : Same H H1) (h : H1 a = none) : H a = none := by
  cases q : H a with
  | none => rfl
  | some o =>
    rw [s a o q] at h
    cases h
section
variable {P : Program} {w : World} {K : W.Frag} {mg : Str → Option Value} {base : Heap}
theorem ok_bent {fd : FuncData} (F : FnP K "_law_bent" sBent fd) (T : Fre mg) (D_law_roll : Df P w K mg base 1 "_law_roll" ["_law_dice_here", "_law_many"] spRoll) (D_law_pick : Df P w K mg base 2 "_law_pick" ["_law_dice_here", "_law_items"] (spPick K)) :
    FnOk P w K mg base CX0 3 (He.ga K "_law_bent") fd ["_law_dice_here", "_law_zone_here"] (spBent K) := by
  refine F.ok Bent (fun vs H Q E h => ?_) (fun cdv A outer s H vs Q E hr h => ?_)
  · obtain ⟨di, v, S, p, n, z, rfl, _⟩ := h
    rfl
  · obtain ⟨di, v, S, p, n, z, rfl, D, hn, hz, zo, tl, p1, k⟩ := h
    obtain ⟨e1, a1, b1, c1', us1, rfl, g11, g12, g13, g14, ⟨cg, rfl, g15⟩⟩ := ix_same hz
    obtain ⟨ds, hds⟩ := D.lst
    have hul1 := Paired.length g14
    have zl := zo.ns
    have hbig : (64 : Nat) ≤ sizeLine := by decide
    refine ⟨_, PSs.nox (pss_cons (ps_cut (ps_par (i := 2) (j := 3) (by rfl) Bent.nd rfl rfl (by decide) rfl rfl (pa_cons (pe_lc (own := [("_law_span_here", 4)]) (g := gName 4) (tt := tYes) (by rfl) Bent.nd (pi_tupK (K := K) rfl (pe_ix (ix_tupK K rfl) (pv 1) pe_int (fun _ _ => rfl))) (blkOk_by (own := [("_law_span_here", 4)]) (N := NBent) (sc := defScope sBent) (by decide +kernel)) (fun _ _ _ _ _ => (pg_name (i := 4) Bent.nd rfl (Or.inl rfl))) (fun _ _ _ _ _ => pts_nil) (fun _ _ _ _ _ => (pe_callTy (call_listS K rfl) (by rfl) T.list EW.boot_list (pa_cons (pv 4) pa_nil)))) (pa_cons (pe_callTy (call_listS K rfl) (by rfl) T.list EW.boot_list (pa_cons (pe_ix (ix_tupK K rfl) (pv 1) pe_int (fun _ _ => rfl)) pa_nil)) pa_nil)) (by rfl)))
      (pss_cons (ps_cut (ps_if (pt_cmpR (op_eqDK K rfl hr.units) (pv 2) (pe_lstS pa_nil) (nomark _)) (pss_one (ps_ret (pv 1))) pss_nil))
      (pss_cons (ps_cut (ps_set (i := 5) Bent.nd rfl (Or.inl rfl) (pe_df D_law_pick (hr.mono (by decide)) rfl (pa_cons (pv 0) (pa_cons (pe_op op_catS (pv 2) (pe_op op_rep (pe_lstS (pa_cons (pv 3) pa_nil)) (pe_callTy call_int1 (by rfl) T.int EW.boot_int (pa_cons (pe_cmpR op_eq (pe_callB (call_lenK K rfl) (by rfl) T.len PySem.boot_len (pa_cons (pv 2) pa_nil)) pe_int (nomark _)) pa_nil)))) pa_nil)))))
      (pss_cons (ps_cut (ps_set (i := 6) Bent.nd rfl (Or.inl rfl) (pe_df D_law_roll (hr.mono (by decide)) rfl (pa_cons (pv 0) (pa_cons (pe_callB (call_lenK K rfl) (by rfl) T.len PySem.boot_len (pa_cons (pv 5) pa_nil)) pa_nil)))))
      (pss_cons (ps_cut (ps_asg (pe_df D_law_pick (hr.mono (by decide)) rfl (pa_cons (pv 0) (pa_cons (pe_lstS (pa_cons pe_non (pa_cons pe_int (pa_cons (pe_op op_add (pe_ifExp (pt_cmp (pc_notN (pe_ix (ix_listK K rfl) (pv 5) (pv 6) (fun _ _ => rfl)))) (pe_ix (ix_listK K rfl) (pv 5) (pv 6) (fun _ _ => rfl)) pe_int) pe_int) (pa_cons (pe_un un_neg pe_int) pa_nil))))) pa_nil))) (pg_sub (pv 5) (pv 6) set_list)))
      (pss_cons (ps_cut (ps_if (PW.pt (pw_and (pt_cmpR op_eq (pv 6) pe_int (nomark _)) (pw_and (pt_cmpR op_eq (pe_callB (call_lenK K rfl) (by rfl) T.len PySem.boot_len (pa_cons (pv 5) pa_nil)) pe_int (nomark _)) (pw_and1 (pt_cmp (pc_notN (pe_ix (ix_listK K rfl) (pv 5) pe_int (fun _ _ => rfl)))))))) (pss_one (ps_asg pe_int (pg_sub (pv 5) pe_int set_list))) pss_nil))
      (pss_one (ps_ret (pe_tupS (pa_cons (pe_ix (ix_tupK K rfl) (pv 1) pe_int (fun _ _ => rfl)) (pa_cons (pe_callTy (call_tupS K rfl) (by rfl) T.tuple EW.boot_tuple (pa_cons (pe_lc (own := [("_law_span_here", 4)]) (g := gName 4) (tt := tYes) (by rfl) Bent.nd (pi_listK (K := K) rfl (pv 2)) (blkOk_by (own := [("_law_span_here", 4)]) (N := NBent) (sc := defScope sBent) (by decide +kernel)) (fun _ _ _ _ _ => (pg_name (i := 4) Bent.nd rfl (Or.inl rfl))) (fun _ _ _ _ _ => pts_nil) (fun _ _ _ _ _ => (pe_callTy (call_tupS K rfl) (by rfl) T.tuple EW.boot_tuple (pa_cons (pv 4) pa_nil)))) pa_nil)) (pa_cons (pe_callTy (call_tupS K rfl) (by rfl) T.tuple EW.boot_tuple (pa_cons (pv 3) pa_nil)) pa_nil)))))))))))), ?_⟩
    refine ⟨fun σ' H' => ∃ (L ga : Addr) (ls : List V), σ' = [some (.ref di), some (.ref e1), some (.ref L), some (.ref ga), none, none, none] ∧ H L = none ∧ H ga = none ∧ Same H H' ∧ H' L = some (.lst ls) ∧ Paired (Trq H H' L) ls z.ss ∧ H' ga = some (.lst [ob z.g.1, ob z.g.2]) ∧ ga ≠ L ∧ ∀ u ∈ ls, u ≠ .ref ga, ?_, ?_⟩
    · refine ⟨_, rfl, e1, _, _, _, rfl, rfl, g11, rfl, b1, rfl, ⟨_, g13⟩, fun L hL => ?_⟩
      refine loop_tup (xs := us1) (fun i H' => ∃ acc : List V, H' L = some (.lst acc) ∧ Same H H' ∧ acc.length = i ∧ Paired (Trq H H' L) acc (z.ss.take i)) ⟨[], upd_same, upd_new hL, rfl, .nil⟩ ?_ ?_ ?_
      · rintro i H2 _ ⟨_, _, s2, _⟩
        exact SqT.same g13 s2
      · rintro i x H2 hx ⟨acc, eL, s2, hl, hp⟩
        obtain ⟨s, hs, sx⟩ := pr_get g14 hx
        obtain ⟨ax, rfl, hX⟩ := Tp.same sx s2
        have hi : i < us1.length := (List.getElem?_eq_some_iff.mp hx).1
        refine ⟨rfl, ?_⟩
        refine ⟨_, rfl, nil_ ⟨ax, _, rfl, .inr hX, fun a H3 n3 s3 e3 => ?_⟩⟩
        have aL : a ≠ L := fun z => by
          rw [z, eL] at n3
          cases n3
        refine ⟨_, s3 _ _ eL, by omega, acc ++ [.ref a], upd_same, same_upd (s2.trans s3) hL, by rw [List.length_append, hl]; rfl, ?_⟩
        rw [List.take_add_one, hs]
        exact pr_append (Paired.mono (fun _ _ q => (q.same s3).upd) hp) (.cons ⟨a, rfl, aL, none_back s2 n3, by rw [upd_ne aL]; exact e3⟩ .nil)
      · rintro H2 ⟨acc, eL, s2, hl, hp⟩
        rw [List.take_of_length_le (by omega)] at hp
        refine ⟨_, rfl, e1, _, _, _, rfl, rfl, SqT.same g11 s2, rfl, nil_ ⟨cg, _, rfl, .inr (SqT.same g15 s2), fun ga H3 n3 s3 e3 => nil_ ⟨_, _, rfl, L, ga, acc, rfl, hL, none_back s2 n3, s2.trans s3, s3 _ _ eL, Paired.mono (fun _ _ q => q.same s3) hp, e3, fun z => ?_, fun u hu e => ?_⟩⟩⟩
        · rw [z, eL] at n3
          cases n3
        · obtain ⟨i, hi⟩ := List.getElem?_of_mem hu
          obtain ⟨s, _, a, q1, _, _, q2⟩ := pr_get hp hi
          rw [e] at q1
          cases q1
          rw [q2] at n3
          cases n3
    rintro σ' H1 ⟨L, ga, ls, rfl, nL, ng, s1, eL, hp, eg, gL, gls⟩
    have ll := Paired.length hp
    refine ⟨fun σ' H' => σ' = [some (.ref di), some (.ref e1), some (.ref L), some (.ref ga), none, none, none] ∧ Same H1 H' ∧ 1 ≤ z.ss.length, ?_, ?_⟩
    · refine ⟨_, rfl, (by show 0 ≤ sizeLine; omega), fun q H2 n2 s2 q2 => ?_⟩
      refine eqNil (.lst (SqL.of (s2 _ _ eL)) (trips_dp (Paired.mono (fun _ _ q => q.same s2) hp))) (trips_shaped (by omega)) (.lst (SqL.of q2) .nil) ?_
      cases hs : z.ss with
      | nil =>
        have s12 := s1.trans s2
        refine ⟨_, rfl, iteT ⟨_, rfl, k (.ref e1) z H2 (hz.same s12) zo (kept_of s12) ((D.same s12).mono (by omega))⟩⟩
      | cons x r => exact ⟨_, rfl, iteF ⟨rfl, s2, by simp⟩⟩
    rintro σ' H2 ⟨rfl, s12, l1⟩
    replace hp : Paired (Trq H H2 L) ls z.ss := Paired.mono (fun _ _ q => q.same s12) hp
    replace eL := s12 _ _ eL
    replace eg := s12 _ _ eg
    replace s1 := s1.trans s12
    have D2 := D.same s1
    clear s12
    -- the line that is bent
    refine ⟨fun σ' H' => ∃ li : Addr, σ' = [some (.ref di), some (.ref e1), some (.ref L), some (.ref ga), none, some (.ref li), none] ∧ EW.Kept di H2 H' ∧ Dc H' di (n + 1) ∧ (V.ref li ∈ ls ∨ li = ga ∧ z.ss.length = 2), ?_, ?_⟩
    · refine ⟨_, rfl, _, rfl, _, rfl, (by show 1 ≤ sizeLine; omega), fun q5 H5 n5 s5 e5 => ?_⟩
      refine ⟨_, rfl, _, _, rfl, .inl ⟨_, SqL.of (s5 _ _ eL), rfl⟩, rfl, nil_ (Or.inr ?_)⟩
      obtain ⟨b, hb⟩ : ∃ b, b = decide (V.int (ls.length : Int) = V.int 2) := ⟨_, rfl⟩
      refine ⟨b, congrArg (fun b => [V.bl b]) hb.symm, ?_⟩
      have fin : ∀ (c : Addr) (xs : List V) (H8 : Hp), Same H5 H8 → H5 c = none → H8 c = some (.lst (ls ++ xs)) → (∀ u ∈ xs, u = .ref ga ∧ z.ss.length = 2) → xs.length ≤ 1 → spPick K [.ref di, .ref c] H8 (fun v' H' => ∃ li : Addr, [some (.ref di), some (.ref e1), some (.ref L), some (.ref ga), none, some v', none] = [some (.ref di), some (.ref e1), some (.ref L), some (.ref ga), none, some (.ref li), none] ∧ EW.Kept di H2 H' ∧ Dc H' di (n + 1) ∧ (V.ref li ∈ ls ∨ li = ga ∧ z.ss.length = 2)) E0 := fun c xs H8 s8 nc ec hx hxl => by
        have s28 := s5.trans s8
        refine ⟨di, c, _, n, rfl, D2.same s28, by omega, .inl ⟨SqL.of ec, (D2.same s5).nn nc⟩, by rw [List.length_append]; omega, by rw [List.length_append]; omega, fun v' H9 hv k9 D9 => ?_⟩
        rcases List.mem_append.mp hv with hv | hv
        · obtain ⟨i, hi⟩ := List.getElem?_of_mem hv
          obtain ⟨_, _, a, rfl, _⟩ := pr_get hp hi
          exact ⟨a, rfl, (kept_of s28).trans k9, D9, .inl hv⟩
        · obtain ⟨e, h2⟩ := hx _ hv
          exact ⟨ga, by rw [e], (kept_of s28).trans k9, D9, .inr ⟨rfl, h2⟩⟩
      cases b with
      | true =>
        have l2 : z.ss.length = 2 := by
          have h := of_decide_eq_true hb.symm
          injection h with h
          omega
        refine ⟨q5, 1, _, rfl, rfl, e5, by decide, by decide, (by show 1 * 1 ≤ sizeLine; omega), fun q7 hq7 => ?_⟩
        have s7 := upd_new (o := .lst (List.replicate (1 : Int).toNat [V.ref ga]).flatten) hq7
        refine ⟨L, q7, _, _, rfl, rfl, s7 _ _ (s5 _ _ eL), upd_same, (by show ls.length + 1 ≤ sizeLine; omega), fun c H8 n8 s8 e8 => nil_ ?_⟩
        exact fin c [.ref ga] H8 (s7.trans s8) (none_back s7 n8) e8 (fun u hu => ⟨List.mem_singleton.mp hu, l2⟩) (Nat.le_refl _)
      | false =>
        refine ⟨q5, 0, _, rfl, rfl, e5, by decide, by decide, (by show 1 * 0 ≤ sizeLine; omega), fun q7 hq7 => ?_⟩
        have s7 := upd_new (o := .lst (List.replicate (0 : Int).toNat [V.ref ga]).flatten) hq7
        refine ⟨L, q7, _, _, rfl, rfl, s7 _ _ (s5 _ _ eL), upd_same, (by show ls.length + 0 ≤ sizeLine; omega), fun c H8 n8 s8 e8 => nil_ ?_⟩
        exact fin c [] H8 (s7.trans s8) (none_back s7 n8) e8 (fun u hu => nomatch hu) (Nat.zero_le _)
    rintro σ' H3 ⟨li, rfl, k3, D3, hli⟩
    -- what stands in it
    have lid : H li = none := by
      rcases hli with h | ⟨h, _⟩
      · obtain ⟨i, hi⟩ := List.getElem?_of_mem h
        obtain ⟨_, _, a, e, _, q, _⟩ := pr_get hp hi
        cases e
        exact q
      · rw [h]
        exact ng
    have nli : li ≠ di := fun z => by
      rw [z, hds] at lid
      cases lid
    have liL : li ≠ L := by
      rcases hli with h | ⟨h, _⟩
      · obtain ⟨i, hi⟩ := List.getElem?_of_mem h
        obtain ⟨_, _, a, e, q, _⟩ := pr_get hp hi
        cases e
        exact q
      · rw [h]
        exact gL
    obtain ⟨os, hos, hol⟩ : ∃ os : List (Option Int), H2 li = some (.lst (os.map ob)) ∧ (os.length = 3 ∧ V.ref li ∈ ls ∧ Zn.Res p (os.head?.getD none) ∨ os.length = 2 ∧ li = ga ∧ z.ss.length = 2) := by
      rcases hli with h | ⟨h, h2⟩
      · obtain ⟨i, hi⟩ := List.getElem?_of_mem h
        obtain ⟨s, hs, a, e, _, _, q⟩ := pr_get hp hi
        cases e
        exact ⟨[s.res, s.lo, s.hi], q, .inl ⟨rfl, h, zo.res s (List.mem_of_getElem? hs)⟩⟩
      · rw [h]
        exact ⟨[z.g.1, z.g.2], eg, .inr ⟨rfl, rfl, h2⟩⟩
    have ol : 2 ≤ os.length ∧ os.length ≤ 3 := by
      rcases hol with ⟨h, _⟩ | ⟨h, _⟩ <;> omega
    have h3li := k3 _ _ nli hos
    obtain ⟨ds2, hds2⟩ := D2.lst
    refine ⟨fun σ' H' => ∃ j : Nat, σ' = [some (.ref di), some (.ref e1), some (.ref L), some (.ref ga), none, some (.ref li), some (.int (j : Int))] ∧ j < os.length ∧ EW.Kept di H2 H' ∧ Dc H' di (n + 2), ?_, ?_⟩
    · refine ⟨_, rfl, _, rfl, _, _, rfl, .inl ⟨_, SqL.of h3li, rfl⟩, nil_ ⟨di, _, _, rfl, D3, by omega, by rw [List.length_map]; omega, by rw [List.length_map]; omega, fun r H4 r0 r1 k4 D4 => ?_⟩⟩
      rw [List.length_map] at r1
      obtain ⟨j, rfl⟩ : ∃ j : Nat, r = (j : Int) := ⟨r.toNat, by omega⟩
      exact ⟨j, rfl, by omega, k3.trans k4, D4.mono (by omega)⟩
    clear h3li D3 k3
    rintro σ' H3 ⟨j, rfl, hj, k3, D3⟩
    have h3li := k3 _ _ nli hos
    obtain ⟨ds3, hds3⟩ := D3.lst
    refine ⟨fun σ' H' => ∃ o' : Option Int, σ' = [some (.ref di), some (.ref e1), some (.ref L), some (.ref ga), none, some (.ref li), some (.int (j : Int))] ∧ H' li = some (.lst ((os.set j o').map ob)) ∧ (∀ b o, b ≠ di → b ≠ li → H3 b = some o → H' b = some o) ∧ Dc H' di (n + 3), ?_, ?_⟩
    · have hx : (os.map ob)[j]? = some (ob os[j]) := by rw [List.getElem?_map, List.getElem?_eq_getElem hj]; rfl
      refine ⟨_, rfl, _, rfl, _, rfl, li, _, _, _, rfl, rfl, SqL.of h3li, atI_nat hx, ?_⟩
      have fin : ∀ (i3 : Int) (q5 : Addr) (H5 : Hp), Same H3 H5 → H3 q5 = none → H5 q5 = some (.lst [.non, .int 0, .int i3, .int (-3)]) → ∀ R : VK, (∀ (o' : Option Int) (H6 : Hp), EW.Kept di H3 H6 → Dc H6 di (n + 3) → R (ob o') H6) → spPick K [.ref di, .ref q5] H5 R E0 := fun i3 q5 H5 s5 n5 e5 R hR => by
        refine ⟨di, q5, _, _, rfl, D3.same s5, by omega, .inl ⟨SqL.of e5, D3.nn n5⟩, (by show 0 < 4; decide), (by show 4 < 1000; decide), fun v' H6 hv k6 D6 => ?_⟩
        have k36 := (kept_of s5).trans k6
        have D6 : Dc H6 di (n + 3) := D6.mono (by omega)
        simp only [List.mem_cons, List.not_mem_nil, or_false] at hv
        rcases hv with rfl | rfl | rfl | rfl
        · exact hR none H6 k36 D6
        · exact hR (some 0) H6 k36 D6
        · exact hR (some i3) H6 k36 D6
        · exact hR (some (-3)) H6 k36 D6
      have tail : ∀ (o' : Option Int) (H6 : Hp), EW.Kept di H3 H6 → Dc H6 di (n + 3) → gSub (tVar 5) (tVar 6) rSetL (ob o') [some (.ref di), some (.ref e1), some (.ref L), some (.ref ga), none, some (.ref li), some (.int (j : Int))] H6 (fun σ' H' => ∃ o' : Option Int, σ' = [some (.ref di), some (.ref e1), some (.ref L), some (.ref ga), none, some (.ref li), some (.int (j : Int))] ∧ H' li = some (.lst ((os.set j o').map ob)) ∧ (∀ b o, b ≠ di → b ≠ li → H3 b = some o → H' b = some o) ∧ Dc H' di (n + 3)) := fun o' H6 k6 D6 => by
        refine ⟨_, rfl, _, rfl, li, _, _, j, rfl, rfl, k6 _ _ nli h3li, ixn_nat (by rw [List.length_map]; exact hj), ?_⟩
        refine ⟨o', rfl, by rw [upd_same, List.map_set], fun b o nb nl e => by rw [upd_ne nl]; exact k6 b o nb e, D6.keep (by rw [upd_ne (Ne.symm nli)])⟩
      cases ho : os[j] with
      | none =>
        refine ⟨_, rfl, iteF ?_⟩
        refine ⟨_, _, rfl, rfl, _, rfl, (by show 4 ≤ sizeLine; omega), fun q5 H5 n5 s5 e5 => nil_ ?_⟩
        exact fin _ q5 H5 s5 n5 e5 _ fun o' H6 k6 D6 => tail o' H6 k6 D6
      | some x =>
        refine ⟨_, rfl, iteT ?_⟩
        refine ⟨_, rfl, _, rfl, li, _, _, _, rfl, rfl, SqL.of h3li, atI_nat hx, ?_⟩
        rw [ho]
        refine ⟨_, _, rfl, rfl, _, rfl, (by show 4 ≤ sizeLine; omega), fun q5 H5 n5 s5 e5 => nil_ ?_⟩
        exact fin _ q5 H5 s5 n5 e5 _ fun o' H6 k6 D6 => tail o' H6 k6 D6
    rintro σ' H4 ⟨o', rfl, h4li, k4, D4⟩
    have osl : (os.set j o').length = os.length := List.length_set ..
    refine ⟨fun σ' H' => ∃ ot : List (Option Int), σ' = [some (.ref di), some (.ref e1), some (.ref L), some (.ref ga), none, some (.ref li), some (.int (j : Int))] ∧ ot.length = os.length ∧ H' li = some (.lst (ot.map ob)) ∧ (∀ b o, b ≠ di → b ≠ li → H3 b = some o → H' b = some o) ∧ Dc H' di (n + 3) ∧ (os.length = 3 → Zn.Res p (ot.head?.getD none)), ?_, ?_⟩
    · have hx0 : ∀ o : Option Int, (os.set 0 o)[0]? = some o := fun o => by
        rw [List.getElem?_set_self (by omega)]
      have hh : ∀ l : List (Option Int), ∀ o, l[0]? = some o → l.head?.getD none = o := fun l o h => by
        cases l with
        | nil => cases h
        | cons x r =>
          cases h
          rfl
      refine ⟨_, rfl, rfl, _, rfl, ?_⟩
      by_cases j0 : j = 0
      · subst j0
        refine iteD (by rfl) ?_
        refine ⟨_, rfl, _, _, rfl, .inl ⟨_, SqL.of h4li, rfl⟩, rfl, _, rfl, ?_⟩
        by_cases c3 : os.length = 3
        · refine iteD (by rw [List.length_map, osl, c3]; rfl) ?_
          refine ⟨_, rfl, li, _, _, _, rfl, rfl, SqL.of h4li, (atI_nat (j := 0) (by rw [List.getElem?_map, hx0]; rfl)), ?_⟩
          cases o' with
          | none =>
            refine ⟨_, rfl, iteF ?_⟩
            exact ⟨os.set 0 none, rfl, osl, h4li, k4, D4, fun _ => by rw [hh _ _ (hx0 none)]; exact fun i e => nomatch e⟩
          | some x =>
            refine ⟨_, rfl, iteT ?_⟩
            refine ⟨_, rfl, li, _, _, 0, rfl, rfl, h4li, ixn_nat (by rw [List.length_map, osl]; exact hj), ?_⟩
            refine ⟨(os.set 0 (some x)).set 0 (some 0), rfl, by rw [List.length_set, osl], by rw [upd_same]; simp only [List.map_set]; rfl, fun b o nb nl e => by rw [upd_ne nl]; exact k4 b o nb nl e, D4.keep (by rw [upd_ne (Ne.symm nli)]), fun _ => ?_⟩
            rw [hh _ (some 0) (by rw [List.getElem?_set_self (by omega)])]
            exact fun i e => by
              cases e
              omega
        · refine iteN (by rw [List.length_map, osl]; simp; omega) ?_
          exact iteF ⟨os.set 0 o', rfl, osl, h4li, k4, D4, fun h => absurd h c3⟩
      · refine iteN (by simp; omega) ?_
        refine iteF ⟨os.set j o', rfl, osl, h4li, k4, D4, fun h => ?_⟩
        rcases hol with ⟨_, _, hr⟩ | ⟨h2, _⟩
        · obtain ⟨o0, h0⟩ : ∃ o, os[0]? = some o := ⟨_, List.getElem?_eq_getElem (by omega)⟩
          rw [hh _ _ h0] at hr
          rw [hh _ o0 (by rw [List.getElem?_set_ne j0]; exact h0)]
          exact hr
        · omega
    rintro σ' H5 ⟨ot, rfl, otl, h5li, k5, D5, hr5⟩
    -- what stands in the lists at the end
    have k25 : ∀ b o, b ≠ di → b ≠ li → H2 b = some o → H5 b = some o := fun b o nb nl e => k5 b o nb nl (k3 b o nb e)
    have kH5 : EW.Kept di H H5 := fun b o nb e => k25 b o nb (fun z => by
      rw [z, lid] at e
      cases e) (s1 _ _ e)
    have nLd : L ≠ di := fun z => by
      rw [z, hds] at nL
      cases nL
    have ngd : ga ≠ di := fun z => by
      rw [z, hds] at ng
      cases ng
    have eL5 := k25 _ _ nLd (Ne.symm liL) eL
    have three : ∀ (l : List (Option Int)), l.length = 3 → ∃ r lo hi, l = [r, lo, hi] := fun l h => by
      match l, h with
      | [r, lo, hi], _ => exact ⟨r, lo, hi, rfl⟩
    have two : ∀ (l : List (Option Int)), l.length = 2 → ∃ lo hi, l = [lo, hi] := fun l h => by
      match l, h with
      | [lo, hi], _ => exact ⟨lo, hi, rfl⟩
    obtain ⟨ss', hp5, hr'⟩ : ∃ ss', Paired (Trq H H5 L) ls ss' ∧ ∀ s ∈ ss', Zn.Res p s.res := by
      have hmem : ∀ s ∈ z.ss, Zn.Res p s.res := fun s hs => zo.res s hs
      have step : ∀ u s, s ∈ z.ss → Trq H H2 L u s → ∃ s', Trq H H5 L u s' ∧ Zn.Res p s'.res := fun u s hs h => by
        obtain ⟨a, rfl, aL, na, ea⟩ := h
        have nad : a ≠ di := fun z => by
          rw [z, hds] at na
          cases na
        by_cases c : a = li
        · have ol3 : os.length = 3 := by
            rw [c, hos] at ea
            have := congrArg List.length (HO.lst.inj (Option.some.inj ea))
            rw [List.length_map] at this
            exact this
          obtain ⟨r, lo, hi, e⟩ := three ot (by omega)
          refine ⟨⟨r, lo, hi⟩, ⟨a, rfl, aL, na, by rw [c, h5li, e]; rfl⟩, ?_⟩
          have := hr5 ol3
          rw [e] at this
          exact this
        · exact ⟨s, ⟨a, rfl, aL, na, k25 a _ nad c ea⟩, hmem s hs⟩
      have go : ∀ {us : List V} {ss : List Rn.Sp3}, Paired (Trq H H2 L) us ss → (∀ s ∈ ss, s ∈ z.ss) → ∃ ss', Paired (Trq H H5 L) us ss' ∧ ∀ s ∈ ss', Zn.Res p s.res := fun {us ss} h => by
        induction h with
        | nil => exact fun _ => ⟨[], .nil, fun s hs => nomatch hs⟩
        | cons h _ ih =>
          intro hm
          obtain ⟨s', h1, h2⟩ := step _ _ (hm _ List.mem_cons_self) h
          obtain ⟨r, h3, h4⟩ := ih fun s hs => hm s (List.mem_cons_of_mem _ hs)
          refine ⟨s' :: r, .cons h1 h3, fun s hs => ?_⟩
          rcases List.mem_cons.mp hs with e | hs
          · rw [e]
            exact h2
          · exact h4 s hs
      exact go hp fun s hs => hs
    obtain ⟨g', eg5, hg'⟩ : ∃ g' : OO, H5 ga = some (.lst [ob g'.1, ob g'.2]) ∧ ((tms S).length = 2 ∨ g' = (none, none)) := by
      by_cases c : ga = li
      · rcases hol with ⟨_, h, _⟩ | ⟨h2, _, h⟩
        · exact absurd c.symm (fun e => gls _ h (by rw [e]))
        · obtain ⟨lo, hi, e⟩ := two ot (by omega)
          exact ⟨(lo, hi), by rw [c, h5li, e]; rfl, .inl (by omega)⟩
      · exact ⟨z.g, k25 _ _ ngd c eg, zo.gap⟩
    have ll5 := Paired.length hp5
    refine ⟨_, rfl, e1, _, _, _, rfl, rfl, SqT.kept g11 hds kH5, rfl, _, rfl, L, rfl, ⟨_, SqL.of eL5⟩, fun M hM => ?_⟩
    have nML : M ≠ L := fun z => by
      rw [z, eL5] at hM
      cases hM
    refine loop_list (xs := ls) (fun i H' => ∃ acc : List V, H' M = some (.lst acc) ∧ Same H5 H' ∧ acc.length = i ∧ Sns K H' acc (ss'.take i)) ⟨[], upd_same, upd_new hM, rfl, .nil⟩ ?_ ?_ ?_
    · rintro i H6 _ ⟨_, _, s6, _⟩
      exact SqL.of (s6 _ _ eL5)
    · rintro i x H6 hx ⟨acc, eM, s6, hl, hp6⟩
      obtain ⟨s, hs, a, rfl, _, _, ea⟩ := pr_get hp5 hx
      have hi : i < ls.length := (List.getElem?_eq_some_iff.mp hx).1
      refine ⟨rfl, ?_⟩
      refine ⟨_, rfl, nil_ ⟨a, _, rfl, SqL.of (s6 _ _ ea), fun b H7 n7 s7 e7 => ?_⟩⟩
      have eM7 := s7 _ _ eM
      have kM : EW.Kept M H7 (upd H7 M (.lst (acc ++ [.ref b]))) := Kept.upd
      refine ⟨_, eM7, by omega, acc ++ [.ref b], upd_same, same_upd (s6.trans s7) hM, by rw [List.length_append, hl]; rfl, ?_⟩
      rw [List.take_add_one, hs]
      exact Sns.kept (pr_append (Sns.same hp6 s7) (.cons (Tp.of e7) .nil)) eM7 kM
    · rintro H6 ⟨acc, eM, s6, hl, hp6⟩
      rw [List.take_of_length_le (by omega)] at hp6
      refine nil_ ⟨M, _, rfl, SqL.of eM, fun b H7 n7 s7 e7 => ?_⟩
      refine ⟨_, rfl, nil_ ⟨ga, _, rfl, SqL.of ((s6.trans s7) _ _ eg5), fun c H8 n8 s8 e8 => nil_ ⟨(by show 3 ≤ sizeLine; omega), fun q H9 n9 s9 e9 => ?_⟩⟩⟩
      have s59 := s6.trans (s7.trans (s8.trans s9))
      have kH9 := kH5.trans (kept_of s59)
      refine k (.ref q) ⟨z.vs, ss', g'⟩ H9 ⟨a1, b, .ref c, acc, Tp.of e9, SqT.kept g12 hds kH9, SqT.of ((s8.trans s9) _ _ e7), Sns.same hp6 (s7.trans (s8.trans s9)), Tp.of (s9 _ _ e8)⟩ ⟨zo.nv, zo.vals, by show ss'.length = _; omega, fun s hs r e => hr' s hs r e, hg'⟩ kH9 ((D5.same s59).mono (by omega))
end
end TM
end

section
set_option maxHeartbeats 4000000
namespace TM
open PySem PySem.Spec PyProof.Rows L2 EW
abbrev NRowsR : List Str := ["_law_dice_here", "_law_shape_here", "_law_period", "_law_zone_here", "_law_found", "_law_turn", "_law_times", "_law_span_here", "_law_row", "_law_left", "_law_values", "_law_name", "_law_column", "_law_due"]
theorem RowsR : FnScope NRowsR ["_law_dice_here", "_law_shape_here", "_law_period", "_law_zone_here", "_law_found"] (defScope sRowsR) := ⟨rfl, rfl, rfl, by decide +kernel, rfl, by decide +kernel, by decide +kernel⟩
theorem row_true {α : Type} {ks : List Bool} {ts vs : List α} (h : (true :: ks).count true = ts.length) : ∃ t ts', ts = t :: ts' ∧ ks.count true = ts'.length ∧ Zr.rowV (true :: ks) ts vs = t :: Zr.rowV ks ts' vs := by
  cases ts with
  | nil => simp at h
  | cons t ts => exact ⟨t, ts, rfl, by simpa using h, rfl⟩
theorem row_false {α : Type} {ks : List Bool} {ts vs : List α} (h : (false :: ks).count false = vs.length) : ∃ v vs', vs = v :: vs' ∧ ks.count false = vs'.length ∧ Zr.rowV (false :: ks) ts vs = v :: Zr.rowV ks ts vs' := by
  cases vs with
  | nil => simp at h
  | cons v vs => exact ⟨v, vs, rfl, by simpa using h, rfl⟩
/-- a heap without three of its addresses -/
def hole (H : Hp) (a b c : Addr) : Hp := fun x => if x = a ∨ x = b ∨ x = c then none else H x
theorem hole_same (H : Hp) (a b c : Addr) : Same (hole H a b c) H := fun x o h => by
  unfold hole at h
  split at h
  · cases h
  · exact h
theorem hole_a (H : Hp) (a b c : Addr) : hole H a b c a = none := if_pos (.inl rfl)
theorem hole_b (H : Hp) (a b c : Addr) : hole H a b c b = none := if_pos (.inr (.inl rfl))
theorem hole_c (H : Hp) (a b c : Addr) : hole H a b c c = none := if_pos (.inr (.inr rfl))
theorem hole_ne {H : Hp} {a b c x : Addr} (h1 : x ≠ a) (h2 : x ≠ b) (h3 : x ≠ c) : hole H a b c x = H x := if_neg (fun h => h.elim h1 fun h => h.elim h2 h3)
theorem kept_hole {H H1 : Hp} {d a b c : Addr} (k : EW.Kept d H H1) (h1 : H a = none) (h2 : H b = none) (h3 : H c = none) : EW.Kept d H (hole H1 a b c) := fun x o nx hx => by
  rw [hole_ne (fun e => by rw [e, h1] at hx; cases hx) (fun e => by rw [e, h2] at hx; cases hx) (fun e => by rw [e, h3] at hx; cases hx)]
  exact k x o nx hx
theorem none_of {H H1 : Hp} {d a : Addr} (k : EW.Kept d H H1) (ne : a ≠ d) (h : H1 a = none) : H a = none := by
  cases q : H a with
  | none => rfl
  | some o =>
    rw [k a o ne q] at h
    cases h
theorem none_same {H H1 : Hp} {a : Addr} (s : Same H H1) (h : H1 a = none) : H a = none := by
  cases q : H a with
  | none => rfl
  | some o =>
    rw [s a o q] at h
    cases h
theorem none_kept {H H1 : Hp} {d a : Addr} (k : EW.Kept d H H1) (ne : a ≠ d) (h : H1 a = none) : H a = none := none_of k ne h
def spRowsR (K : W.Frag) : Sp := fun vs H Q _ => ∃ (di : Addr) (u v x : V) (S : Shp) (p n : Int) (z y : Zn.Z), vs = [.ref di, u, .int p, v, x] ∧ Dc H di n ∧ n + 100 ≤ 1000000 ∧ ShpAt K H u S ∧ ShpOk S ∧ 1 ≤ p ∧ p ≤ 12 ∧ ZnV K H v z ∧ ZOk S p z ∧ ZnV K H x y ∧ ZOk S p y ∧ y.vs = z.vs ∧
  (∀ ts : List Int, ts.length = (tms S).length → inZ p y ts = inZ p z ts) ∧ ∀ H', EW.Kept di H H' → Dc H' di (n + 100) → Q (.bl true) H'
section
variable {P : Program} {w : World} {K : W.Frag} {mg : Str → Option Value} {base : Heap}
theorem ok_rowsR {fd : FuncData} (F : FnP K "_law_rows_right" sRowsR fd) (T : Fre mg) (D_law_pick : Df P w K mg base 2 "_law_pick" ["_law_dice_here", "_law_items"] (spPick K)) (D_law_near : Df P w K mg base 2 "_law_near" ["_law_dice_here", "_law_far"] spNear)
    (D_law_known : Df P w K mg base 1 "_law_known" ["_law_zone_here"] (spKnown K)) (D_law_in_zone : Df P w K mg base 2 "_law_in_zone" ["_law_shape_here", "_law_period", "_law_zone_here", "_law_row"] (spInZone K)) : FnOk P w K mg base CX0 3 (He.ga K "_law_rows_right") fd ["_law_dice_here", "_law_shape_here", "_law_period", "_law_zone_here", "_law_found"] (spRowsR K) := by
  refine F.ok RowsR (fun vs H Q E h => ?_) (fun cdv A outer s H vs Q E hr h => ?_)
  · obtain ⟨di, u, v, x, S, p, n, z, y, rfl, _⟩ := h
    rfl
  · obtain ⟨di, u, v, x, S, p, n, z, y, rfl, D, hn, hu, so, p1, p2, hz, zo, hy, yo, evs, hin, k⟩ := h
    obtain ⟨e1, a1, b1, c1', us1, rfl, g11, g12, g13, g14, g15⟩ := ix_same hz
    obtain ⟨e2, a2, b2, c2', us2, rfl, _, _, _, _, _⟩ := ix_same hy
    obtain ⟨ds, hds⟩ := D.lst
    have hul1 := Paired.length g14
    have hbig : (64 : Nat) ≤ sizeLine := by decide
    have hall := so.all
    have t2 := so.tms
    have zl := zo.ns
    have yl := yo.ns
    have kl : (Zr.kinds S).length = S.length := by
      unfold Zr.kinds
      rw [List.length_map, names_len]
    refine ⟨_, PSs.nox (pss_cons (ps_cut (ps_for PassesOwn.never rfl (pi_range1 rfl T.range (pa_cons pe_int pa_nil)) (pg_name (i := 5) RowsR.nd rfl (Or.inl rfl)) (pss_cons (ps_cut (ps_set (i := 6) RowsR.nd rfl (Or.inl rfl) (pe_lstS pa_nil)))
      (pss_cons (ps_cut (ps_for PassesOwn.never rfl (pi_tupK (K := K) rfl (pe_ix (ix_tupK K rfl) (pv 3) pe_int (fun _ _ => rfl))) (pg_name (i := 7) RowsR.nd rfl (Or.inl rfl)) (pss_one (ps_expr (pe_bm PySem.F.plainAttrs_list PySem.F.slot_list_append PySem.F.type_list_append mt_append (pv 6) (pa_cons (pe_op op_add (pe_df D_law_pick (hr.mono (by decide)) rfl (pa_cons (pv 0) (pa_cons (pe_df D_law_known (hr.mono (by decide)) rfl (pa_cons (pv 3) pa_nil)) pa_nil))) (pe_df D_law_near (hr.mono (by decide)) rfl (pa_cons (pv 0) (pa_cons (pe_op op_add (pv 2) pe_int) pa_nil)))) pa_nil))))))
      (pss_cons (ps_cut (ps_set (i := 8) RowsR.nd rfl (Or.inl rfl) (pe_lstS pa_nil)))
      (pss_cons (ps_cut (ps_set (i := 9) RowsR.nd rfl (Or.inl rfl) (pe_callTy (call_listS K rfl) (by rfl) T.list EW.boot_list (pa_cons (pv 6) pa_nil))))
      (pss_cons (ps_cut (ps_set (i := 10) RowsR.nd rfl (Or.inl rfl) (pe_callTy (call_listS K rfl) (by rfl) T.list EW.boot_list (pa_cons (pe_ix (ix_tupK K rfl) (pv 3) pe_int (fun _ _ => rfl)) pa_nil))))
      (pss_cons (ps_cut (ps_for PassesOwn.never rfl (pi_listK (K := K) rfl (pe_callB (cr_sortedS (X := _)) (by rfl) T.sorted EW.boot_sorted (pa_cons (pe_lock (pe_lc (own := [("_law_column", 12)]) (g := gName 12) (tt := tYes) (by rfl) RowsR.nd (pi_keys (pv 1)) (blkOk_by (own := [("_law_column", 12)]) (N := NRowsR) (sc := defScope sRowsR) (by decide +kernel)) (fun _ _ _ _ _ => (pg_name (i := 12) RowsR.nd rfl (Or.inl rfl))) (fun _ _ _ _ _ => pts_nil) (fun _ _ _ _ _ => (pe_callTy SkE.call_str_str (by rfl) T.str EW.boot_str (pa_cons (pv 12) pa_nil))))) pa_nil))) (pg_name (i := 11) RowsR.nd rfl (Or.inl rfl)) (pss_one (ps_expr (pe_bm PySem.F.plainAttrs_list PySem.F.slot_list_append PySem.F.type_list_append mt_append (pv 8) (pa_cons (pe_ifExp (pt_cmpR (op_eqDK K rfl hr.units) (pe_dget hr.u1 (pv 1) (pv 11) (fun _ _ => rfl)) pe_str (nomark _)) (pe_bm PySem.F.plainAttrs_list PySem.F.slot_list_pop PySem.F.type_list_pop mt_popAt (pv 9) (pa_cons pe_int pa_nil)) (pe_bm PySem.F.plainAttrs_list PySem.F.slot_list_pop PySem.F.type_list_pop mt_popAt (pv 10) (pa_cons pe_int pa_nil))) pa_nil))))))
      (pss_cons (ps_cut (ps_set (i := 13) RowsR.nd rfl (Or.inl rfl) (pe_df D_law_in_zone (hr.mono (by decide)) rfl (pa_cons (pv 1) (pa_cons (pv 2) (pa_cons (pv 3) (pa_cons (pe_callTy (call_tupS K rfl) (by rfl) T.tuple EW.boot_tuple (pa_cons (pv 8) pa_nil)) pa_nil)))))))
      (pss_one (ps_if (pt_cmpR op_ne (pe_df D_law_in_zone (hr.mono (by decide)) rfl (pa_cons (pv 1) (pa_cons (pv 2) (pa_cons (pv 4) (pa_cons (pe_callTy (call_tupS K rfl) (by rfl) T.tuple EW.boot_tuple (pa_cons (pv 8) pa_nil)) pa_nil))))) (pv 13) (nomark _)) (pss_one (ps_ret pe_bl)) pss_nil)))))))))))
      (pss_one (ps_ret pe_bl))), ?_⟩
    refine ⟨fun σ' H' => ∃ u5 u6 u7 u8 u9 u10 u11 u13 : Option V, σ' = [some (.ref di), some u, some (.int p), some (.ref e1), some (.ref e2), u5, u6, u7, u8, u9, u10, u11, none, u13] ∧ EW.Kept di H H' ∧ Dc H' di (n + 100), ?_, ?_⟩
    · refine ⟨12, rfl, by decide, by decide, ?_⟩
      refine for_range (lo := 0) (n := 12) (fun j σ' H' => ∃ u5 u6 u7 u8 u9 u10 u11 u13 : Option V, σ' = [some (.ref di), some u, some (.int p), some (.ref e1), some (.ref e2), u5, u6, u7, u8, u9, u10, u11, none, u13] ∧ EW.Kept di H H' ∧ Dc H' di (n + 8 * (j : Int))) ⟨none, none, none, none, none, none, none, none, rfl, EW.Kept.refl _ _, D.mono (by omega)⟩ ?_ ?_
      · rintro j σ' H1 hj ⟨u5, u6, v7, v8, v9, v10, v11, v13, rfl, kH1, D1⟩
        obtain ⟨ds1, hds1⟩ := D1.lst
        -- times = []
        refine ⟨fun σ' H' => ∃ la : Addr, σ' = [some (.ref di), some u, some (.int p), some (.ref e1), some (.ref e2), some (.int (0 + (j : Int))), some (.ref la), v7, v8, v9, v10, v11, none, v13] ∧ H1 la = none ∧ Same H1 H' ∧ H' la = some (.lst []), ?_, ?_⟩
        · exact ⟨by decide, fun la H2 n2 s2 l2q => ⟨la, rfl, n2, s2, l2q⟩⟩
        rintro σ' H2 ⟨la, rfl, nl1, s12, l2e⟩
        have lad : la ≠ di := D1.nn nl1
        have k12 : EW.Kept di H1 H2 := kept_of s12
        have D2 := D1.same s12
        -- the times
        refine ⟨fun σ' H' => ∃ (u7 : Option V) (ts : List Int), σ' = [some (.ref di), some u, some (.int p), some (.ref e1), some (.ref e2), some (.int (0 + (j : Int))), some (.ref la), u7, v8, v9, v10, v11, none, v13] ∧ EW.Kept di H1 H' ∧ Dc H' di (n + 8 * (j : Int) + 4) ∧ H' la = some (.lst (ts.map V.int)) ∧ ts.length = (tms S).length, ?_, ?_⟩
        · have kH2 := kH1.trans k12
          refine ⟨_, rfl, e1, _, _, _, rfl, rfl, SqT.kept g11 hds kH2, rfl, b1, rfl, ⟨_, SqT.kept g13 hds kH2⟩, ?_⟩
          refine for_tup (xs := us1) (fun i σ' H' => ∃ (u7 : Option V) (ts : List Int), σ' = [some (.ref di), some u, some (.int p), some (.ref e1), some (.ref e2), some (.int (0 + (j : Int))), some (.ref la), u7, v8, v9, v10, v11, none, v13] ∧ EW.Kept di H1 H' ∧ Dc H' di (n + 8 * (j : Int) + 2 * (i : Int)) ∧ H' la = some (.lst (ts.map V.int)) ∧ ts.length = i) ⟨v7, [], rfl, k12, D2.mono (by omega), l2e, rfl⟩ ?_ ?_ ?_
          · rintro i σ' H3 _ ⟨_, _, _, k13, _⟩
            exact SqT.kept g13 hds (kH1.trans k13)
          · rintro i xx σ' H3 hxx ⟨u7, ts, rfl, k13, D3, l3e, tl⟩
            have hi : i < us1.length := (List.getElem?_eq_some_iff.mp hxx).1
            have kH3 := kH1.trans k13
            refine ⟨_, rfl, .inl ⟨rfl, _, SqL.of l3e⟩, ?_⟩
            refine ⟨_, rfl, _, rfl, .ref e1, z, rfl, hz.kept hds kH3, by omega, fun m1 H4 n4 s4 q4 => ?_⟩
            have kn1 := known_len (z := z) (by omega)
            have kn3 : 0 < (Zn.known z).length := by unfold Zn.known; simp
            have D4 := D3.same s4
            refine nil_ ⟨di, m1, _, _, rfl, D4, by omega, .inl ⟨SqL.of q4, D3.nn n4⟩, by rw [List.length_map]; omega, by rw [List.length_map]; omega, fun yv H7 hyv k7 D7 => ?_⟩
            obtain ⟨o, _, rfl⟩ := List.mem_map.mp hyv
            refine ⟨_, rfl, _, rfl, _, _, rfl, rfl, nil_ ⟨di, _, _, rfl, D7, by omega, by omega, by omega, fun o2 H8 _ _ k8 D8 => ?_⟩⟩
            refine ⟨_, _, rfl, rfl, nil_ ?_⟩
            have k38 := (kept_of s4).trans (k7.trans k8)
            have l8e := k38 _ _ lad l3e
            refine ⟨la, _, _, rfl, rfl, l8e, by rw [List.length_map]; omega, ?_⟩
            refine ⟨_, ts ++ [o + o2], rfl, ?_, ?_, by rw [upd_same, List.map_append]; rfl, by rw [List.length_append, tl]; rfl⟩
            · intro b' o' nb hb
              rw [upd_ne (fun z => by rw [z, nl1] at hb; cases hb)]
              exact k38 b' o' nb (k13 b' o' nb hb)
            · refine Dc.mono (D8.keep ?_) (by show _ ≤ n + 8 * (j : Int) + 2 * ((i + 1 : Nat) : Int); omega)
              rw [upd_ne (Ne.symm lad)]
          · rintro σ' H3 ⟨u7, ts, rfl, k13, D3, l3e, tl⟩
            exact ⟨u7, ts, rfl, k13, D3.mono (by omega), l3e, by omega⟩
        clear D2 l2e k12 s12
        rintro σ' H2 ⟨u7, ts, rfl, k12, D2, ela, htl⟩
        have kH2 := kH1.trans k12
        -- row, left, values
        refine ⟨fun σ' H' => ∃ fa : Addr, σ' = [some (.ref di), some u, some (.int p), some (.ref e1), some (.ref e2), some (.int (0 + (j : Int))), some (.ref la), u7, some (.ref fa), v9, v10, v11, none, v13] ∧ H2 fa = none ∧ Same H2 H' ∧ H' fa = some (.lst []), ?_, ?_⟩
        · exact ⟨by decide, fun fa H3 n3 s3 q3 => ⟨fa, rfl, n3, s3, q3⟩⟩
        rintro σ' H3 ⟨fa, rfl, nf2, s23, f3e⟩
        have fad : fa ≠ di := D2.nn nf2
        refine ⟨fun σ' H' => ∃ lb : Addr, σ' = [some (.ref di), some u, some (.int p), some (.ref e1), some (.ref e2), some (.int (0 + (j : Int))), some (.ref la), u7, some (.ref fa), some (.ref lb), v10, v11, none, v13] ∧ H2 lb = none ∧ lb ≠ fa ∧ Same H2 H' ∧ H' fa = some (.lst []) ∧ H' lb = some (.lst (ts.map V.int)), ?_, ?_⟩
        · refine ⟨_, rfl, la, _, rfl, .inl (SqL.of (s23 _ _ ela)), fun lb H4 n4 s4 q4 => ⟨lb, rfl, none_same s23 n4, fun z => ?_, s23.trans s4, s4 _ _ f3e, q4⟩⟩
          rw [z, f3e] at n4
          cases n4
        clear f3e s23
        rintro σ' H3 ⟨lb, rfl, nl2, d2, s23, f3e, l3e⟩
        refine ⟨fun σ' H' => ∃ va : Addr, σ' = [some (.ref di), some u, some (.int p), some (.ref e1), some (.ref e2), some (.int (0 + (j : Int))), some (.ref la), u7, some (.ref fa), some (.ref lb), some (.ref va), v11, none, v13] ∧ H2 va = none ∧ lb ≠ va ∧ va ≠ fa ∧ Same H2 H' ∧ H' fa = some (.lst []) ∧ H' lb = some (.lst (ts.map V.int)) ∧ H' va = some (.lst (z.vs.map V.str)), ?_, ?_⟩
        · have kH3 := kH2.trans (kept_of s23)
          refine ⟨_, rfl, e1, _, _, _, rfl, rfl, SqT.kept g11 hds kH3, rfl, nil_ ⟨a1, _, rfl, .inr (SqT.kept g12 hds kH3), fun va H4 n4 s4 q4 => ⟨va, rfl, none_same s23 n4, fun z => ?_, fun z => ?_, s23.trans s4, s4 _ _ f3e, s4 _ _ l3e, q4⟩⟩⟩
          · rw [← z, l3e] at n4
            cases n4
          · rw [z, f3e] at n4
            cases n4
        clear f3e l3e s23
        rintro σ' H3 ⟨va, rfl, nv2, d1, d3, s23, ef, el, ev⟩
        have lbd : lb ≠ di := D2.nn nl2
        have vad : va ≠ di := D2.nn nv2
        obtain ⟨ws, hws⟩ : ∃ ws, ws = z.vs := ⟨_, rfl⟩
        rw [← hws] at ev
        have hwl : ws.length = (dms S).length := by
          rw [hws]
          exact zo.nv
        have D3 := D2.same s23
        have k13 := k12.trans (kept_of s23)
        have kH3 := kH1.trans k13
        have nl1' := none_kept k12 lbd nl2
        have nv1' := none_kept k12 vad nv2
        have nf1' := none_kept k12 fad nf2
        have kB := kept_hole kH3 (none_of kH1 lbd nl1') (none_of kH1 vad nv1') (none_of kH1 fad nf1')
        have hu := hu.kept hds kB
        have s1 := hole_same H3 lb va fa
        have kB1 := kept_hole k13 nl1' nv1' nf1'
        have DB : hole H3 lb va fa di = H3 di := hole_ne (Ne.symm lbd) (Ne.symm vad) (Ne.symm fad)
        have nl := hole_a H3 lb va fa
        have nv := hole_b H3 lb va fa
        have nf := hole_c H3 lb va fa
        generalize hole H3 lb va fa = HB at kB hu s1 kB1 DB nl nv nf
        refine ⟨fun σ' H' => ∃ u11 : Option V, σ' = [some (.ref di), some u, some (.int p), some (.ref e1), some (.ref e2), some (.int (0 + (j : Int))), some (.ref la), u7, some (.ref fa), some (.ref lb), some (.ref va), u11, none, v13] ∧ Same HB H' ∧ H' fa = some (.lst (Zr.rowV (Zr.kinds S) (ts.map V.int) (ws.map V.str))), ?_, ?_⟩
        · have c1 : (Zr.kinds S).count true = (ts.map V.int).length := by rw [Zr.count_true so.nd, List.length_map, htl]
          have c2 : (Zr.kinds S).count false = (ws.map V.str).length := by rw [Zr.count_false so.nd, List.length_map, hwl]
          obtain ⟨d, kvs, rfl, hd, en⟩ := hu.same s1
          have hlen := Paired.length en
          refine ⟨d, _, hd, True.intro, fun od => ?_⟩
          refine ⟨_, rfl, d, od, rfl, .inl ⟨kvs, upd_same, fun D hD => ?_⟩⟩
          have en2 := en.lock (o := od) hd
          refine loop_keys (fun i H' => H' D = some (.lst (((S.take i).map (·.1)).map V.str)) ∧ Same (upd H3 d (.frz od (.dK kvs))) H') ⟨upd_same, upd_new hD⟩ ?_ ?_ ?_
          · rintro i H' _ ⟨_, s2⟩
            exact s2 _ _ upd_same
          · rintro i kk v H5 hkv ⟨eD, s2⟩
            obtain ⟨z, kd, hz, rfl, _⟩ := ent_at en2 hkv
            have hi : i < S.length := (List.getElem?_eq_some_iff.mp hz).1
            refine ⟨rfl, ?_⟩
            refine ⟨_, rfl, _, rfl, ?_⟩
            refine ⟨_, eD, by rw [List.length_map, List.length_map, List.length_take]; omega, ?_, same_upd s2 hD⟩
            rw [upd_same, List.take_add_one, hz, List.map_append, List.map_append]
            rfl
          · rintro H5 ⟨eD, s2⟩
            refine ⟨s2 _ _ upd_same, ?_⟩
            have nD : D ≠ d := fun z => by
              rw [z, upd_same] at hD
              cases hD
            rw [hlen, List.take_length] at eD
            have s3 := same_lock hd s2
            refine ⟨D, _, rfl, SqL.of (by rw [upd_ne nD]; exact eD), by rw [List.length_map]; omega, fun ys p' pe so' hp => ?_⟩
            have ey : ys = Zr.names S := srt_eq pe so'
            have s4 : Same H3 (upd (upd H5 d (.dK kvs)) p' (.lst (ys.map V.str))) := same_upd s3 (by
              cases q : H3 p' with
              | none => rfl
              | some o =>
                rw [s3 _ _ q] at hp
                cases hp)
            have pl : p' ≠ lb := fun z => by
              rw [z, s3 _ _ el] at hp
              cases hp
            have pv' : p' ≠ va := fun z => by
              rw [z, s3 _ _ ev] at hp
              cases hp
            have pf : p' ≠ fa := fun z => by
              rw [z, s3 _ _ ef] at hp
              cases hp
            generalize hH : upd (upd H5 d (.dK kvs)) p' (.lst (ys.map V.str)) = H6 at s4 ⊢
            have ep : H6 p' = some (.lst ((Zr.names S).map V.str)) := by
              rw [← hH, upd_same, ey]
            refine ⟨p', rfl, ⟨_, SqL.of ep⟩, ?_⟩
            refine for_list (xs := (Zr.names S).map V.str) (fun i σ' H' => ∃ (u6 : Option V) (f lt lv : List V), σ' = [some (.ref di), some (.ref d), some (.int p), some (.ref e1), some (.ref e2), some (.int (0 + (j : Int))), some (.ref la), u7, some (.ref fa), some (.ref lb), some (.ref va), u6, none, v13] ∧ Same HB H' ∧ H' p' = some (.lst ((Zr.names S).map V.str)) ∧ H' lb = some (.lst lt) ∧ H' va = some (.lst lv) ∧ H' fa = some (.lst f) ∧
                f ++ Zr.rowV ((Zr.kinds S).drop i) lt lv = Zr.rowV (Zr.kinds S) (ts.map V.int) (ws.map V.str) ∧ ((Zr.kinds S).drop i).count true = lt.length ∧ ((Zr.kinds S).drop i).count false = lv.length ∧ f.length = i) ?_ ?_ ?_ ?_
            · exact ⟨v11, [], _, _, rfl, s1.trans s4, ep, s4 _ _ el, s4 _ _ ev, s4 _ _ ef, rfl, c1, c2, rfl⟩
            · rintro i σ' H7 _ ⟨_, _, _, _, _, _, e6, _⟩
              exact SqL.of e6
            · rintro i xn σ' H7 hn ⟨u6, f, lt, lv, rfl, s6, e6, l6, v6, f6, r6, ct, cf, hf⟩
              rw [List.getElem?_map] at hn
              obtain ⟨nm, hnm, rfl⟩ := Option.map_eq_some_iff.mp hn
              have hi : i < (Zr.names S).length := (List.getElem?_eq_some_iff.mp hnm).1
              rw [names_len] at hi
              obtain ⟨kd, hm⟩ := names_mem (List.mem_of_getElem? hnm)
              obtain ⟨d', kvs', e', hd', en'⟩ := hu.same s6
              cases e'
              obtain ⟨x, hx', kx⟩ := ent_val en' so.nd hm
              have hk : (Zr.kinds S).drop i = kd.isT :: (Zr.kinds S).drop (i + 1) := by
                have : (Zr.kinds S)[i]? = some kd.isT := by
                  unfold Zr.kinds
                  rw [List.getElem?_map, hnm]
                  exact congrArg some (Zr.isT_of so.nd hm)
                rw [List.drop_eq_getElem_cons (by omega)]
                rw [List.getElem?_eq_getElem (by omega)] at this
                rw [Option.some.inj this]
              rw [hk] at r6 ct cf
              refine ⟨_, rfl, .inl ⟨rfl, _, SqL.of f6⟩, ?_⟩
              refine ⟨_, rfl, _, rfl, d, x, rfl, .inl ⟨kvs', Sum.inr nm, .inl hd', rfl, hx'.symm⟩, ?_⟩
              refine ⟨kdD kd, .str "time", kd_dp kx, .str _, kd_shaped kd (so.dom _ hm), by decide +kernel, _, rfl, ?_⟩
              rw [kd_eqv]
              cases h : kd.isT with
              | true =>
                rw [h] at r6 ct cf
                obtain ⟨t, ts', rfl, ct', er⟩ := row_true (vs := lv) ct
                rw [er] at r6
                have cf' : ((Zr.kinds S).drop (i + 1)).count false = lv.length := by simpa using cf
                refine iteT ?_
                refine ⟨_, rfl, .inl ⟨rfl, _, SqL.of l6⟩, con1 ⟨lb, _, 0, 0, t, rfl, rfl, l6, by decide, by decide, seqIx (j := 0) (by simp), rfl, nil_ ?_⟩⟩
                refine ⟨fa, _, _, rfl, rfl, by rw [upd_ne (Ne.symm d2)]; exact f6, by omega, ?_⟩
                refine ⟨_, f ++ [t], ts', lv, rfl, same_upd (same_upd s6 nl) nf, ?_, ?_, ?_, upd_same, by rw [List.append_assoc]; exact r6, ct', cf', by rw [List.length_append, hf]; rfl⟩
                · rw [upd_ne pf, upd_ne pl]
                  exact e6
                · rw [upd_ne d2, upd_same]
                  rfl
                · rw [upd_ne d3, upd_ne (Ne.symm d1)]
                  exact v6
              | false =>
                rw [h] at r6 ct cf
                obtain ⟨t, vs', rfl, cf', er⟩ := row_false (ts := lt) cf
                rw [er] at r6
                have ct' : ((Zr.kinds S).drop (i + 1)).count true = lt.length := by simpa using ct
                refine iteF ?_
                refine ⟨_, rfl, .inl ⟨rfl, _, SqL.of v6⟩, con1 ⟨va, _, 0, 0, t, rfl, rfl, v6, by decide, by decide, seqIx (j := 0) (by simp), rfl, nil_ ?_⟩⟩
                refine ⟨fa, _, _, rfl, rfl, by rw [upd_ne (Ne.symm d3)]; exact f6, by omega, ?_⟩
                refine ⟨_, f ++ [t], lt, vs', rfl, same_upd (same_upd s6 nv) nf, ?_, ?_, ?_, upd_same, by rw [List.append_assoc]; exact r6, ct', cf', by rw [List.length_append, hf]; rfl⟩
                · rw [upd_ne pf, upd_ne pv']
                  exact e6
                · rw [upd_ne d2, upd_ne d1]
                  exact l6
                · rw [upd_ne d3, upd_same]
                  rfl
            · rintro σ' H7 ⟨u6, f, lt, lv, rfl, s6, e6, l6, v6, f6, r6, _⟩
              rw [List.length_map, names_len, List.drop_of_length_le (by omega)] at r6
              refine ⟨u6, rfl, s6, ?_⟩
              rw [f6, ← r6]
              cases lt <;> cases lv <;> simp [Zr.rowV]
        rintro σ' H4 ⟨u11, rfl, s4, f4e⟩
        have k14 := kB1.trans (kept_of s4)
        have kH4 := kH1.trans k14
        have D4 : Dc H4 di (n + 8 * (j : Int) + 4) := by
          refine D3.keep ?_
          obtain ⟨ds3, hds3⟩ := D3.lst
          rw [hds3] at DB
          rw [hds3]
          exact s4 _ _ DB
        obtain ⟨ds4, hds4⟩ := D4.lst
        have hu4 := hu.same s4
        have hz4 := hz.kept hds kH4
        have hy4 := hy.kept hds kH4
        have wn : ∀ x ∈ ws, NameOk x := by
          rw [hws]
          exact zok_names so zo
        refine ⟨fun σ' H' => ∃ u11 : Option V, σ' = [some (.ref di), some u, some (.int p), some (.ref e1), some (.ref e2), some (.int (0 + (j : Int))), some (.ref la), u7, some (.ref fa), some (.ref lb), some (.ref va), u11, none, some (.bl (inZ p z ts))] ∧ Same H4 H', ?_, ?_⟩
        · refine ⟨_, rfl, _, rfl, _, rfl, _, rfl, nil_ ⟨fa, _, rfl, SqL.of f4e, fun ra H5 n5 s5 e5 => nil_ ⟨u, .ref e1, S, p, z, ra, ts, ws, rfl, hu4.same s5, so, by omega, hz4.same s5, zo, htl, hwl, wn, SqT.of e5, fun H6 s6 => ?_⟩⟩⟩
          rw [hws, decide_eq_true rfl, Bool.true_and]
          exact ⟨_, rfl, s5.trans s6⟩
        rintro σ' H5 ⟨u11, rfl, s5⟩
        refine ⟨_, rfl, _, rfl, _, rfl, _, rfl, nil_ ⟨fa, _, rfl, SqL.of (s5 _ _ f4e), fun ra H6 n6 s6 e6 => nil_ ⟨u, .ref e2, S, p, y, ra, ts, ws, rfl, (hu4.same s5).same s6, so, by omega, (hy4.same s5).same s6, yo, htl, hwl, wn, SqT.of e6, fun H7 s7 => ?_⟩⟩⟩
        rw [hws, evs, decide_eq_true rfl, Bool.true_and, hin ts htl]
        refine ⟨_, rfl, ?_⟩
        have s47 := s5.trans (s6.trans s7)
        exact ⟨rfl, _, rfl, iteN (by simp) ⟨_, _, _, _, _, _, _, _, rfl, kH4.trans (kept_of s47), (D4.same s47).mono (by omega)⟩⟩
      · rintro σ' H1 ⟨u5, u6, u7, u8, u9, u10, u11, u13, rfl, kH1, D1⟩
        exact ⟨_, _, _, _, _, _, _, _, rfl, kH1, D1.mono (by omega)⟩
    rintro σ' H1 ⟨u5, u6, u7, u8, u9, u10, u11, u13, rfl, kH1, D1⟩
    exact k H1 kH1 D1
end
end TM
end

section
set_option maxHeartbeats 4000000
namespace TM
open PySem PySem.Spec PyProof.Rows L2 EW
def spLamT (K : W.Frag) (p : Int) (v : V) (z : Zn.Z) (i : Nat) (x : Int) : List (Option V) → Sp := fun ws vs H Q _ => ∃ m : Int, vs = [.int m] ∧ ws = [some (.int p), some v, some (.int x)] ∧ x = (i : Int) ∧ i < z.ss.length ∧ 0 < p ∧ ZnV K H v z ∧ (∀ s ∈ z.ss, Zn.Res p s.res) ∧ z.ss.length ≤ 2 ∧
  ∀ (b : Bool) (H' : Hp), Same H H' → (b = true ↔ Zn.hasP p z i m) → Q (.bl b) H'
def spLamG (K : W.Frag) (p : Int) (v : V) (z : Zn.Z) : List (Option V) → Sp := fun ws vs H Q _ => ∃ m : Int, vs = [.int m] ∧ ws = [some (.int p), some v] ∧ z.ss.length = 2 ∧ 0 < p ∧ ZnV K H v z ∧ (∀ s ∈ z.ss, Zn.Res p s.res) ∧
  ∀ (b : Bool) (H' : Hp), Same H H' → (b = true ↔ Zn.hasG p z m) → Q (.bl b) H'
def spToldR (K : W.Frag) (PT : PT2) : Sp := fun vs H Q _ => ∃ (p : Int) (v v' : V) (z y : Zn.Z), vs = [.int p, v, v'] ∧ 1 ≤ p ∧ p ≤ 400 ∧ ZnV K H v z ∧ ZnV K H v' y ∧ z.ss.length ≤ 2 ∧ (∀ s ∈ z.ss, Zn.Res p s.res) ∧ y.ss.length = z.ss.length ∧
  (∀ (i : Nat) (s : Rn.Sp3), y.ss[i]? = some s → Zn.PairOk p (0 - 10000000000000000) (Zn.hasP p z i) (s.lo, s.hi)) ∧ (z.ss.length = 2 → Zn.PairOk p (0 - 10000000000000000) (Zn.hasG p z) y.g) ∧ (z.ss.length < 2 → y.g = (none, none)) ∧
  LamX.Tabs (LT PT) H ∧ ∀ H', LamX.ExtN H H' → LamX.Tabs (LT PT) H' → Q (.bl true) H'
section
variable {P : Program} {w : World} {K : W.Frag} {mg : Str → Option Value} {base : Heap}
theorem lok_T (D_law_has_time : Df P w K mg base 2 "_law_has_time" ["_law_period", "_law_zone_here", "_law_place", "_law_time"] (spHasT K)) {p : Int} {v : V} {z : Zn.Z} {i : Nat} {x : Int} {f : Addr} {F : LF} (h1 : F.params = lamPs lamT) (h2 : F.body = lamBd lamT) (h3 : F.scope = lamSc lamT) : LOk P w K mg base 3 f F frT (spLamT K p v z i x) := by
  obtain ⟨q, pa, bd, sc, cl, c⟩ := F
  dsimp only at h1 h2 h3
  subst h1 h2 h3
  refine lok_of (N := NLamT) (ps := ["_law_time"]) lamT_scope (fun pm ctv us hl => match us, hl with | [_], _ => rfl) (fun ws vs H Q E h => ?_) (fun A outer s H vs ws Q E hr hw h => ?_)
  · obtain ⟨m, rfl, _⟩ := h
    rfl
  · obtain ⟨m, rfl, rfl, rfl, h⟩ := h
    refine ⟨_, (pe_df D_law_has_time (hr.mono (by decide)) rfl (pa_cons (pv 1) (pa_cons (pv 2) (pa_cons (pv 3) (pa_cons (pv 0) pa_nil))))), ?_⟩
    exact ⟨_, rfl, _, rfl, _, rfl, _, rfl, nil_ ⟨p, v, z, i, m, rfl, h⟩⟩
theorem lok_G (D_law_has_gap : Df P w K mg base 2 "_law_has_gap" ["_law_period", "_law_zone_here", "_law_many"] (spHasG K)) {p : Int} {v : V} {z : Zn.Z} {f : Addr} {F : LF} (h1 : F.params = lamPs lamG) (h2 : F.body = lamBd lamG) (h3 : F.scope = lamSc lamG) : LOk P w K mg base 3 f F frG (spLamG K p v z) := by
  obtain ⟨q, pa, bd, sc, cl, c⟩ := F
  dsimp only at h1 h2 h3
  subst h1 h2 h3
  refine lok_of (N := NLamG) (ps := ["_law_many"]) lamG_scope (fun pm ctv us hl => match us, hl with | [_], _ => rfl) (fun ws vs H Q E h => ?_) (fun A outer s H vs ws Q E hr hw h => ?_)
  · obtain ⟨m, rfl, _⟩ := h
    rfl
  · obtain ⟨m, rfl, rfl, h⟩ := h
    refine ⟨_, (pe_df D_law_has_gap (hr.mono (by decide)) rfl (pa_cons (pv 1) (pa_cons (pv 2) (pa_cons (pv 0) pa_nil)))), ?_⟩
    exact ⟨_, rfl, _, rfl, _, rfl, nil_ ⟨p, v, z, m, rfl, h⟩⟩
/-- a lambda that is held says which numbers there are -/
theorem held_jg {f : Addr} {FN : LF} {fr : List Str} {ws : List (Option V)} {sp : List (Option V) → Sp} {has : Int → Prop} {Hp H2 : L2.Hp} (ef : Hp f = some (LO f FN)) (ec : Hp FN.c = some (LamX.CodeO FN.c FN.qual)) (C : CellsH FN.cl fr ws Hp) (d : Drp FN.cl Hp H2)
    (hsp : ∀ (H8 : L2.Hp) (m : Int) (Q : VK), LamX.ExtN H2 H8 → (∀ (b : Bool) H9, Same H8 H9 → (b = true ↔ has m) → Q (.bl b) H9) → sp ws [.int m] H8 Q E0) : Jg f (spHeld f FN fr ws sp) has Hp := by
  intro H7 m Q1 e7 hq
  refine ⟨e7 _ _ ef lo_tbl, e7 _ _ ec co_tbl, cellsH_ext C e7, fun H8 d8 => ?_⟩
  have e28 := extn_drp d e7 d8
  exact hsp H8 m _ e28 fun b H9 s9 hb Hq r9 => hq b Hq (rtk_same d8 s9 r9) hb
theorem ok_toldR {fd : FuncData} (F : FnP K "_law_told_right" sToldR fd) {c1 : Addr} {PT : PT2} (T : Fre mg) (hne : PT.1 ≠ PT.2) (hcdR : fd.code = .ref c1) (TBR : LamX.TabB base mg c1 PT.2) (D_law_has_time : Df P w K mg base 2 "_law_has_time" ["_law_period", "_law_zone_here", "_law_place", "_law_time"] (spHasT K))
    (D_law_has_gap : Df P w K mg base 2 "_law_has_gap" ["_law_period", "_law_zone_here", "_law_many"] (spHasG K)) (D_law_pair_right : Df P w K mg base 6 "_law_pair_right" ["_law_has", "_law_pair_here", "_law_period"] (spPR P w K mg base PT)) :
    FnOk P w K mg base CX0 7 (He.ga K "_law_told_right") fd ["_law_period", "_law_zone_here", "_law_found"] (spToldR K PT) := by
  refine okC F hcdR ToldR (fun vs H Q E h => ?_) (fun A outer s H vs Q E hr h => ?_)
  · obtain ⟨p, v, v', z, y, rfl, _⟩ := h
    rfl
  · obtain ⟨p, v, v', z, y, rfl, p1, p4, hz, hy, l2, hres, hyl, hP, hG, hN, ht, k⟩ := h
    obtain ⟨e1, a1, b1, c1', us1, rfl, g11, g12, g13, g14, g15⟩ := ix_same hz
    obtain ⟨e2, a2, b2, c2', us2, rfl, g21, g22, g23, g24, g25⟩ := ix_same hy
    have hul1 := Paired.length g14
    have hul2 := Paired.length g24
    have hbig : (10000 : Nat) ≤ sizeLine := by decide
    have hlm : (PT.2, (cxOf CX0 P w K mg base NToldR "_law_told_right" (defScope sToldR) (He.ga K "_law_told_right") (.ref c1) A outer s H E).env.qual ++ "<lambda>") ∈ LT PT := List.mem_cons_of_mem _ (List.mem_singleton.mpr rfl)
    have hlu : ∀ p ∈ LT PT, p.1 = PT.2 → p.2 = (cxOf CX0 P w K mg base NToldR "_law_told_right" (defScope sToldR) (He.ga K "_law_told_right") (.ref c1) A outer s H E).env.qual ++ "<lambda>" := fun p hp hq => by
      rcases List.mem_cons.mp hp with e | e
      · rw [e] at hq
        exact absurd hq hne
      · rw [List.mem_singleton.mp e]
        rfl
    obtain ⟨clT, hclT⟩ : ∃ cl, cl = cloFrom (envOfC "_law_told_right" (defScope sToldR) s.heap.objs.size (He.ga K "_law_told_right") (.ref c1)).cells (lamSc lamT).names [] := ⟨_, rfl⟩
    obtain ⟨clG, hclG⟩ : ∃ cl, cl = cloFrom (envOfC "_law_told_right" (defScope sToldR) s.heap.objs.size (He.ga K "_law_told_right") (.ref c1)).cells (lamSc lamG).names [] := ⟨_, rfl⟩
    refine ⟨_, PSs.nox (pss_cons (ps_cut (ps_for PassesOwn.never rfl (pi_range1 rfl T.range (pa_cons (pe_callB (call_lenK K rfl) (by rfl) T.len PySem.boot_len (pa_cons (pe_ix (ix_tupK K rfl) (pv 1) pe_int (fun _ _ => rfl)) pa_nil)) pa_nil)) (pg_name (i := 3) ToldR.nd rfl (Or.inr rfl)) (pss_cons (ps_set (i := 4) ToldR.nd rfl (Or.inl rfl) (EW.pe_lamC (params := lamPs lamT) (body := lamBd lamT) (scope := lamSc lamT) TBR rfl hlm hlu rfl lamT_free))
      (pss_one (ps_if (pt_not (pt_val (EW.pe_dfH (js := [0, 1, 3]) (fr := frT) (fun ok => NdefX.Caps.made ok lamT_free lamT_fr rfl) (fun _ => rfl) D_law_pair_right (hr.mono (by decide)) rfl (pa_cons (pv 4) (pa_cons (pe_slice (sl_tupS K rfl) (pe_ix (ix_tupK K rfl) (pe_ix (ix_tupK K rfl) (pv 2) pe_int (fun _ _ => rfl)) (pv 3) (fun _ _ => rfl)) (po_some pe_int) po_none) (pa_cons (pv 0) pa_nil)))))) (pss_one (ps_ret pe_bl)) pss_nil)))))
      (pss_cons (ps_cut (ps_if (pt_cmpR op_lt (pe_callB (call_lenK K rfl) (by rfl) T.len PySem.boot_len (pa_cons (pe_ix (ix_tupK K rfl) (pv 1) pe_int (fun _ _ => rfl)) pa_nil)) pe_int (nomark _)) (pss_one (ps_ret (pe_cmpR (op_eqDK K rfl hr.units) (pe_ix (ix_tupK K rfl) (pv 2) pe_int (fun _ _ => rfl)) (pe_tupS (pa_cons pe_non (pa_cons pe_non pa_nil))) (nomark _)))) pss_nil))
      (pss_one (ps_ret (EW.pe_dfH (js := [0, 1]) (fr := frG) (fun ok => NdefX.Caps.made ok lamG_free lamG_fr rfl) (fun _ => rfl) D_law_pair_right (hr.mono (by decide)) rfl (pa_cons (EW.pe_lamC (params := lamPs lamG) (body := lamBd lamG) (scope := lamSc lamG) TBR rfl hlm hlu rfl lamG_free) (pa_cons (pe_ix (ix_tupK K rfl) (pv 2) pe_int (fun _ _ => rfl)) (pa_cons (pv 0) pa_nil)))))))), ?_⟩
    refine ⟨fun σ' H' => ∃ u3 u4 : Option V, σ' = [some (.int p), some (.ref e1), some (.ref e2), u3, u4] ∧ LamX.ExtN H H' ∧ LamX.Tabs (LT PT) H', ?_, ?_⟩
    · refine ⟨_, rfl, e1, _, _, _, rfl, rfl, g11, rfl, nil_ ⟨_, _, rfl, .inr ⟨_, g13, rfl⟩, nil_ ⟨_, rfl, by omega, by omega, ?_⟩⟩⟩
      refine for_range (lo := 0) (n := us1.length) (fun j σ' H' => ∃ u3 u4 : Option V, σ' = [some (.int p), some (.ref e1), some (.ref e2), u3, u4] ∧ LamX.ExtN H H' ∧ LamX.Tabs (LT PT) H') ⟨none, none, rfl, .of (Same.refl _), ht⟩ ?_ ?_
      · rintro i σ' H1 hi ⟨u3, u4, rfl, x1, t1⟩
        obtain ⟨y0, hy0⟩ : ∃ y, us2[i]? = some y := ⟨_, List.getElem?_eq_getElem (by omega)⟩
        obtain ⟨⟨r, lo, hh⟩, hsp, sx⟩ := pr_get g24 hy0
        obtain ⟨ax, rfl, hX⟩ := id sx
        refine ⟨t1, fun f c' H2 x2 t2 nf ef ec => ?_⟩
        have x02 : LamX.ExtN H H2 := fun b o e n => x2 b o (x1 b o e n) n
        refine ⟨_, rfl, _, rfl, e2, _, _, _, rfl, rfl, sqT_ext g21 x02, rfl, _, rfl, b2, _, _, _, rfl, rfl, sqT_ext g23 x02, (by rw [Int.zero_add]; exact atI_nat hy0), _, rfl, ax, _, rfl, sqT_ext hX x02, (fun ⟨z, _⟩ => by rw [show HT.sIx _ 0 (some 1) = _ from HT.sIx_nat _ 0 1] at z; cases z), fun q H3 n3 s3 q3 => ?_⟩
        refine ⟨_, rfl, nil_ ?_⟩
        intro Hp C d
        have C : CellsH clT frT [some (.int p), some (.ref e1), some (.int (0 + (i : Int)))] Hp := by
          rw [hclT]
          exact C
        have d : Drp clT Hp H3 := by
          rw [hclT]
          exact d
        have s3p := drp_same d
        have x03 : LamX.ExtN H H3 := ext_same x02 s3
        obtain ⟨FN, hFN⟩ : ∃ FN : LF, FN = ⟨"_law_told_right.<locals>." ++ "<lambda>", lamPs lamT, lamBd lamT, lamSc lamT, clT, c'⟩ := ⟨_, rfl⟩
        have ef : H2 f = some (LO f FN) := by
          rw [hFN, hclT]
          exact ef
        have ec : H2 FN.c = some (LamX.CodeO FN.c FN.qual) := by
          rw [hFN]
          exact ec
        have ecl : FN.cl = clT := by rw [hFN]
        have efp := s3p _ _ (s3 _ _ ef)
        have ecp := s3p _ _ (s3 _ _ ec)
        refine ⟨f, spHeld f FN frT [some (.int p), some (.ref e1), some (.int (0 + (i : Int)))] (spLamT K p (.ref e1) z i (0 + (i : Int))), .ref q, (lo, hh), p, Zn.hasP p z i, rfl, Tp.of (s3p _ _ q3), p1, p4, cb_of (lok_T D_law_has_time (by rw [hFN]) (by rw [hFN]) (by rw [hFN])), ⟨FN, efp⟩, held_jg efp ecp (by rw [ecl]; exact C) (by rw [ecl]; exact d) (fun H8 m Q1 x8 hq => ?_), hP i _ hsp, tabs_same (tabs_same t2 s3) s3p, fun H7 x7 t7 H8 d8 => ?_⟩
        · exact ⟨m, rfl, rfl, Int.zero_add _, by omega, by omega, znV_ext hz (fun b o e n => x8 b o (x03 b o e n) n), hres, l2, hq⟩
        · have d8 : Drp clT H7 H8 := by
            rw [hclT]
            exact d8
          have x38 := extn_drp d x7 d8
          exact ⟨_, rfl, iteF ⟨_, _, rfl, fun b o e n => x38 b o (x03 b o e n) n, tabs_drp t7 (cellsH_ext C x7) d8⟩⟩
      · rintro σ' H1 ⟨u3, u4, rfl, x1, t1⟩
        exact ⟨u3, u4, rfl, x1, t1⟩
    rintro σ' H1 ⟨u3, u4, rfl, x1, t1⟩
    refine ⟨fun σ' H' => σ' = [some (.int p), some (.ref e1), some (.ref e2), u3, u4] ∧ H' = H1 ∧ z.ss.length = 2, ?_, ?_⟩
    · refine ⟨_, rfl, e1, _, _, _, rfl, rfl, sqT_ext g11 x1, rfl, nil_ ⟨_, _, rfl, .inr ⟨_, sqT_ext g13 x1, rfl⟩, _, _, rfl, rfl, _, rfl, ite2 (fun c => ?_) fun c => ?_⟩⟩
      · have c : us1.length < 2 := by simp at c; omega
        refine ⟨_, rfl, e2, _, _, _, rfl, rfl, sqT_ext g21 x1, rfl, (by show 2 ≤ sizeLine; omega), fun q H2 n2 s2 q2 => ?_⟩
        have hg := hN (by omega)
        have g25' : Tp K H2 c2' [ob y.g.1, ob y.g.2] := Tp.same (tp_ext g25 x1) s2
        rw [hg] at g25'
        refine ⟨pairD (none, none), pairD (none, none), pair_dp g25', pair_dp (q := (none, none)) (Tp.of q2), by decide +kernel, by decide +kernel, ?_⟩
        exact k H2 (ext_same x1 s2) (tabs_same t1 s2)
      · have c : ¬ us1.length < 2 := fun q => c (by simp; omega)
        exact ⟨rfl, rfl, by omega⟩
    rintro σ' H1' ⟨rfl, rfl, l22⟩
    refine ⟨t1, fun f c' H2 x2 t2 nf ef ec => ?_⟩
    have x02 : LamX.ExtN H H2 := fun b o e n => x2 b o (x1 b o e n) n
    refine ⟨_, rfl, e2, _, _, _, rfl, rfl, sqT_ext g21 x02, rfl, _, rfl, nil_ ?_⟩
    intro Hp C d
    have C : CellsH clG frG [some (.int p), some (.ref e1)] Hp := by
      rw [hclG]
      exact C
    have d : Drp clG Hp H2 := by
      rw [hclG]
      exact d
    have s2p := drp_same d
    obtain ⟨FN, hFN⟩ : ∃ FN : LF, FN = ⟨"_law_told_right.<locals>." ++ "<lambda>", lamPs lamG, lamBd lamG, lamSc lamG, clG, c'⟩ := ⟨_, rfl⟩
    have ef : H2 f = some (LO f FN) := by
      rw [hFN, hclG]
      exact ef
    have ec : H2 FN.c = some (LamX.CodeO FN.c FN.qual) := by
      rw [hFN]
      exact ec
    have ecl : FN.cl = clG := by rw [hFN]
    have efp := s2p _ _ ef
    have ecp := s2p _ _ ec
    refine ⟨f, spHeld f FN frG [some (.int p), some (.ref e1)] (spLamG K p (.ref e1) z), c2', y.g, p, Zn.hasG p z, rfl, Tp.same (tp_ext g25 x02) s2p, p1, p4, cb_of (lok_G D_law_has_gap (by rw [hFN]) (by rw [hFN]) (by rw [hFN])), ⟨FN, efp⟩, held_jg efp ecp (by rw [ecl]; exact C) (by rw [ecl]; exact d) (fun H8 m Q1 x8 hq => ?_), hG l22, tabs_same t2 s2p, fun H7 x7 t7 H8 d8 => ?_⟩
    · exact ⟨m, rfl, rfl, l22, by omega, znV_ext hz (fun b o e n => x8 b o (x02 b o e n) n), hres, hq⟩
    · have d8 : Drp clG H7 H8 := by
        rw [hclG]
        exact d8
      have x28 := extn_drp d x7 d8
      exact k H8 (fun b o e n => x28 b o (x02 b o e n) n) (tabs_drp t7 (cellsH_ext C x7) d8)
end
end TM
end

section
set_option maxHeartbeats 4000000
/-! EwReprB: repr of a truth. -/
namespace EW
open PySem PySem.Spec PyProof.Rows L2
theorem call_repr_bl {X : Cx} : CallR X (.builtin "repr") (fun xs H Q => ∃ b : Bool, xs = [.bl b] ∧ Q (.str (if b then "True" else "False")) H) := by
  intro pins s σ H xs us Q I r h
  obtain ⟨b, rfl, q⟩ := h
  cases r with
  | cons rx rn =>
    cases rn
    obtain rfl := rx
    exact PySem.P.repr_of_bool ⟨.str _, H, I.tok _, ⟨_, rfl⟩, q⟩
end EW
end

section
set_option maxHeartbeats 4000000
namespace TM
open PySem PySem.Spec PyProof.Rows L2 EW
abbrev NRight : List Str := ["_law_dice_here", "_law_shape_here", "_law_period", "_law_zone_here", "_law_found", "_law_span_here", "_law_other", "_law_is_right"]
theorem Right : FnScope NRight ["_law_dice_here"] (defScope sRight) := ⟨rfl, rfl, rfl, by decide +kernel, rfl, by decide +kernel, by decide +kernel⟩
section
variable {K : W.Frag} {H H' H1 : Hp} {d : Addr}
theorem tabs_kept {T : List (Addr × Str)} {xs : List V} (t : LamX.Tabs T H) (h : H d = some (.lst xs)) (k : EW.Kept d H H') : LamX.Tabs T H' := fun p hp => by
  obtain ⟨ps, h1, h2, h3⟩ := t p hp
  refine ⟨ps, k _ _ (fun z => ?_) h1, h2, fun pos cv hc => ?_⟩
  · rw [z, h] at h1
    cases h1
  · obtain ⟨c, e1, e2⟩ := h3 pos cv hc
    refine ⟨c, e1, k _ _ (fun z => ?_) e2⟩
    rw [z, h] at e2
    have e2 := Option.some.inj e2
    unfold LamX.CodeO at e2
    cases e2
theorem kn_trans (a : EW.KeptN d H H1) (b : EW.KeptN d H1 H') : EW.KeptN d H H' := fun x o n e t => b x o n (a x o n e t) t
theorem kn_kept (a : EW.Kept d H H') : EW.KeptN d H H' := fun x o n e _ => a x o n e
theorem kn_ext (a : LamX.ExtN H H') : EW.KeptN d H H' := fun x o _ e t => a x o e t
theorem kn_refl : EW.KeptN d H H := fun _ _ _ e _ => e
theorem dc_ext {n : Int} (h : Dc H d n) (e : LamX.ExtN H H') : Dc H' d n := by
  obtain ⟨g, b, c, h1, r⟩ := h
  exact ⟨g, b, c, ext_lst e h1, r⟩
end
/-- None or a zone -/
def ZoV (K : W.Frag) (H : Hp) (v : V) : Option Zn.Z → Prop
  | none => v = .non
  | some z => ZnV K H v z
theorem ZoV.same {K : W.Frag} {H H' : Hp} {v : V} {o : Option Zn.Z} (h : ZoV K H v o) (s : Same H H') : ZoV K H' v o := by
  cases o with
  | none => exact h
  | some z => exact ZnV.same h s
theorem outZ {K : W.Frag} {H : Hp} {o : Option Zn.Z} {Q : VK} (h : ∀ v H', Same H H' → ZoV K H' v o → Q v H') : OutZ K H o Q := fun H' s => ⟨fun e => h _ H' s (by rw [e]; exact rfl), fun z e v hv => h v H' s (by rw [e]; exact hv)⟩
theorem neZo {K : W.Frag} {H : Hp} {Q : VK} {v w : V} {o : Option Zn.Z} (h : ZoV K H v o) (h' : ZoV K H w o) (hn : ∀ z, o = some z → ∀ x ∈ z.vs, NameOk x) (k : Q (.bl false) H) : rNeD K v w H Q := by
  cases o with
  | none =>
    cases h
    cases h'
    exact ⟨.none, .none, .non, .non, by decide, by decide, by rw [show PyData.eqv .none .none = true from by simp [PyData.eqv]]; exact k⟩
  | some z => exact neZ h h' (hn z rfl) k
theorem eqZo {K : W.Frag} {H : Hp} {Q : VK} {v w : V} {o : Option Zn.Z} (h : ZoV K H v o) (h' : ZoV K H w o) (hn : ∀ z, o = some z → ∀ x ∈ z.vs, NameOk x) (k : Q (.bl true) H) : rEqD K v w H Q := by
  cases o with
  | none =>
    cases h
    cases h'
    exact ⟨.none, .none, .non, .non, by decide, by decide, by rw [show PyData.eqv .none .none = true from by simp [PyData.eqv]]; exact k⟩
  | some z => exact eqZ h h' (hn z rfl) k
theorem ods_dp {K : W.Frag} {H : Hp} : ∀ ss : List Rn.Sp3, DpAll K H (ss.map fun s => ob s.res) (ss.map fun s => od s.res)
  | [] => .nil
  | s :: ss => .cons (od_dp _) (ods_dp ss)
theorem ods_shaped (ss : List Rn.Sp3) : SeqAt.shaped (.list (ss.map fun s => od s.res)) = true := by
  have h1 : ∀ ss : List Rn.Sp3, PyData.canLayAll0 (ss.map fun s => od s.res) = true := fun ss => by
    induction ss with
    | nil => simp [PyData.canLayAll0]
    | cons s ss ih => simp [PyData.canLayAll0, od_lay, ih]
  have h2 : ∀ ss : List Rn.Sp3, PyData.depthAll (ss.map fun s => od s.res) = 0 := fun ss => by
    induction ss with
    | nil => simp [PyData.depthAll]
    | cons s ss ih => simp [PyData.depthAll, od_depth, ih]
  simp [SeqAt.shaped, PyData.canLay0, PyData.depth, h1, h2]
theorem ods_eqv : ∀ {xs ys : List Rn.Sp3}, xs.map (·.res) = ys.map (·.res) → PyData.eqv (.list (xs.map fun s => od s.res)) (.list (ys.map fun s => od s.res)) = true := fun {xs ys} h => by
  have e : (xs.map fun s => od s.res) = ys.map fun s => od s.res := by
    have := congrArg (List.map od) h
    rwa [List.map_map, List.map_map] at this
  rw [e, PyData.eqv]
  have : ∀ l : List Rn.Sp3, PyData.eqvAll (l.map fun s => od s.res) (l.map fun s => od s.res) = true := fun l => by
    induction l with
    | nil => simp [PyData.eqvAll]
    | cons s l ih => simp [PyData.eqvAll, od_eqv, ih]
  exact this ys
theorem okS_iff {p : Int} {s : Rn.Sp3} {t : Int} : okS p s t = true ↔ Zn.Cl p s.res t ∧ Zn.Bt (s.lo, s.hi) t := by
  unfold okS
  rw [Bool.and_eq_true, betw_iff]
  constructor
  · rintro ⟨h1, h2⟩
    refine ⟨fun i e => ?_, h1⟩
    rw [e] at h2
    exact of_decide_eq_true h2
  · rintro ⟨h1, h2⟩
    refine ⟨h2, ?_⟩
    cases e : s.res with
    | none => rfl
    | some r => exact decide_eq_true (h1 r e)
theorem inZ_iff {p : Int} {z : Zn.Z} {ts : List Int} (hl : ts.length = z.ss.length) (h2 : z.ss.length ≤ 2) : inZ p z ts = true ↔ Zn.InT p z ts := by
  obtain ⟨vs, ss, g⟩ := z
  match ss, ts, hl, h2 with
  | [], [], _, _ => exact iff_of_true rfl True.intro
  | [s], [t], _, _ =>
    show (([okS p s t].all id) && true) = true ↔ _
    simp only [List.all_cons, List.all_nil, id, Bool.and_true]
    exact okS_iff
  | [s, s'], [t, t'], _, _ =>
    show (([okS p s t, okS p s' t'].all id) && betw g.1 g.2 (t' - t)) = true ↔ _
    simp only [List.all_cons, List.all_nil, id, Bool.and_true, Bool.and_eq_true, okS_iff, betw_iff]
    constructor
    · rintro ⟨⟨⟨h1, h2⟩, h3, h4⟩, h5⟩
      exact ⟨h1, h3, h2, h4, h5⟩
    · rintro ⟨h1, h3, h2, h4, h5⟩
      exact ⟨⟨⟨h1, h2⟩, h3, h4⟩, h5⟩
theorem zok_res {S : Shp} {p : Int} {z : Zn.Z} (zo : ZOk S p z) : ∀ s ∈ z.ss, Zn.Res p s.res := fun s hs r hr => zo.res s hs r hr
theorem same_len {α β : Type} {f : α → β} {a b : List α} (h : a.map f = b.map f) : a.length = b.length := by
  have := congrArg List.length h
  rwa [List.length_map, List.length_map] at this
/-- what is judged: a zone, or None, a list, a tuple of two -/
def ItV (K : W.Frag) (H : Hp) (S : Shp) (p : Int) (v : V) : Option Zn.Z → Prop
  | some z => ZnV K H v z ∧ ZOk S p z
  | none => v = .non ∨ (∃ a xs, v = .ref a ∧ H a = some (.lst xs)) ∨ ∃ a xs, v = .ref a ∧ SqT K H a xs ∧ xs.length = 2
theorem ItV.elt {K : W.Frag} {H : Hp} {S : Shp} {p : Int} {v : V} {o : Option Zn.Z} (h : ItV K H S p v o) : EltV K H S p v o := by
  cases o with
  | some z => exact h
  | none =>
    rcases h with h | ⟨a, xs, e, h⟩ | ⟨a, xs, e, h, l⟩
    · exact .inl h
    · exact .inr (.inr (.inl ⟨a, xs, e, h⟩))
    · exact .inr (.inl ⟨a, xs, e, h, by omega⟩)
theorem ItV.same {K : W.Frag} {H H' : Hp} {S : Shp} {p : Int} {v : V} {o : Option Zn.Z} (h : ItV K H S p v o) (s : Same H H') : ItV K H' S p v o := by
  cases o with
  | some z => exact ⟨h.1.same s, h.2⟩
  | none =>
    rcases h with h | ⟨a, xs, e, h⟩ | ⟨a, xs, e, h, l⟩
    · exact .inl h
    · exact .inr (.inl ⟨a, xs, e, s _ _ h⟩)
    · exact .inr (.inr ⟨a, xs, e, SqT.same h s, l⟩)
theorem neSame {K : W.Frag} {H : Hp} {Q : VK} {v w : V} {d : PyData} (h : Dp K H v d) (h' : Dp K H w d) (hs : SeqAt.shaped d = true) (he : PyData.eqv d d = true) (k : Q (.bl false) H) : rNeD K v w H Q :=
  ⟨_, _, h, h', hs, hs, by rw [he]; exact k⟩
theorem eqZg {K : W.Frag} {H : Hp} {Q : VK} {v w : V} {y z : Zn.Z} (h : ZnV K H v y) (h' : ZnV K H w z) (hn : ∀ x ∈ y.vs, NameOk x) (hn' : ∀ x ∈ z.vs, NameOk x) (k : Q (.bl (PyData.eqv (znD y) (znD z))) H) : rEqD K v w H Q :=
  ⟨_, _, zn_dp h, zn_dp h', zn_shaped _ hn, zn_shaped _ hn', k⟩
theorem eqZn {K : W.Frag} {H : Hp} {Q : VK} {w : V} {z : Zn.Z} (h' : ZnV K H w z) (hn' : ∀ x ∈ z.vs, NameOk x) (k : Q (.bl false) H) : rEqD K .non w H Q :=
  ⟨.none, _, .non, zn_dp h', by decide +kernel, zn_shaped _ hn', by rw [show PyData.eqv .none (znD z) = false from rfl]; exact k⟩
def spRight (PT : PT2) : Sp := fun vs H Q _ => ∃ (di : Addr) (n : Int), vs = [.ref di] ∧ Dc H di n ∧ n + 1000 ≤ 1000000 ∧ LamX.Tabs (LT PT) H ∧ ∀ H', EW.KeptN di H H' → LamX.Tabs (LT PT) H' → Dc H' di (n + 1000) → Q (.bl true) H'
section
variable {P : Program} {w : World} {K : W.Frag} {mg : Str → Option Value} {base : Heap}
theorem ok_right {fd : FuncData} (F : FnP K "_law_right" sRight fd) (T : Fre mg) (fRepr : mg "repr" = none) {PT : PT2} (D_law_pick : Df P w K mg base 2 "_law_pick" ["_law_dice_here", "_law_items"] (spPick K)) (D_law_shape : Df P w K mg base 3 "_law_shape" ["_law_dice_here", "_law_most"] (spShapeL K))
    (D_law_zone : Df P w K mg base 6 "_law_zone" ["_law_dice_here", "_law_shape_here", "_law_period", "_law_far"] (spZoneL K)) (Dnormal : Df P w K mg base 7 "normal" ["shape", "period", "zone"] (spNormal K)) (Dis_normal : Df P w K mg base 7 "is_normal" ["shape", "period", "value"] (spIsNorm K))
    (D_law_is_empty : Df P w K mg base 3 "_law_is_empty" ["_law_period", "_law_zone_here"] (spIsEmp K)) (D_law_told_right : Df P w K mg base 7 "_law_told_right" ["_law_period", "_law_zone_here", "_law_found"] (spToldR K PT)) (D_law_bent : Df P w K mg base 3 "_law_bent" ["_law_dice_here", "_law_zone_here"] (spBent K))
    (D_law_rows_right : Df P w K mg base 3 "_law_rows_right" ["_law_dice_here", "_law_shape_here", "_law_period", "_law_zone_here", "_law_found"] (spRowsR K)) :
    FnOk P w K mg base CX0 8 (He.ga K "_law_right") fd ["_law_dice_here"] (spRight PT) := by
  refine F.ok Right (fun vs H Q E h => ?_) (fun cdv A outer s H vs Q E hr h => ?_)
  · obtain ⟨di, n, rfl, _⟩ := h
    rfl
  · obtain ⟨di, n, rfl, D, hn, hT, k⟩ := h
    have hbig : (64 : Nat) ≤ sizeLine := by decide
    obtain ⟨ds0, hds0⟩ := D.lst
    refine ⟨_, PSs.nox (pss_cons (ps_cut (ps_par (i := 1) (j := 2) (by rfl) Right.nd rfl rfl (by decide) rfl rfl (pa_cons (pe_df D_law_shape (hr.mono (by decide)) rfl (pa_cons (pv 0) (pa_cons pe_int pa_nil))) (pa_cons (pe_df D_law_pick (hr.mono (by decide)) rfl (pa_cons (pv 0) (pa_cons (pe_lstS (pa_cons pe_int (pa_cons pe_int (pa_cons pe_int (pa_cons pe_int (pa_cons pe_int (pa_cons pe_int pa_nil))))))) pa_nil))) pa_nil)) (by rfl)))
      (pss_cons (ps_cut (ps_set (i := 3) Right.nd rfl (Or.inl rfl) (pe_df D_law_zone (hr.mono (by decide)) rfl (pa_cons (pv 0) (pa_cons (pv 1) (pa_cons (pv 2) (pa_cons pe_int pa_nil)))))))
      (pss_cons (ps_cut (ps_set (i := 4) Right.nd rfl (Or.inl rfl) (pe_df Dnormal (hr.mono (by decide)) rfl (pa_cons (pv 1) (pa_cons (pv 2) (pa_cons (pv 3) pa_nil))))))
      (pss_cons (ps_cut (ps_if (PW.pt (pw_or (pt_cmp (pc_isN (pv 4))) (pw_or1 (pt_val (pe_df D_law_is_empty (hr.mono (by decide)) rfl (pa_cons (pv 2) (pa_cons (pv 3) pa_nil))))))) (pss_cons (ps_if (PW.pt (pw_or (pt_cmp (pc_notN (pv 4))) (pw_or1 (pt_not (pt_val (pe_df D_law_is_empty (hr.mono (by decide)) rfl (pa_cons (pv 2) (pa_cons (pv 3) pa_nil)))))))) (pss_one (ps_ret pe_bl)) pss_nil)
      (pss_one (ps_ret (pe_cmp (pc_isB (pe_df Dis_normal (hr.mono (by decide)) rfl (pa_cons (pv 1) (pa_cons (pv 2) (pa_cons (pv 3) pa_nil))))))))) pss_nil))
      (pss_cons (ps_cut (ps_if (pt_cmpR (op_neDK K rfl hr.units) (pe_ix (ix_tupK K rfl) (pv 4) pe_int (fun _ _ => rfl)) (pe_ix (ix_tupK K rfl) (pv 3) pe_int (fun _ _ => rfl)) (nomark _)) (pss_one (ps_ret pe_bl)) pss_nil))
      (pss_cons (ps_cut (ps_if (pt_cmpR (op_neDK K rfl hr.units) (pe_lc (own := [("_law_span_here", 5)]) (g := gName 5) (tt := tYes) (by rfl) Right.nd (pi_tupK (K := K) rfl (pe_ix (ix_tupK K rfl) (pv 4) pe_int (fun _ _ => rfl))) (blkOk_by (own := [("_law_span_here", 5)]) (N := NRight) (sc := defScope sRight) (by decide +kernel)) (fun _ _ _ _ _ => (pg_name (i := 5) Right.nd rfl (Or.inl rfl))) (fun _ _ _ _ _ => pts_nil) (fun _ _ _ _ _ => (pe_ix (ix_tupK K rfl) (pv 5) pe_int (fun _ _ => rfl)))) (pe_lc (own := [("_law_span_here", 5)]) (g := gName 5) (tt := tYes) (by rfl) Right.nd (pi_tupK (K := K) rfl (pe_ix (ix_tupK K rfl) (pv 3) pe_int (fun _ _ => rfl))) (blkOk_by (own := [("_law_span_here", 5)]) (N := NRight) (sc := defScope sRight) (by decide +kernel)) (fun _ _ _ _ _ => (pg_name (i := 5) Right.nd rfl (Or.inl rfl))) (fun _ _ _ _ _ => pts_nil) (fun _ _ _ _ _ => (pe_ix (ix_tupK K rfl) (pv 5) pe_int (fun _ _ => rfl)))) (nomark _)) (pss_one (ps_ret pe_bl)) pss_nil))
      (pss_cons (ps_cut (ps_if (pt_not (pt_val (pe_df D_law_told_right (hr.mono (by decide)) rfl (pa_cons (pv 2) (pa_cons (pv 3) (pa_cons (pv 4) pa_nil)))))) (pss_one (ps_ret pe_bl)) pss_nil))
      (pss_cons (ps_cut (ps_if (pt_not (pt_val (pe_df D_law_rows_right (hr.mono (by decide)) rfl (pa_cons (pv 0) (pa_cons (pv 1) (pa_cons (pv 2) (pa_cons (pv 3) (pa_cons (pv 4) pa_nil)))))))) (pss_one (ps_ret pe_bl)) pss_nil))
      (pss_cons (ps_cut (ps_if (PW.pt (pw_or (pt_cmpR (op_neDK K rfl hr.units) (pe_df Dnormal (hr.mono (by decide)) rfl (pa_cons (pv 1) (pa_cons (pv 2) (pa_cons (pv 4) pa_nil)))) (pv 4) (nomark _)) (pw_or1 (pt_cmpR op_isnot_bl (pe_df Dis_normal (hr.mono (by decide)) rfl (pa_cons (pv 1) (pa_cons (pv 2) (pa_cons (pv 4) pa_nil)))) pe_bl (nomark _))))) (pss_one (ps_ret pe_bl)) pss_nil))
      (pss_cons (ps_for PassesOwn.never rfl (pi_tupK (K := K) rfl (pe_tupS (pa_cons (pv 3) (pa_cons (pe_df D_law_bent (hr.mono (by decide)) rfl (pa_cons (pv 0) (pa_cons (pv 4) pa_nil))) (pa_cons (pe_callTy (call_listS K rfl) (by rfl) T.list EW.boot_list (pa_cons (pv 4) pa_nil)) (pa_cons (pe_slice (sl_tupS K rfl) (pv 4) po_none (po_some pe_int)) (pa_cons pe_non pa_nil))))))) (pg_name (i := 6) Right.nd rfl (Or.inl rfl)) (pss_cons (ps_cut (ps_set (i := 7) Right.nd rfl (Or.inl rfl) (pe_and (pe_callB (call_isiE K rfl) (by rfl) T.isinstance EW.boot_isinstance (pa_cons (pv 6) (pa_cons (pe_bltn (v := .ty "tuple") rfl T.tuple EW.boot_tuple rfl) pa_nil))) (pe_one (pe_cmpR op_eq (pe_callB (call_lenK K rfl) (by rfl) T.len PySem.boot_len (pa_cons (pv 6) pa_nil)) pe_int (nomark _))))))
      (pss_cons (ps_cut (ps_if (pt_val (pv 7)) (pss_one (ps_set (i := 7) Right.nd rfl (Or.inl rfl) (pe_cmpR (op_eqDK K rfl hr.units) (pe_df Dnormal (hr.mono (by decide)) rfl (pa_cons (pv 1) (pa_cons (pv 2) (pa_cons (pv 6) pa_nil)))) (pv 6) (nomark _)))) pss_nil))
      (pss_one (ps_if (pt_cmpR op_ne (pe_callB EW.call_repr_bl (by rfl) fRepr EW.boot_repr (pa_cons (pe_df Dis_normal (hr.mono (by decide)) rfl (pa_cons (pv 1) (pa_cons (pv 2) (pa_cons (pv 6) pa_nil)))) pa_nil)) (pe_callB EW.call_repr_bl (by rfl) fRepr EW.boot_repr (pa_cons (pv 7) pa_nil)) (nomark _)) (pss_one (ps_ret pe_bl)) pss_nil)))))
      (pss_one (ps_ret pe_bl)))))))))))), ?_⟩
    refine ⟨fun σ' H' => ∃ (us : Addr) (S : Shp) (p : Int), σ' = [some (.ref di), some (.ref us), some (.int p), none, none, none, none, none] ∧ EW.Kept di H H' ∧ Dc H' di (n + 21) ∧ ShpAt K H' (.ref us) S ∧ Drawn S ∧ 1 ≤ p ∧ p ≤ 12, ?_, ?_⟩
    · refine ⟨_, rfl, di, 2, n, rfl, D, by omega, by decide, by decide, fun us S H1 nu hS dr _ k1 D1 => ?_⟩
      refine ⟨_, rfl, (by show 6 ≤ sizeLine; decide), fun q H2 n2 s2 e2 => nil_ ?_⟩
      refine ⟨di, q, _, _, rfl, D1.same s2, by omega, .inl ⟨SqL.of e2, D1.nn n2⟩, by decide, by decide, fun v H3 hv k3 D3 => ?_⟩
      obtain ⟨p, rfl, p1, p2⟩ : ∃ p : Int, v = .int p ∧ 1 ≤ p ∧ p ≤ 12 := by
        simp only [List.mem_cons, List.not_mem_nil, or_false] at hv
        rcases hv with rfl | rfl | rfl | rfl | rfl | rfl <;> exact ⟨_, rfl, by decide, by decide⟩
      obtain ⟨ds, hds⟩ := (D1.same s2).lst
      exact nil_ ⟨_, _, rfl, us, S, p, rfl, k1.trans ((kept_of s2).trans k3), D3.mono (by omega), (hS.same s2).kept hds k3, dr, p1, p2⟩
    rintro σ' H1 ⟨us, S, p, rfl, k1, D1, hS, dr, p1, p12⟩
    have p4 : p ≤ 400 := by omega
    have hp : 0 < p := by omega
    have so := dr.ok
    have tl := so.tms
    obtain ⟨ds1, hds1⟩ := D1.lst
    refine ⟨fun σ' H' => ∃ (v : Addr) (z : Zn.Z), σ' = [some (.ref di), some (.ref us), some (.int p), some (.ref v), none, none, none, none] ∧ EW.Kept di H H' ∧ Dc H' di (n + 221) ∧ ShpAt K H' (.ref us) S ∧ ZnV K H' (.ref v) z ∧ ZOk S p z ∧ Zn.ZMg 1000000000000 z, ?_, ?_⟩
    · refine ⟨_, rfl, _, rfl, _, rfl, con1 ⟨di, _, S, p, 9, _, rfl, D1, by omega, hS, dr, p1, p4, by decide, by decide, fun v z H2 hz zo zm k2 D2 => ?_⟩⟩
      obtain ⟨_, _, _, _, ⟨e1, rfl, _⟩, _⟩ := id hz
      exact ⟨e1, z, rfl, k1.trans k2, D2.mono (by omega), hS.kept hds1 k2, hz, zo, zm⟩
    clear k1 hS hds1 D1
    rintro σ' H2 ⟨v, z, rfl, k2, D2, hS, hz, zo, zm⟩
    have zl := zo.ns
    have hres := zok_res zo
    have t2 := tabs_kept hT hds0 k2
    have kn2 := kn_kept k2
    clear k2
    refine ⟨fun σ' H' => ∃ f : V, σ' = [some (.ref di), some (.ref us), some (.int p), some (.ref v), some f, none, none, none] ∧ Same H2 H' ∧ ZoV K H' f (Zn.norm p z), ?_, ?_⟩
    · exact ⟨_, rfl, _, rfl, _, rfl, .ref us, .ref v, S, p, z, rfl, hS, so, p1, p4, hz, zo, outZ fun f H3 s3 hf => ⟨f, rfl, s3, hf⟩⟩
    rintro σ' H3 ⟨f, rfl, s3, hf⟩
    refine ⟨fun σ' H' => ∃ (f : Addr) (y : Zn.Z), σ' = [some (.ref di), some (.ref us), some (.int p), some (.ref v), some (.ref f), none, none, none] ∧ Same H2 H' ∧ ZnV K H' (.ref f) y ∧ Zn.norm p z = some y, ?_, ?_⟩
    · cases hq : Zn.norm p z with
      | none =>
        rw [hq] at hf
        cases hf
        refine ⟨_, rfl, _, rfl, iteT ?_⟩
        refine ⟨_, rfl, _, rfl, iteF ?_⟩
        refine ⟨_, rfl, _, rfl, p, _, z, rfl, hp, p4, hz.same s3, hres, by omega, fun H4 s4 => ?_⟩
        rw [hq]
        have s24 := s3.trans s4
        refine ⟨_, rfl, iteF ?_⟩
        refine ⟨_, rfl, _, rfl, _, rfl, .ref us, .ref v, S, p, some z, rfl, hS.same s24, so, p1, p4, ⟨hz.same s24, zo⟩, fun H5 s5 => ?_⟩
        have s25 := s24.trans s5
        have e0 : isN p (some z) = false := by
          cases c : isN p (some z) with
          | false => rfl
          | true =>
            rw [(isN_iff p z).mp c] at hq
            cases hq
        rw [e0]
        refine ⟨_, rfl, ?_⟩
        exact k H5 (kn_trans kn2 (kn_ext (.of s25))) (t2.ext s25) ((D2.same s25).mono (by omega))
      | some y =>
        rw [hq] at hf
        have hf : ZnV K H3 f y := hf
        obtain ⟨_, _, _, _, ⟨e2, rfl, _⟩, _⟩ := id hf
        refine ⟨_, rfl, _, rfl, iteF ?_⟩
        refine ⟨_, rfl, _, rfl, p, _, z, rfl, hp, p4, hz.same s3, hres, by omega, fun H4 s4 => ?_⟩
        rw [hq]
        exact ⟨_, rfl, iteF ⟨e2, y, rfl, s3.trans s4, hf.same s4, rfl⟩⟩
    clear s3 hf f
    rintro σ' H3 ⟨f, y, rfl, s3, hy, hq⟩
    have N := (Zn.norm_spec hp (by omega) hres).2 y hq
    have yo := zok_norm so zo hq
    have yl := yo.ns
    have TD := Zn.told (F := 0 - 10000000000000000) hp (by omega) hres (by decide) zm hq (by omega)
    obtain ⟨hP, hG, hN⟩ := TD
    refine ⟨fun σ' H' => σ' = [some (.ref di), some (.ref us), some (.int p), some (.ref v), some (.ref f), none, none, none] ∧ H' = H3, ?_, ?_⟩
    · obtain ⟨e1, a1, b1, c1, us1, e, g11, g12, _⟩ := ix_same (hz.same s3)
      cases e
      obtain ⟨e2, a2, b2, c2, us2, e, g21, g22, _⟩ := ix_same hy
      cases e
      refine ⟨_, rfl, f, _, _, _, rfl, rfl, g21, rfl, _, rfl, v, _, _, _, rfl, rfl, g11, rfl, ?_⟩
      rw [N.vs] at g22
      refine neSame (d := .tuple (z.vs.map PyData.str)) (.tup g22 (strs_dp _)) (.tup g12 (strs_dp _)) (tup_shaped _ (zok_names so zo)) (by rw [PyData.eqv, strs_eqv]; exact decide_eq_true rfl) ⟨_, rfl, iteF ⟨rfl, rfl⟩⟩
    rintro σ' H3' ⟨rfl, rfl⟩
    refine ⟨fun σ' H' => σ' = [some (.ref di), some (.ref us), some (.int p), some (.ref v), some (.ref f), none, none, none] ∧ Same H2 H' ∧ ZnV K H' (.ref f) y, ?_, ?_⟩
    · obtain ⟨e1, a1, b1, c1, us1, e, g11, g12, g13, g14, g15⟩ := ix_same hy
      cases e
      obtain ⟨e2, a2, b2, c2, us2, e, g21, g22, g23, g24, g25⟩ := ix_same (hz.same s3)
      cases e
      have hul1 := Paired.length g14
      have hul2 := Paired.length g24
      refine ⟨_, rfl, f, _, _, _, rfl, rfl, g11, rfl, b1, rfl, ⟨_, g13⟩, fun D1 hD => ?_⟩
      refine loop_tup (xs := us1) (fun i H' => H' D1 = some (.lst ((y.ss.take i).map fun s => ob s.res)) ∧ Same H3' H') ⟨upd_same, upd_new hD⟩ ?_ ?_ ?_
      · rintro i H9 _ ⟨_, s9⟩
        exact SqT.same g13 s9
      · rintro i xo H9 ho ⟨eD, s9⟩
        obtain ⟨⟨r, lo, hi⟩, hq, sx⟩ := pr_get g14 ho
        obtain ⟨ax, rfl, hX⟩ := Tp.same sx s9
        have hi : i < us1.length := (List.getElem?_eq_some_iff.mp ho).1
        refine ⟨rfl, ?_⟩
        refine ⟨_, rfl, ax, _, _, _, rfl, rfl, hX, rfl, ?_⟩
        refine ⟨_, eD, by rw [List.length_map, List.length_take]; omega, ?_, same_upd s9 hD⟩
        rw [upd_same, List.take_add_one, hq, List.map_append]
        rfl
      · rintro H9 ⟨eD, s9⟩
        rw [List.take_of_length_le (by omega)] at eD
        have s29 := s9
        have eD1 := eD
        refine ⟨_, rfl, v, _, _, _, rfl, rfl, SqT.same g21 s9, rfl, b2, rfl, ⟨_, SqT.same g23 s9⟩, fun D2 hD => ?_⟩
        refine loop_tup (xs := us2) (fun i H' => H' D2 = some (.lst ((z.ss.take i).map fun s => ob s.res)) ∧ Same H9 H') ⟨upd_same, upd_new hD⟩ ?_ ?_ ?_
        · rintro i H7 _ ⟨_, s7⟩
          exact SqT.same (SqT.same g23 s29) s7
        · rintro i xo H7 ho ⟨eD, s7⟩
          obtain ⟨⟨r, lo, hi⟩, hq, sx⟩ := pr_get (Sns.same g24 s29) ho
          obtain ⟨ax, rfl, hX⟩ := Tp.same sx s7
          have hi : i < us2.length := (List.getElem?_eq_some_iff.mp ho).1
          refine ⟨rfl, ?_⟩
          refine ⟨_, rfl, ax, _, _, _, rfl, rfl, hX, rfl, ?_⟩
          refine ⟨_, eD, by rw [List.length_map, List.length_take]; omega, ?_, same_upd s7 hD⟩
          rw [upd_same, List.take_add_one, hq, List.map_append]
          rfl
        · rintro H7 ⟨eD, s7⟩
          rw [List.take_of_length_le (by omega)] at eD
          refine ⟨.list (y.ss.map fun s => od s.res), .list (z.ss.map fun s => od s.res), .lst (SqL.of (s7 _ _ eD1)) (ods_dp _), .lst (SqL.of eD) (ods_dp _), ods_shaped _, ods_shaped _, _, rfl, ?_⟩
          rw [ods_eqv N.res]
          exact iteN rfl ⟨rfl, s3.trans (s29.trans s7), hy.same (s29.trans s7)⟩
    clear s3 hy
    rintro σ' H4 ⟨rfl, s4, hy⟩
    -- all bounds are right
    refine ⟨fun σ' H' => σ' = [some (.ref di), some (.ref us), some (.int p), some (.ref v), some (.ref f), none, none, none] ∧ LamX.ExtN H2 H' ∧ LamX.Tabs (LT PT) H' ∧ ZnV K H' (.ref f) y, ?_, ?_⟩
    · refine ⟨_, rfl, _, rfl, _, rfl, p, .ref v, .ref f, z, y, rfl, p1, p4, hz.same s4, hy, by omega, hres, by omega, hP, hG, hN, t2.ext s4, fun H5 x5 t5 => ?_⟩
      exact ⟨_, rfl, iteF ⟨rfl, same_ext s4 x5, t5, znV_ext hy x5⟩⟩
    clear s4 hy t2
    rintro σ' H5 ⟨rfl, x5, t5, hy⟩
    have hS5 := shp_ext hS x5
    have hz5 := znV_ext hz x5
    have D5 := dc_ext D2 x5
    have kn5 := kn_trans kn2 (kn_ext x5)
    clear hS hz D2 kn2 x5
    obtain ⟨ds5, hds5⟩ := D5.lst
    refine ⟨fun σ' H' => σ' = [some (.ref di), some (.ref us), some (.int p), some (.ref v), some (.ref f), none, none, none] ∧ EW.Kept di H5 H' ∧ Dc H' di (n + 321), ?_, ?_⟩
    · refine ⟨_, rfl, _, rfl, _, rfl, _, rfl, _, rfl, di, .ref us, .ref v, .ref f, S, p, _, z, y, rfl, D5, by omega, hS5, so, p1, p12, hz5, zo, hy, yo, N.vs, fun ts hl => ?_, fun H6 k6 D6 => ⟨_, rfl, iteF ⟨rfl, k6, D6.mono (by omega)⟩⟩⟩
      rw [Bool.eq_iff_iff, inZ_iff (by omega) (by omega), inZ_iff (by omega) (by omega), N.rows]
    rintro σ' H6 ⟨rfl, k6, D6⟩
    have hS6 := hS5.kept hds5 k6
    have hz6 := hz5.kept hds5 k6
    have hy6 := hy.kept hds5 k6
    have t6 := tabs_kept t5 hds5 k6
    have kn6 := kn_trans kn5 (kn_kept k6)
    clear hS5 hz5 hy t5 kn5 k6 hds5
    refine ⟨fun σ' H' => σ' = [some (.ref di), some (.ref us), some (.int p), some (.ref v), some (.ref f), none, none, none] ∧ Same H6 H', ?_, ?_⟩
    · refine ⟨_, rfl, _, rfl, _, rfl, .ref us, .ref f, S, p, y, rfl, hS6, so, p1, p4, hy6, yo, outZ fun g H7 s7 hg => ?_⟩
      rw [N.self] at hg
      refine ⟨_, rfl, neZ hg (hy6.same s7) (zok_names so yo) ⟨_, rfl, iteF ?_⟩⟩
      refine ⟨_, rfl, _, rfl, _, rfl, .ref us, .ref f, S, p, some y, rfl, hS6.same s7, so, p1, p4, ⟨hy6.same s7, yo⟩, fun H8 s8 => ?_⟩
      rw [(isN_iff p y).mpr N.self]
      exact ⟨_, _, rfl, rfl, _, rfl, iteN rfl ⟨rfl, s7.trans s8⟩⟩
    rintro σ' H7 ⟨rfl, s7⟩
    have hS7 := hS6.same s7
    have hz7 := hz6.same s7
    have hy7 := hy6.same s7
    have t7 := t6.ext s7
    have D7 := D6.same s7
    have kn7 := kn_trans kn6 (kn_ext (.of s7))
    clear hS6 hz6 hy6 t6 D6 kn6 s7
    -- the five values
    obtain ⟨ds7, hds7⟩ := D7.lst
    refine ⟨_, rfl, _, rfl, _, rfl, nil_ ⟨di, .ref f, S, p, _, y, rfl, D7, by omega, hy7, yo, tl, p1, fun b bz H8 hb bo k8 D8 => ?_⟩⟩
    have hS8 := hS7.kept hds7 k8
    have hz8 := hz7.kept hds7 k8
    have hy8 := hy7.kept hds7 k8
    have t8 := tabs_kept t7 hds7 k8
    have kn8 := kn_trans kn7 (kn_kept k8)
    clear hS7 hz7 hy7 t7 kn7 k8 D7 hds7
    obtain ⟨f', a2, b2, c2, us2, e, g21, g22, g23, g24, g25⟩ := ix_same hy8
    cases e
    refine ⟨_, rfl, nil_ ⟨f, _, rfl, .inr g21, fun l H9 n9 s9 q9 => ?_⟩⟩
    have g9 := SqT.same g21 s9
    refine ⟨_, rfl, _, rfl, f, _, rfl, g9, (fun ⟨_, z⟩ => by rw [show HT.sIx _ _ (some 2) = _ from HT.sIx_nat _ _ 2] at z; exact absurd z (by show ¬ (2 = 3); decide)), fun t H10 n10 s10 q10 => ?_⟩
    refine ⟨(by show 5 ≤ sizeLine; omega), fun q H11 n11 s11 q11 => ?_⟩
    have sA : Same H8 H11 := s9.trans (s10.trans s11)
    have hq11 : SqT K H11 q [V.ref v, b, V.ref l, V.ref t, V.non] := SqT.of q11
    refine ⟨q, rfl, ⟨_, hq11⟩, ?_⟩
    have items : ∀ x ∈ [V.ref v, b, V.ref l, V.ref t, V.non], ∃ o, ItV K H11 S p x o := by
      intro x hx
      simp only [List.mem_cons, List.not_mem_nil, or_false] at hx
      rcases hx with rfl | rfl | rfl | rfl | rfl
      · exact ⟨some z, hz8.same sA, zo⟩
      · exact ⟨some bz, hb.same sA, bo⟩
      · exact ⟨none, .inr (.inl ⟨l, _, rfl, (s10.trans s11) _ _ q9⟩)⟩
      · exact ⟨none, .inr (.inr ⟨t, [V.ref a2, V.ref b2], rfl, SqT.of (s11 _ _ q10), rfl⟩)⟩
      · exact ⟨none, .inl rfl⟩
    have hS11 := hS8.same sA
    have t11 := t8.ext sA
    have kn11 := kn_trans kn8 (kn_ext (.of sA))
    have D11 := D8.same sA
    clear hS8 hz8 hy8 t8 kn8 D8 hb bo g21 g22 g23 g24 g25 q9 g9 q10 q11 s9 s10 s11 n9 n10 n11 sA
    refine for_tup (xs := [V.ref v, b, V.ref l, V.ref t, V.non]) (fun i σ' H' => ∃ u6 u7 : Option V, σ' = [some (.ref di), some (.ref us), some (.int p), some (.ref v), some (.ref f), none, u6, u7] ∧ Same H11 H') ⟨none, none, rfl, Same.refl _⟩ ?_ ?_ ?_
    · rintro i σ' H' _ ⟨u6, u7, rfl, s'⟩
      exact SqT.same hq11 s'
    · rintro i x σ' H' hx ⟨u6, u7, rfl, s'⟩
      obtain ⟨o, io0⟩ := items x (List.mem_of_getElem? hx)
      have io : ItV K H' S p x o := ItV.same io0 s'
      have hS' := hS11.same s'
      refine ⟨fun σ2 H2' => σ2 = [some (.ref di), some (.ref us), some (.int p), some (.ref v), some (.ref f), none, some x, some (.bl o.isSome)] ∧ H2' = H', ?_, ?_⟩
      · cases o with
        | none =>
          rcases io with rfl | ⟨a, xs, rfl, h⟩ | ⟨a, xs, rfl, h, l2⟩
          · refine ⟨_, rfl, _, _, .type "NoneType", _, false, rfl, .ty "tuple", .base .non, kit_ty kbN, _, rfl, iteF ⟨rfl, rfl⟩⟩
          · refine ⟨_, rfl, _, _, .type "list", _, false, rfl, .ty "tuple", .base (.lst h), kit_ty kbL, _, rfl, iteF ⟨rfl, rfl⟩⟩
          · refine ⟨_, rfl, _, _, .type "tuple", _, true, rfl, .ty "tuple", tyT h, kit_ty kb4, _, rfl, iteT ⟨_, rfl, _, _, rfl, .inr ⟨_, h, rfl⟩, rfl, ?_⟩⟩
            rw [l2]
            exact ⟨rfl, rfl⟩
        | some w =>
          obtain ⟨e3, a3, b3, c3, us3, rfl, h3, _⟩ := ix_same io.1
          refine ⟨_, rfl, _, _, .type "tuple", _, true, rfl, .ty "tuple", tyT h3, kit_ty kb4, _, rfl, iteT ⟨_, rfl, _, _, rfl, .inr ⟨_, h3, rfl⟩, rfl, ⟨rfl, rfl⟩⟩⟩
      rintro σ2 H2' ⟨rfl, rfl⟩
      refine ⟨fun σ2 H2' => σ2 = [some (.ref di), some (.ref us), some (.int p), some (.ref v), some (.ref f), none, some x, some (.bl (isN p o))] ∧ Same H11 H2', ?_, ?_⟩
      · cases o with
        | none => exact ⟨_, rfl, _, rfl, iteF ⟨rfl, s'⟩⟩
        | some w =>
          refine ⟨_, rfl, _, rfl, iteT ?_⟩
          refine ⟨_, rfl, _, rfl, _, rfl, .ref us, x, S, p, w, rfl, hS', so, p1, p4, io.1, io.2, outZ fun g H2' s2 hg => ?_⟩
          have iw := io.1.same s2
          have nw := zok_names so io.2
          cases hn : Zn.norm p w with
          | none =>
            rw [hn] at hg
            cases hg
            refine ⟨_, rfl, eqZn iw nw ?_⟩
            have e0 : isN p (some w) = false := by
              simp only [isN, hn]
            rw [e0]
            exact ⟨rfl, s'.trans s2⟩
          | some y' =>
            rw [hn] at hg
            refine ⟨_, rfl, eqZg hg iw (zok_names so (zok_norm so io.2 hn)) nw ?_⟩
            have e0 : isN p (some w) = PyData.eqv (znD y') (znD w) := by
              simp only [isN, hn]
            rw [e0]
            exact ⟨rfl, s'.trans s2⟩
      rintro σ2 H2' ⟨rfl, s2⟩
      have io2 : ItV K H2' S p x o := ItV.same io0 s2
      refine ⟨_, rfl, _, rfl, _, rfl, .ref us, x, S, p, o, rfl, hS11.same s2, so, p1, p4, ItV.elt io2, fun H3 s3 => ?_⟩
      refine nil_ ⟨_, rfl, _, rfl, nil_ ⟨_, rfl, ?_⟩⟩
      exact ⟨rfl, _, rfl, iteN (by simp) ⟨_, _, rfl, s2.trans s3⟩⟩
    · rintro σ' H' ⟨u6, u7, rfl, s'⟩
      exact k H' (kn_trans kn11 (kn_ext (.of s'))) (t11.ext s') ((D11.same s').mono (by omega))
end
end TM
end

section
set_option maxHeartbeats 4000000
namespace TM
open PySem PySem.Spec PyProof.Rows L2 EW
abbrev NLaw : List Str := ["_law_script", "_law_spot", "_law_dice_here", "_law_turn", "_law_two", "_law_free", "_law_told", "_law_zone_here", "_law_due"]
theorem Law : FnScope NLaw ["_law_script"] (defScope sLaw) := ⟨rfl, rfl, rfl, by decide +kernel, rfl, by decide +kernel, by decide +kernel⟩
abbrev sF : Rn.Sp3 := ⟨none, none, none⟩
abbrev S2 : Shp := [("a", .time), ("b", .time)]
abbrev z1 : Zn.Z := ⟨[], [⟨some 0, none, none⟩, ⟨none, some 1, some 3⟩], (some 0, none)⟩
abbrev y1 : Zn.Z := ⟨[], [⟨some 0, none, some 0⟩, ⟨none, some 1, some 3⟩], (some 1, none)⟩
abbrev z2 : Zn.Z := ⟨[], [⟨some 0, none, none⟩, ⟨some 5, none, none⟩], (some (-4), some 4)⟩
abbrev z3 : Zn.Z := ⟨[], [⟨some 3, none, none⟩, sF], (some 0, some 0)⟩
abbrev z4 : Zn.Z := ⟨[], [⟨some 399, some 0, some 100000000000⟩, sF], (none, some 1)⟩
abbrev y4 : Zn.Z := ⟨[], [⟨some 399, some 399, some 99999999999⟩, ⟨none, none, some 100000000000⟩], (none, some 1)⟩
theorem n1 : Zn.norm 5 z1 = some y1 := rfl
theorem n2 : Zn.norm 10 z2 = none := rfl
theorem n3 : Zn.norm 7 z3 = some z3 := rfl
theorem n4 : Zn.norm 400 z4 = some y4 := rfl
theorem tm2 : tms S2 = (["a", "b"] : List Str) := List.mergeSort_of_pairwise (by decide +kernel)
theorem dm2 : dms S2 = ([] : List Str) := List.mergeSort_of_pairwise (by decide +kernel)
theorem ok2 : ShpOk S2 := by
  refine ⟨by decide +kernel, by decide +kernel, fun q hq l e => ?_, by rw [tm2]; decide, by rw [tm2]; decide, by decide⟩
  simp only [List.mem_cons, List.not_mem_nil, or_false] at hq
  rcases hq with rfl | rfl <;> cases e
theorem zok_free {S : Shp} {p : Int} {z : Zn.Z} (hd : dms S = []) (hv : z.vs = []) (hn : z.ss.length = (tms S).length) (hr : (z.ss.all fun s => match s.res with
    | none => true
    | some r => decide (0 ≤ r ∧ r < p)) = true) (hg : (tms S).length = 2 ∨ z.g = (none, none)) : ZOk S p z := by
  refine ⟨by rw [hv, hd], fun i n x h1 h2 => ?_, hn, fun s hs r e => ?_, hg⟩
  · rw [hd] at h1
    cases h1
  · have q := List.all_eq_true.mp hr s hs
    rw [e] at q
    exact of_decide_eq_true q
theorem zo1 : ZOk S2 5 z1 := zok_free dm2 rfl (by rw [tm2]; rfl) (by decide) (.inl (by rw [tm2]; rfl))
theorem zo2 : ZOk S2 10 z2 := zok_free dm2 rfl (by rw [tm2]; rfl) (by decide) (.inl (by rw [tm2]; rfl))
theorem zo3 : ZOk S2 7 z3 := zok_free dm2 rfl (by rw [tm2]; rfl) (by decide) (.inl (by rw [tm2]; rfl))
theorem zo4 : ZOk S2 400 z4 := zok_free dm2 rfl (by rw [tm2]; rfl) (by decide) (.inl (by rw [tm2]; rfl))
section
variable {K : W.Frag} {H : Hp} {v : V}
theorem ob_of {o : Option Int} (h : Dp K H v (od o)) : v = ob o := by
  cases o with
  | none => cases h; rfl
  | some i => cases h; rfl
theorem tp_pair (q : OO) (h : Dp K H v (.tuple [od q.1, od q.2])) : Tp K H v [ob q.1, ob q.2] := by
  cases h with
  | tup hs ha =>
    cases ha with
    | cons h1 ha =>
      cases ha with
      | cons h2 ha =>
        cases ha
        rw [← ob_of h1, ← ob_of h2]
        exact ⟨_, rfl, hs⟩
theorem sns_of : ∀ {ss : List Rn.Sp3} {us : List V}, DpAll K H us (ss.map spanD) → Sns K H us ss
  | [], _, .nil => .nil
  | s :: ss, _, .cons h t => .cons (sn_of_dp s h) (sns_of t)
theorem fr_dp (h : Sn K H v sF) : Dp K H v (.tuple [.none, .none, .none]) := by
  obtain ⟨a, rfl, h⟩ := h
  exact .tup h (.cons .non (.cons .non (.cons .non .nil)))
theorem strs_of : ∀ {xs : List Str} {us : List V}, DpAll K H us (xs.map PyData.str) → us = xs.map V.str
  | [], _, .nil => rfl
  | x :: xs, _, .cons h t => by
    cases h
    rw [strs_of t]
    rfl
/-- a written zone -/
theorem zn_of {w : V} (ss : List Rn.Sp3) (g : OO) (d : Dp K H w (.tuple [.tuple [], .tuple (ss.map spanD), .tuple [od g.1, od g.2]])) : ZnV K H w ⟨[], ss, g⟩ := by
  cases d with
  | tup h ha =>
    cases ha with
    | cons d1 ha =>
      cases ha with
      | cons d2 ha =>
        cases ha with
        | cons d3 ha =>
          cases ha
          cases d1 with
          | tup hs hn =>
            cases hn
            cases d2 with
            | tup hs2 ha2 => exact ⟨_, _, _, _, ⟨_, rfl, h⟩, hs, hs2, sns_of ha2, tp_pair g d3⟩
/-- one that is put together -/
theorem zn_put {w1 w3 : V} {q6 q8 : Addr} (s1 s2 : Rn.Sp3) (g : OO) (e8 : H q8 = some (.tup [w1, .ref q6, w3])) (d1 : Dp K H w1 (.tuple [])) {x1 x2 : V} (e6 : H q6 = some (.tup [x1, x2])) (h1 : Sn K H x1 s1) (h2 : Sn K H x2 s2) (d3 : Dp K H w3 (.tuple [od g.1, od g.2])) : ZnV K H (.ref q8) ⟨[], [s1, s2], g⟩ := by
  cases d1 with
  | tup hs hn =>
    cases hn
    exact ⟨_, q6, w3, _, Tp.of e8, hs, SqT.of e6, .cons h1 (.cons h2 .nil), tp_pair g d3⟩
end
theorem p11 : ((10 : Int) ^ (11 : Int).toNat) = 100000000000 := by decide
theorem kn_new {H H1 H2 : Hp} {d : Addr} (s : Same H H1) (n : H d = none) (k : EW.KeptN d H1 H2) : LamX.ExtN H H2 := fun b o e t => k b o (fun z => by rw [z, n] at e; cases e) (s b o e) t
theorem tabs_nil {PT : PT2} {H : Hp} (h1 : H PT.1 = some (.tbl #[])) (h2 : H PT.2 = some (.tbl #[])) : LamX.Tabs (LT PT) H := fun p hp => by
  rcases List.mem_cons.mp hp with e | e
  · rw [e]
    exact LamX.TabS.nil h1
  · rw [List.mem_singleton.mp e]
    exact LamX.TabS.nil h2
theorem con2 {v : V} {t : TA} {σ : L2.St} {H : Hp} {R : List V → Hp → Prop} (h : t σ H fun xs H' => R (v :: xs) H') : tCons (tC v) t σ H R := h
abbrev dT : PyData := .list [znD y1, .none, znD z3, znD y4]
theorem eqT {K : W.Frag} {H : Hp} {x y : V} {Q : VK} (hx : Dp K H x dT) (hy : Dp K H y dT) (k : Q (.bl true) H) : rEqD K x y H Q :=
  ⟨_, _, hx, hy, by decide +kernel, by decide +kernel, by rw [show PyData.eqv dT dT = true from by decide +kernel]; exact k⟩
def spLaw (K : W.Frag) (PT : PT2) : Sp := fun vs H Q _ => ∃ (a : Addr) (ns : List Int), vs = [.ref a] ∧ SqL K H a (ns.map V.int) ∧ ns.length ≤ 63 ∧ LamX.Tabs (LT PT) H ∧ ∀ H', Q (.bl true) H'
section
variable {P : Program} {w : World} {K : W.Frag} {mg : Str → Option Value} {base : Heap}
theorem ok_law {fd : FuncData} (F : FnP K "law" sLaw fd) (T : Fre mg) {PT : PT2} (Dnormal : Df P w K mg base 7 "normal" ["shape", "period", "zone"] (spNormal K)) (D_law_dice : Df P w K mg base 1 "_law_dice" ["_law_script", "_law_spot"] (spDice K)) (D_law_right : Df P w K mg base 8 "_law_right" ["_law_dice_here"] (spRight PT)) :
    FnOk P w K mg base CX0 9 (He.ga K "law") fd ["_law_script"] (spLaw K PT) := by
  refine F.ok Law (fun vs H Q E h => ?_) (fun cdv A outer s H vs Q E hr h => ?_)
  · obtain ⟨a, ns, rfl, _⟩ := h
    rfl
  · obtain ⟨a, ns, rfl, hS, hlen, hT, k⟩ := h
    have hbig : (64 : Nat) ≤ sizeLine := by decide
    refine ⟨_, PSs.nox (pss_cons (ps_cut (ps_for PassesOwn.never rfl (pi_range1 rfl T.range (pa_cons (pe_callB (call_max2 rfl) (by rfl) T.max EW.boot_max (pa_cons pe_int (pa_cons (pe_callB (call_min2 rfl) (by rfl) T.min EW.boot_min (pa_cons pe_int (pa_cons (pe_callB (call_lenK K rfl) (by rfl) T.len PySem.boot_len (pa_cons (pv 0) pa_nil)) pa_nil))) pa_nil))) pa_nil)) (pg_name (i := 1) Law.nd rfl (Or.inl rfl)) (pss_cons (ps_set (i := 2) Law.nd rfl (Or.inl rfl) (pe_df D_law_dice (hr.mono (by decide)) rfl (pa_cons (pv 0) (pa_cons (pv 1) pa_nil))))
      (pss_one (ps_for PassesOwn.never rfl (pi_range1 rfl T.range (pa_cons pe_int pa_nil)) (pg_name (i := 3) Law.nd rfl (Or.inl rfl)) (pss_one (ps_if (pt_not (pt_val (pe_df D_law_right (hr.mono (by decide)) rfl (pa_cons (pv 2) pa_nil)))) (pss_one (ps_ret pe_bl)) pss_nil)))))))
      (pss_cons (ps_cut (ps_par (i := 4) (j := 5) (by rfl) Law.nd rfl rfl (by decide) rfl rfl (pa_cons (pe_disp (pps_cons pe_str pe_str (pps_cons pe_str pe_str pps_nil)) rfl rfl (fun z => nomatch z) (by decide)) (pa_cons (pl_tup (K := K) (by show 3 ≤ sizeLine; decide) (pls_cons pl_non (pls_cons pl_non (pls_cons pl_non pls_nil)))) pa_nil)) (by rfl)))
      (pss_cons (ps_cut (ps_set (i := 6) Law.nd rfl (Or.inl rfl) (pe_lstS (pa_cons (pe_df Dnormal (hr.mono (by decide)) rfl (pa_cons (pv 4) (pa_cons pe_int (pa_cons (pl_tup (K := K) (by show 3 ≤ sizeLine; decide) (pls_cons (pl_tup (K := K) (by show 0 ≤ sizeLine; decide) pls_nil) (pls_cons (pl_tup (K := K) (by show 2 ≤ sizeLine; decide) (pls_cons (pl_tup (K := K) (by show 3 ≤ sizeLine; decide) (pls_cons pl_int (pls_cons pl_non (pls_cons pl_non pls_nil)))) (pls_cons (pl_tup (K := K) (by show 3 ≤ sizeLine; decide) (pls_cons pl_non (pls_cons pl_int (pls_cons pl_int pls_nil)))) pls_nil))) (pls_cons (pl_tup (K := K) (by show 2 ≤ sizeLine; decide) (pls_cons pl_int (pls_cons pl_non pls_nil))) pls_nil)))) pa_nil)))) pa_nil))))
      (pss_cons (ps_cut (ps_set (i := 7) Law.nd rfl (Or.inl rfl) (pl_tup (K := K) (by show 3 ≤ sizeLine; decide) (pls_cons (pl_tup (K := K) (by show 0 ≤ sizeLine; decide) pls_nil) (pls_cons (pl_tup (K := K) (by show 2 ≤ sizeLine; decide) (pls_cons (pl_tup (K := K) (by show 3 ≤ sizeLine; decide) (pls_cons pl_int (pls_cons pl_non (pls_cons pl_non pls_nil)))) (pls_cons (pl_tup (K := K) (by show 3 ≤ sizeLine; decide) (pls_cons pl_int (pls_cons pl_non (pls_cons pl_non pls_nil)))) pls_nil))) (pls_cons (pl_tup (K := K) (by show 2 ≤ sizeLine; decide) (pls_cons (pl_neg pl_int) (pls_cons pl_int pls_nil))) pls_nil))))))
      (pss_cons (ps_cut (ps_expr (pe_bm PySem.F.plainAttrs_list PySem.F.slot_list_append PySem.F.type_list_append mt_append (pv 6) (pa_cons (pe_df Dnormal (hr.mono (by decide)) rfl (pa_cons (pv 4) (pa_cons pe_int (pa_cons (pv 7) pa_nil)))) pa_nil))))
      (pss_cons (ps_cut (ps_expr (pe_bm PySem.F.plainAttrs_list PySem.F.slot_list_append PySem.F.type_list_append mt_append (pv 6) (pa_cons (pe_df Dnormal (hr.mono (by decide)) rfl (pa_cons (pv 4) (pa_cons pe_int (pa_cons (pe_tupS (pa_cons (pl_tup (K := K) (by show 0 ≤ sizeLine; decide) pls_nil) (pa_cons (pe_tupS (pa_cons (pl_tup (K := K) (by show 3 ≤ sizeLine; decide) (pls_cons pl_int (pls_cons pl_non (pls_cons pl_non pls_nil)))) (pa_cons (pv 5) pa_nil))) (pa_cons (pl_tup (K := K) (by show 2 ≤ sizeLine; decide) (pls_cons pl_int (pls_cons pl_int pls_nil))) pa_nil)))) pa_nil)))) pa_nil))))
      (pss_cons (ps_cut (ps_set (i := 7) Law.nd rfl (Or.inl rfl) (pe_tupS (pa_cons (pl_tup (K := K) (by show 0 ≤ sizeLine; decide) pls_nil) (pa_cons (pe_tupS (pa_cons (pe_tupS (pa_cons pe_int (pa_cons pe_int (pa_cons (pe_op op_powW pe_int pe_int) pa_nil)))) (pa_cons (pv 5) pa_nil))) (pa_cons (pl_tup (K := K) (by show 2 ≤ sizeLine; decide) (pls_cons pl_non (pls_cons pl_int pls_nil))) pa_nil))))))
      (pss_cons (ps_cut (ps_expr (pe_bm PySem.F.plainAttrs_list PySem.F.slot_list_append PySem.F.type_list_append mt_append (pv 6) (pa_cons (pe_df Dnormal (hr.mono (by decide)) rfl (pa_cons (pv 4) (pa_cons pe_int (pa_cons (pv 7) pa_nil)))) pa_nil))))
      (pss_cons (ps_cut (ps_set (i := 8) Law.nd rfl (Or.inl rfl) (pe_lstS (pa_cons (pl_tup (K := K) (by show 3 ≤ sizeLine; decide) (pls_cons (pl_tup (K := K) (by show 0 ≤ sizeLine; decide) pls_nil) (pls_cons (pl_tup (K := K) (by show 2 ≤ sizeLine; decide) (pls_cons (pl_tup (K := K) (by show 3 ≤ sizeLine; decide) (pls_cons pl_int (pls_cons pl_non (pls_cons pl_int pls_nil)))) (pls_cons (pl_tup (K := K) (by show 3 ≤ sizeLine; decide) (pls_cons pl_non (pls_cons pl_int (pls_cons pl_int pls_nil)))) pls_nil))) (pls_cons (pl_tup (K := K) (by show 2 ≤ sizeLine; decide) (pls_cons pl_int (pls_cons pl_non pls_nil))) pls_nil)))) (pa_cons pe_non pa_nil)))))
      (pss_cons (ps_cut (ps_expr (pe_bm PySem.F.plainAttrs_list PySem.F.slot_list_append PySem.F.type_list_append mt_append (pv 8) (pa_cons (pe_tupS (pa_cons (pl_tup (K := K) (by show 0 ≤ sizeLine; decide) pls_nil) (pa_cons (pe_tupS (pa_cons (pl_tup (K := K) (by show 3 ≤ sizeLine; decide) (pls_cons pl_int (pls_cons pl_non (pls_cons pl_non pls_nil)))) (pa_cons (pv 5) pa_nil))) (pa_cons (pl_tup (K := K) (by show 2 ≤ sizeLine; decide) (pls_cons pl_int (pls_cons pl_int pls_nil))) pa_nil)))) pa_nil))))
      (pss_one (ps_ret (pe_cmpR (op_eqDK K rfl hr.units) (pv 6) (pe_op op_catS (pv 8) (pe_lstS (pa_cons (pe_tupS (pa_cons (pl_tup (K := K) (by show 0 ≤ sizeLine; decide) pls_nil) (pa_cons (pe_tupS (pa_cons (pl_tup (K := K) (by show 3 ≤ sizeLine; decide) (pls_cons pl_int (pls_cons pl_int (pls_cons pl_int pls_nil)))) (pa_cons (pe_tupS (pa_cons pe_non (pa_cons pe_non (pa_cons (pe_op op_powW pe_int pe_int) pa_nil)))) pa_nil))) (pa_cons (pl_tup (K := K) (by show 2 ≤ sizeLine; decide) (pls_cons pl_non (pls_cons pl_int pls_nil))) pa_nil)))) pa_nil))) (nomark _)))))))))))))), ?_⟩
    refine ⟨fun σ' H' => ∃ u1 u2 u3 : Option V, σ' = [some (.ref a), u1, u2, u3, none, none, none, none, none], ?_, ?_⟩
    · refine ⟨_, rfl, _, (ns.map V.int).length, rfl, Or.inl ⟨_, hS, rfl⟩, _, _, rfl, _, _, rfl, _, rfl, ?_, ?_, ?_⟩
      · split <;> split <;> omega
      · rw [List.length_map]
        split <;> split <;> omega
      refine for_range (lo := 0) (fun i σ' H' => ∃ u1 u2 u3 : Option V, σ' = [some (.ref a), u1, u2, u3, none, none, none, none, none] ∧ LamX.ExtN H H' ∧ LamX.Tabs (LT PT) H') ⟨_, _, _, rfl, LamX.ExtN.refl H, hT⟩ ?_ ?_
      · rintro i σ' H1 hi ⟨u1, u2, u3, rfl, e1, t1⟩
        refine ⟨_, rfl, _, rfl, a, ns, _, rfl, sqL_ext hS e1, by omega, fun d H2 nd s2 D2 => ?_⟩
        refine ⟨4, rfl, by decide, by decide, ?_⟩
        refine for_range (lo := 0) (n := 4) (fun j σ' H' => ∃ u3 : Option V, σ' = [some (.ref a), some (.int (0 + (i : Int))), some (.ref d), u3, none, none, none, none, none] ∧ EW.KeptN d H2 H' ∧ LamX.Tabs (LT PT) H' ∧ Dc H' d (0 + 1000 * (j : Int))) ⟨u3, rfl, kn_refl, t1.ext s2, D2.mono (by omega)⟩ ?_ ?_
        · rintro j σ' H3 hj ⟨u3, rfl, k3, t3, D3⟩
          refine ⟨_, rfl, d, _, rfl, D3, by omega, t3, fun H4 k4 t4 D4 => ⟨_, rfl, iteF ?_⟩⟩
          exact ⟨_, rfl, kn_trans k3 k4, t4, D4.mono (by omega)⟩
        · rintro σ' H3 ⟨u3, rfl, k3, t3, D3⟩
          exact ⟨_, _, _, rfl, e1.trans (kn_new s2 nd k3), t3⟩
      · rintro σ' H1 ⟨u1, u2, u3, rfl, _, _⟩
        exact ⟨_, _, _, rfl⟩
    clear hS hT
    rintro σ' H1 ⟨u1, u2, u3, rfl⟩
    -- two, free
    refine ⟨fun σ' H' => ∃ us fr : V, σ' = [some (.ref a), u1, u2, u3, some us, some fr, none, none, none] ∧ ShpAt K H' us S2 ∧ Sn K H' fr sF, ?_, ?_⟩
    · refine fun p hp => ⟨upd_same, [(.inr "a", .str "time"), (.inr "b", .str "time")], rfl, by show 2 ≤ 15; decide, fun v4 H4 s4 d4 => nil_ ⟨_, _, rfl, .ref p, v4, rfl, ?_, sn_of_dp sF d4⟩⟩
      exact ⟨p, _, rfl, s4 _ _ upd_same, .cons ⟨rfl, rfl⟩ (.cons ⟨rfl, rfl⟩ .nil)⟩
    rintro σ' H2 ⟨us, fr, rfl, hS, hfr⟩
    -- told
    refine ⟨fun σ' H' => ∃ (l : Addr) (m1 : V), σ' = [some (.ref a), u1, u2, u3, some us, some fr, some (.ref l), none, none] ∧ ShpAt K H' us S2 ∧ Sn K H' fr sF ∧ H' l = some (.lst [m1]) ∧ ZnV K H' m1 y1, ?_, ?_⟩
    · refine ⟨_, rfl, con2 fun w3 H3 s3 d3 => nil_ ⟨us, w3, S2, 5, z1, rfl, hS.same s3, ok2, by decide, by decide, zn_of [⟨some 0, none, none⟩, ⟨none, some 1, some 3⟩] (some 0, none) d3, zo1, outZ fun m1 H4 s4 hm => ?_⟩⟩
      rw [n1] at hm
      have hm : ZnV K H4 m1 y1 := hm
      refine nil_ ⟨(by show 1 ≤ sizeLine; omega), fun l H5 n5 s5 e5 => ?_⟩
      have s25 := s3.trans (s4.trans s5)
      exact ⟨l, m1, rfl, hS.same s25, Tp.same hfr s25, e5, hm.same s5⟩
    clear hS hfr
    rintro σ' H2 ⟨l, m1, rfl, hS, hfr, el, h1⟩
    refine ⟨fun σ' H' => ∃ zh : V, σ' = [some (.ref a), u1, u2, u3, some us, some fr, some (.ref l), some zh, none] ∧ ShpAt K H' us S2 ∧ Sn K H' fr sF ∧ H' l = some (.lst [m1]) ∧ ZnV K H' m1 y1 ∧ ZnV K H' zh z2, ?_, ?_⟩
    · exact fun w3 H3 s3 d3 => ⟨w3, rfl, hS.same s3, Tp.same hfr s3, s3 _ _ el, h1.same s3, zn_of [⟨some 0, none, none⟩, ⟨some 5, none, none⟩] (some (-4), some 4) d3⟩
    clear hS hfr el h1
    rintro σ' H2 ⟨zh, rfl, hS, hfr, el, h1, hz⟩
    refine ⟨fun σ' H' => σ' = [some (.ref a), u1, u2, u3, some us, some fr, some (.ref l), some zh, none] ∧ ShpAt K H' us S2 ∧ Sn K H' fr sF ∧ H' l = some (.lst [m1, .non]) ∧ ZnV K H' m1 y1, ?_, ?_⟩
    · refine ⟨_, rfl, .inl ⟨rfl, _, SqL.of el⟩, _, rfl, con2 ⟨_, rfl, nil_ ⟨us, zh, S2, 10, z2, rfl, hS, ok2, by decide, by decide, hz, zo2, outZ fun m2 H3 s3 hm => ?_⟩⟩⟩
      rw [n2] at hm
      cases hm
      have el3 := s3 _ _ el
      refine nil_ ⟨l, _, _, rfl, rfl, el3, (by show 1 < sizeLine; omega), ?_⟩
      exact ⟨rfl, (hS.same s3).kept el3 Kept.upd, Tp.kept (Tp.same hfr s3) el3 Kept.upd, upd_same, (h1.same s3).kept el3 Kept.upd⟩
    clear hS hfr el h1 hz
    rintro σ' H2 ⟨rfl, hS, hfr, el, h1⟩
    refine ⟨fun σ' H' => ∃ m3 : V, σ' = [some (.ref a), u1, u2, u3, some us, some fr, some (.ref l), some zh, none] ∧ ShpAt K H' us S2 ∧ Sn K H' fr sF ∧ H' l = some (.lst [m1, .non, m3]) ∧ ZnV K H' m1 y1 ∧ ZnV K H' m3 z3, ?_, ?_⟩
    · refine ⟨_, rfl, .inl ⟨rfl, _, SqL.of el⟩, _, rfl, con2 fun w4 H4 s4 d4 w5 H5 s5 d5 => ⟨_, rfl, nil_ ⟨(by show 2 ≤ sizeLine; omega), fun q6 H6 n6 s6 e6 w7 H7 s7 d7 => nil_ ⟨(by show 3 ≤ sizeLine; omega), fun q8 H8 n8 s8 e8 => nil_ ?_⟩⟩⟩⟩
      have s58 := s6.trans (s7.trans s8)
      have s28 := s4.trans (s5.trans s58)
      refine ⟨us, .ref q8, S2, 7, z3, rfl, hS.same s28, ok2, by decide, by decide, zn_put ⟨some 3, none, none⟩ sF (some 0, some 0) e8 (dp_same (s5.trans s58) _ _ d4) ((s7.trans s8) _ _ e6) (sn_of_dp ⟨some 3, none, none⟩ (dp_same s58 _ _ d5)) (Tp.same hfr s28) (dp_same s8 _ _ d7), zo3, outZ fun m3 H9 s9 hm => ?_⟩
      rw [n3] at hm
      have hm : ZnV K H9 m3 z3 := hm
      have s29 := s28.trans s9
      have el9 := s29 _ _ el
      refine nil_ ⟨l, _, _, rfl, rfl, el9, (by show 2 < sizeLine; omega), ?_⟩
      exact ⟨m3, rfl, (hS.same s29).kept el9 Kept.upd, Tp.kept (Tp.same hfr s29) el9 Kept.upd, upd_same, (h1.same s29).kept el9 Kept.upd, hm.kept el9 Kept.upd⟩
    clear hS hfr el h1
    rintro σ' H2 ⟨m3, rfl, hS, hfr, el, h1, h3⟩
    refine ⟨fun σ' H' => ∃ zh : V, σ' = [some (.ref a), u1, u2, u3, some us, some fr, some (.ref l), some zh, none] ∧ Same H2 H' ∧ ZnV K H' zh z4, ?_, ?_⟩
    · refine fun w4 H4 s4 d4 => ⟨_, _, rfl, rfl, ⟨by decide, by decide⟩, nil_ ⟨(by show 3 ≤ sizeLine; omega), fun q5 H5 n5 s5 e5 => ⟨_, rfl, nil_ ⟨(by show 2 ≤ sizeLine; omega), fun q6 H6 n6 s6 e6 w7 H7 s7 d7 => nil_ ⟨(by show 3 ≤ sizeLine; omega), fun q8 H8 n8 s8 e8 => ?_⟩⟩⟩⟩⟩
      have e5 : H5 q5 = some (.tup [.int 399, .int 0, .int ((10 : Int) ^ (11 : Int).toNat)]) := e5
      rw [p11] at e5
      have s58 := s6.trans (s7.trans s8)
      have s28 := s4.trans (s5.trans s58)
      exact ⟨_, rfl, s28, zn_put ⟨some 399, some 0, some 100000000000⟩ sF (none, some 1) e8 (dp_same (s5.trans s58) _ _ d4) ((s7.trans s8) _ _ e6) (Tp.of (s58 _ _ e5)) (Tp.same hfr s28) (dp_same s8 _ _ d7)⟩
    rintro σ' H3 ⟨zh', rfl, s23, hz⟩
    refine ⟨fun σ' H' => ∃ m4 : V, σ' = [some (.ref a), u1, u2, u3, some us, some fr, some (.ref l), some zh', none] ∧ Sn K H' fr sF ∧ H' l = some (.lst [m1, .non, m3, m4]) ∧ ZnV K H' m1 y1 ∧ ZnV K H' m3 z3 ∧ ZnV K H' m4 y4, ?_, ?_⟩
    · refine ⟨_, rfl, .inl ⟨rfl, _, SqL.of (s23 _ _ el)⟩, _, rfl, con2 ⟨_, rfl, nil_ ⟨us, zh', S2, 400, z4, rfl, hS.same s23, ok2, by decide, by decide, hz, zo4, outZ fun m4 H4 s4 hm => ?_⟩⟩⟩
      rw [n4] at hm
      have hm : ZnV K H4 m4 y4 := hm
      have s24 := s23.trans s4
      have el4 := s24 _ _ el
      refine nil_ ⟨l, _, _, rfl, rfl, el4, (by show 3 < sizeLine; omega), ?_⟩
      exact ⟨m4, rfl, Tp.kept (Tp.same hfr s24) el4 Kept.upd, upd_same, (h1.same s24).kept el4 Kept.upd, (h3.same s24).kept el4 Kept.upd, hm.kept el4 Kept.upd⟩
    clear hS hfr el h1 h3 hz s23
    rintro σ' H2 ⟨m4, rfl, hfr, el, h1, h3, h4⟩
    -- due
    refine ⟨fun σ' H' => ∃ (dl : Addr) (d1 : V), σ' = [some (.ref a), u1, u2, u3, some us, some fr, some (.ref l), some zh', some (.ref dl)] ∧ Same H2 H' ∧ H' dl = some (.lst [d1, .non]) ∧ ZnV K H' d1 y1, ?_, ?_⟩
    · refine fun w3 H3 s3 d3 => con1 ⟨(by show 2 ≤ sizeLine; omega), fun q4 H4 n4 s4 e4 => ?_⟩
      exact ⟨q4, w3, rfl, s3.trans s4, e4, (zn_of [⟨some 0, none, some 0⟩, ⟨none, some 1, some 3⟩] (some 1, none) d3).same s4⟩
    rintro σ' H3 ⟨dl, d1, rfl, s23, edl, hd1⟩
    have hfr := Tp.same hfr s23
    have el := s23 _ _ el
    have h1 := h1.same s23
    have h3 := h3.same s23
    have h4 := h4.same s23
    clear s23
    have ned : dl ≠ l := ne_of edl el (fun z => by cases z)
    refine ⟨fun σ' H' => ∃ d3 : V, σ' = [some (.ref a), u1, u2, u3, some us, some fr, some (.ref l), some zh', some (.ref dl)] ∧ Sn K H' fr sF ∧ Dp K H' (.ref l) dT ∧ H' dl = some (.lst [d1, .non, d3]) ∧ ZnV K H' d1 y1 ∧ ZnV K H' d3 z3, ?_, ?_⟩
    · refine ⟨_, rfl, .inl ⟨rfl, _, SqL.of edl⟩, fun w4 H4 s4 d4 w5 H5 s5 d5 => ⟨_, rfl, nil_ ⟨(by show 2 ≤ sizeLine; omega), fun q6 H6 n6 s6 e6 w7 H7 s7 d7 => nil_ ⟨(by show 3 ≤ sizeLine; omega), fun q8 H8 n8 s8 e8 => nil_ ?_⟩⟩⟩⟩
      have s58 := s6.trans (s7.trans s8)
      have s28 := s4.trans (s5.trans s58)
      have edl8 := s28 _ _ edl
      have h8 := zn_put ⟨some 3, none, none⟩ sF (some 0, some 0) e8 (dp_same (s5.trans s58) _ _ d4) ((s7.trans s8) _ _ e6) (sn_of_dp ⟨some 3, none, none⟩ (dp_same s58 _ _ d5)) (Tp.same hfr s28) (dp_same s8 _ _ d7)
      refine ⟨dl, _, _, rfl, rfl, edl8, (by show 2 < sizeLine; omega), ?_⟩
      refine ⟨_, rfl, Tp.kept (Tp.same hfr s28) edl8 Kept.upd, ?_, upd_same, (hd1.same s28).kept edl8 Kept.upd, h8.kept edl8 Kept.upd⟩
      exact .lst (SqL.of (by rw [upd_ne (Ne.symm ned)]; exact s28 _ _ el)) (.cons (zn_dp ((h1.same s28).kept edl8 Kept.upd)) (.cons .non (.cons (zn_dp ((h3.same s28).kept edl8 Kept.upd)) (.cons (zn_dp ((h4.same s28).kept edl8 Kept.upd)) .nil))))
    clear hfr el h1 h3 h4 edl hd1
    rintro σ' H2 ⟨d3, rfl, hfr, hl, edl, hd1, hd3⟩
    refine ⟨_, rfl, _, rfl, fun w4 H4 s4 d4 w5 H5 s5 d5 => ⟨_, _, rfl, rfl, ⟨by decide, by decide⟩, nil_ ⟨(by show 3 ≤ sizeLine; omega), fun q6 H6 n6 s6 e6 => nil_ ⟨(by show 2 ≤ sizeLine; omega), fun q7 H7 n7 s7 e7 w8 H8 s8 d8 => nil_ ⟨(by show 3 ≤ sizeLine; omega), fun q9 H9 n9 s9 e9 => nil_ ⟨(by show 1 ≤ sizeLine; omega), fun q10 H10 n10 s10 e10 => ?_⟩⟩⟩⟩⟩⟩
    have e6 : H6 q6 = some (.tup [.non, .non, .int ((10 : Int) ^ (11 : Int).toNat)]) := e6
    rw [p11] at e6
    have s6A := s7.trans (s8.trans (s9.trans s10))
    have s2A := s4.trans (s5.trans (s6.trans s6A))
    have h9 := (zn_put ⟨some 399, some 399, some 99999999999⟩ ⟨none, none, some 100000000000⟩ (none, some 1) e9 (dp_same (s5.trans (s6.trans (s7.trans (s8.trans s9)))) _ _ d4) ((s8.trans s9) _ _ e7) (sn_of_dp ⟨some 399, some 399, some 99999999999⟩ (dp_same (s6.trans (s7.trans (s8.trans s9))) _ _ d5)) (Tp.of ((s7.trans (s8.trans s9)) _ _ e6)) (dp_same s9 _ _ d8)).same s10
    refine ⟨dl, q10, _, _, rfl, rfl, s2A _ _ edl, e10, (by show 3 + 1 ≤ sizeLine; omega), fun q11 H11 n11 s11 e11 => ?_⟩
    have s2B := s2A.trans s11
    exact eqT (dp_same s2B _ _ hl) (.lst (SqL.of e11) (.cons (zn_dp (hd1.same s2B)) (.cons .non (.cons (zn_dp (hd3.same s2B)) (.cons (zn_dp (h9.same s11)) .nil))))) (k H11)
end
end TM
end

section
set_option maxHeartbeats 0
namespace TM
open PySem PySem.Spec PyProof.Rows L2 EW
theorem facts {P : Program} {w : World} {K : W.Frag} {h : Heap} {mg : Str → Option Value} {f : Addr} (X : K.In h) (G : h.Ns mainGlobals mg) (hfa : mg ("law" : Str) = some (.ref f)) (c : He5.SaysA fa fn K) (cx : exAll exl K = true) :
    noTabB K = true ∧ tabsNeB K "_law_pair_right" "_law_told_right" = true ∧ (mg ("_law_pair_right" : Str) = some (.ref (He.ga K "_law_pair_right")) ∧ ∃ (o : Obj) (fd : FuncData), K.lookup (He.ga K "_law_pair_right") = some o ∧ o.data = .func fd) ∧ (mg ("_law_told_right" : Str) = some (.ref (He.ga K "_law_told_right")) ∧ ∃ (o : Obj) (fd : FuncData), K.lookup (He.ga K "_law_told_right") = some o ∧ o.data = .func fd) ∧ ∀ (c0 c1 : Addr) (PT : PT2), (∀ (o : Obj) (fd : FuncData), K.lookup (He.ga K "_law_pair_right") = some o → o.data = .func fd → fd.code = .ref c0) → (∀ (o : Obj) (fd : FuncData), K.lookup (He.ga K "_law_told_right") = some o → o.data = .func fd → fd.code = .ref c1) → PT.1 ≠ PT.2 →
      ∃ fd : FuncData, (∀ (s : Shared) (v : Value), BindsTo s fd ⟨[v], []⟩ [("_law_script", v)]) ∧ ∀ base : Heap, K.In base → base.Ns mainGlobals mg → LamX.TabB base mg c0 PT.1 → LamX.TabB base mg c1 PT.2 → FnOk P w K mg base CX0 9 f fd ["_law_script"] (spLaw K PT) := by
  have x0 : (noTabB K) = true := exAll_at cx 0 (e := fun K => noTabB K) rfl
  have x1 : (tabsNeB K "_law_pair_right" "_law_told_right") = true := exAll_at cx 1 (e := fun K => tabsNeB K "_law_pair_right" "_law_told_right") rfl
  have x2 : (twoNonB K "ANY") = true := exAll_at cx 2 (e := fun K => twoNonB K "ANY") rfl
  have any2 := fun H : Hp => twoNonB_ok (H := H) x2
  obtain ⟨fd0, F0⟩ : ∃ fd, FunD K "is_integer" "is_integer" (defArgs sIsInt) (defBody sIsInt) (defScope sIsInt) [] [] (He.ga K "is_integer") fd := c.def_ 0
  have b0 := FunD.bindsN (ps := ["value"]) F0 fun _ _ _ _ _ _ us hl => match us, hl with | [_], _ => rfl
  have g0 : mg "is_integer" = some (.ref (He.ga K "is_integer")) := He.glo_ok X G (c.fact 0 (f := .glo "is_integer") rfl)
  obtain ⟨fd1, F1⟩ : ∃ fd, FunD K "is_between" "is_between" (defArgs sBetween) (defBody sBetween) (defScope sBetween) [] [] (He.ga K "is_between") fd := c.def_ 1
  have b1 := FunD.bindsN (ps := ["value", "least", "most"]) F1 fun _ _ _ _ _ _ us hl => match us, hl with | [_, _, _], _ => rfl
  have g1 : mg "is_between" = some (.ref (He.ga K "is_between")) := He.glo_ok X G (c.fact 1 (f := .glo "is_between") rfl)
  obtain ⟨fd2, F2⟩ : ∃ fd, FunD K "is_bound" "is_bound" (defArgs sIsBound) (defBody sIsBound) (defScope sIsBound) [] [] (He.ga K "is_bound") fd := c.def_ 2
  have b2 := FunD.bindsN (ps := ["value"]) F2 fun _ _ _ _ _ _ us hl => match us, hl with | [_], _ => rfl
  have g2 : mg "is_bound" = some (.ref (He.ga K "is_bound")) := He.glo_ok X G (c.fact 2 (f := .glo "is_bound") rfl)
  obtain ⟨fd3, F3⟩ : ∃ fd, FunD K "require_period" "require_period" (defArgs sReqP) (defBody sReqP) (defScope sReqP) [] [] (He.ga K "require_period") fd := c.def_ 3
  have b3 := FunD.bindsN (ps := ["period"]) F3 fun _ _ _ _ _ _ us hl => match us, hl with | [_], _ => rfl
  have g3 : mg "require_period" = some (.ref (He.ga K "require_period")) := He.glo_ok X G (c.fact 3 (f := .glo "require_period") rfl)
  obtain ⟨fd4, F4⟩ : ∃ fd, FunD K "greater_of" "greater_of" (defArgs sGreater) (defBody sGreater) (defScope sGreater) [] [] (He.ga K "greater_of") fd := c.def_ 4
  have b4 := FunD.bindsN (ps := ["one", "other"]) F4 fun _ _ _ _ _ _ us hl => match us, hl with | [_, _], _ => rfl
  have g4 : mg "greater_of" = some (.ref (He.ga K "greater_of")) := He.glo_ok X G (c.fact 4 (f := .glo "greater_of") rfl)
  obtain ⟨fd5, F5⟩ : ∃ fd, FunD K "lesser_of" "lesser_of" (defArgs sLesser) (defBody sLesser) (defScope sLesser) [] [] (He.ga K "lesser_of") fd := c.def_ 5
  have b5 := FunD.bindsN (ps := ["one", "other"]) F5 fun _ _ _ _ _ _ us hl => match us, hl with | [_, _], _ => rfl
  have g5 : mg "lesser_of" = some (.ref (He.ga K "lesser_of")) := He.glo_ok X G (c.fact 5 (f := .glo "lesser_of") rfl)
  obtain ⟨fd6, F6⟩ : ∃ fd, FunD K "plus" "plus" (defArgs sPlus) (defBody sPlus) (defScope sPlus) [] [] (He.ga K "plus") fd := c.def_ 6
  have b6 := FunD.bindsN (ps := ["one", "other"]) F6 fun _ _ _ _ _ _ us hl => match us, hl with | [_, _], _ => rfl
  have g6 : mg "plus" = some (.ref (He.ga K "plus")) := He.glo_ok X G (c.fact 6 (f := .glo "plus") rfl)
  obtain ⟨fd7, F7⟩ : ∃ fd, FunD K "minus" "minus" (defArgs sMinus) (defBody sMinus) (defScope sMinus) [] [] (He.ga K "minus") fd := c.def_ 7
  have b7 := FunD.bindsN (ps := ["one", "other"]) F7 fun _ _ _ _ _ _ us hl => match us, hl with | [_, _], _ => rfl
  have g7 : mg "minus" = some (.ref (He.ga K "minus")) := He.glo_ok X G (c.fact 7 (f := .glo "minus") rfl)
  obtain ⟨fd8, F8⟩ : ∃ fd, FunD K "is_empty_pair" "is_empty_pair" (defArgs sEmptyP) (defBody sEmptyP) (defScope sEmptyP) [] [] (He.ga K "is_empty_pair") fd := c.def_ 8
  have b8 := FunD.bindsN (ps := ["pair"]) F8 fun _ _ _ _ _ _ us hl => match us, hl with | [_], _ => rfl
  have g8 : mg "is_empty_pair" = some (.ref (He.ga K "is_empty_pair")) := He.glo_ok X G (c.fact 8 (f := .glo "is_empty_pair") rfl)
  obtain ⟨fd9, F9⟩ : ∃ fd, FunD K "rounded" "rounded" (defArgs sRounded) (defBody sRounded) (defScope sRounded) [] [] (He.ga K "rounded") fd := c.def_ 9
  have b9 := FunD.bindsN (ps := ["period", "residue", "pair"]) F9 fun _ _ _ _ _ _ us hl => match us, hl with | [_, _, _], _ => rfl
  have g9 : mg "rounded" = some (.ref (He.ga K "rounded")) := He.glo_ok X G (c.fact 9 (f := .glo "rounded") rfl)
  obtain ⟨fd10, F10⟩ : ∃ fd, FunD K "gap_residue" "gap_residue" (defArgs sGapRes) (defBody sGapRes) (defScope sGapRes) [] [] (He.ga K "gap_residue") fd := c.def_ 10
  have b10 := FunD.bindsN (ps := ["period", "spans"]) F10 fun _ _ _ _ _ _ us hl => match us, hl with | [_, _], _ => rfl
  have g10 : mg "gap_residue" = some (.ref (He.ga K "gap_residue")) := He.glo_ok X G (c.fact 10 (f := .glo "gap_residue") rfl)
  obtain ⟨fd11, F11⟩ : ∃ fd, FunD K "is_name" "is_name" (defArgs sIsName) (defBody sIsName) (defScope sIsName) [] [] (He.ga K "is_name") fd := c.def_ 11
  have b11 := FunD.bindsN (ps := ["value"]) F11 fun _ _ _ _ _ _ us hl => match us, hl with | [_], _ => rfl
  have g11 : mg "is_name" = some (.ref (He.ga K "is_name")) := He.glo_ok X G (c.fact 11 (f := .glo "is_name") rfl)
  obtain ⟨fd12, F12⟩ : ∃ fd, FunD K "is_column_name" "is_column_name" (defArgs sIsCol) (defBody sIsCol) (defScope sIsCol) [] [] (He.ga K "is_column_name") fd := c.def_ 12
  have b12 := FunD.bindsN (ps := ["value"]) F12 fun _ _ _ _ _ _ us hl => match us, hl with | [_], _ => rfl
  have g12 : mg "is_column_name" = some (.ref (He.ga K "is_column_name")) := He.glo_ok X G (c.fact 12 (f := .glo "is_column_name") rfl)
  obtain ⟨fd13, F13⟩ : ∃ fd, FunD K "is_domain" "is_domain" (defArgs sIsDomain) (defBody sIsDomain) (defScope sIsDomain) [] [] (He.ga K "is_domain") fd := c.def_ 13
  have b13 := FunD.bindsN (ps := ["value"]) F13 fun _ _ _ _ _ _ us hl => match us, hl with | [_], _ => rfl
  have g13 : mg "is_domain" = some (.ref (He.ga K "is_domain")) := He.glo_ok X G (c.fact 13 (f := .glo "is_domain") rfl)
  obtain ⟨fd14, F14⟩ : ∃ fd, FunD K "times_in" "times_in" (defArgs sTimesIn) (defBody sTimesIn) (defScope sTimesIn) [] [] (He.ga K "times_in") fd := c.def_ 14
  have b14 := FunD.bindsN (ps := ["shape"]) F14 fun _ _ _ _ _ _ us hl => match us, hl with | [_], _ => rfl
  have g14 : mg "times_in" = some (.ref (He.ga K "times_in")) := He.glo_ok X G (c.fact 14 (f := .glo "times_in") rfl)
  obtain ⟨fd15, F15⟩ : ∃ fd, FunD K "domains_in" "domains_in" (defArgs sDomsIn) (defBody sDomsIn) (defScope sDomsIn) [] [] (He.ga K "domains_in") fd := c.def_ 15
  have b15 := FunD.bindsN (ps := ["shape"]) F15 fun _ _ _ _ _ _ us hl => match us, hl with | [_], _ => rfl
  have g15 : mg "domains_in" = some (.ref (He.ga K "domains_in")) := He.glo_ok X G (c.fact 15 (f := .glo "domains_in") rfl)
  obtain ⟨fd16, F16⟩ : ∃ fd, FunD K "is_kind" "is_kind" (defArgs sIsKind) (defBody sIsKind) (defScope sIsKind) [] [] (He.ga K "is_kind") fd := c.def_ 16
  have b16 := FunD.bindsN (ps := ["value"]) F16 fun _ _ _ _ _ _ us hl => match us, hl with | [_], _ => rfl
  have g16 : mg "is_kind" = some (.ref (He.ga K "is_kind")) := He.glo_ok X G (c.fact 16 (f := .glo "is_kind") rfl)
  obtain ⟨fd17, F17⟩ : ∃ fd, FunD K "is_shape" "is_shape" (defArgs sIsShape) (defBody sIsShape) (defScope sIsShape) [] [] (He.ga K "is_shape") fd := c.def_ 17
  have b17 := FunD.bindsN (ps := ["value"]) F17 fun _ _ _ _ _ _ us hl => match us, hl with | [_], _ => rfl
  have g17 : mg "is_shape" = some (.ref (He.ga K "is_shape")) := He.glo_ok X G (c.fact 17 (f := .glo "is_shape") rfl)
  obtain ⟨fd18, F18⟩ : ∃ fd, FunD K "require_shape" "require_shape" (defArgs sReqShape) (defBody sReqShape) (defScope sReqShape) [] [] (He.ga K "require_shape") fd := c.def_ 18
  have b18 := FunD.bindsN (ps := ["shape"]) F18 fun _ _ _ _ _ _ us hl => match us, hl with | [_], _ => rfl
  have g18 : mg "require_shape" = some (.ref (He.ga K "require_shape")) := He.glo_ok X G (c.fact 18 (f := .glo "require_shape") rfl)
  obtain ⟨fd19, F19⟩ : ∃ fd, FunD K "is_value_of" "is_value_of" (defArgs sIsValue) (defBody sIsValue) (defScope sIsValue) [] [] (He.ga K "is_value_of") fd := c.def_ 19
  have b19 := FunD.bindsN (ps := ["kind", "value"]) F19 fun _ _ _ _ _ _ us hl => match us, hl with | [_, _], _ => rfl
  have g19 : mg "is_value_of" = some (.ref (He.ga K "is_value_of")) := He.glo_ok X G (c.fact 19 (f := .glo "is_value_of") rfl)
  obtain ⟨fd20, F20⟩ : ∃ fd, FunD K "is_span" "is_span" (defArgs sIsSpan) (defBody sIsSpan) (defScope sIsSpan) [] [] (He.ga K "is_span") fd := c.def_ 20
  have b20 := FunD.bindsN (ps := ["period", "value"]) F20 fun _ _ _ _ _ _ us hl => match us, hl with | [_, _], _ => rfl
  have g20 : mg "is_span" = some (.ref (He.ga K "is_span")) := He.glo_ok X G (c.fact 20 (f := .glo "is_span") rfl)
  obtain ⟨fd21, F21⟩ : ∃ fd, FunD K "is_gap" "is_gap" (defArgs sIsGap) (defBody sIsGap) (defScope sIsGap) [] [] (He.ga K "is_gap") fd := c.def_ 21
  have b21 := FunD.bindsN (ps := ["value", "times"]) F21 fun _ _ _ _ _ _ us hl => match us, hl with | [_, _], _ => rfl
  have g21 : mg "is_gap" = some (.ref (He.ga K "is_gap")) := He.glo_ok X G (c.fact 21 (f := .glo "is_gap") rfl)
  obtain ⟨fd22, F22⟩ : ∃ fd, FunD K "is_zone_in" "is_zone_in" (defArgs sIsZone) (defBody sIsZone) (defScope sIsZone) [] [] (He.ga K "is_zone_in") fd := c.def_ 22
  have b22 := FunD.bindsN (ps := ["shape", "period", "value"]) F22 fun _ _ _ _ _ _ us hl => match us, hl with | [_, _, _], _ => rfl
  have g22 : mg "is_zone_in" = some (.ref (He.ga K "is_zone_in")) := He.glo_ok X G (c.fact 22 (f := .glo "is_zone_in") rfl)
  obtain ⟨fd23, F23⟩ : ∃ fd, FunD K "require_zone" "require_zone" (defArgs sReqZone) (defBody sReqZone) (defScope sReqZone) [] [] (He.ga K "require_zone") fd := c.def_ 23
  have b23 := FunD.bindsN (ps := ["shape", "period", "zone"]) F23 fun _ _ _ _ _ _ us hl => match us, hl with | [_, _, _], _ => rfl
  have g23 : mg "require_zone" = some (.ref (He.ga K "require_zone")) := He.glo_ok X G (c.fact 23 (f := .glo "require_zone") rfl)
  obtain ⟨fd24, F24⟩ : ∃ fd, FunD K "require_all" "require_all" (defArgs sReqAll) (defBody sReqAll) (defScope sReqAll) [] [] (He.ga K "require_all") fd := c.def_ 24
  have b24 := FunD.bindsN (ps := ["shape", "period", "zone"]) F24 fun _ _ _ _ _ _ us hl => match us, hl with | [_, _, _], _ => rfl
  have g24 : mg "require_all" = some (.ref (He.ga K "require_all")) := He.glo_ok X G (c.fact 24 (f := .glo "require_all") rfl)
  obtain ⟨fd25, F25⟩ : ∃ fd, FunD K "closed" "closed" (defArgs sClosed) (defBody sClosed) (defScope sClosed) [] [] (He.ga K "closed") fd := c.def_ 25
  have b25 := FunD.bindsN (ps := ["first", "second", "gap"]) F25 fun _ _ _ _ _ _ us hl => match us, hl with | [_, _, _], _ => rfl
  have g25 : mg "closed" = some (.ref (He.ga K "closed")) := He.glo_ok X G (c.fact 25 (f := .glo "closed") rfl)
  obtain ⟨fd26, F26⟩ : ∃ fd, FunD K "tight_two" "tight_two" (defArgs sTight) (defBody sTight) (defScope sTight) [] [] (He.ga K "tight_two") fd := c.def_ 26
  have b26 := FunD.bindsN (ps := ["period", "spans", "gap"]) F26 fun _ _ _ _ _ _ us hl => match us, hl with | [_, _, _], _ => rfl
  have g26 : mg "tight_two" = some (.ref (He.ga K "tight_two")) := He.glo_ok X G (c.fact 26 (f := .glo "tight_two") rfl)
  obtain ⟨fd27, F27⟩ : ∃ fd, FunD K "normal_in" "normal_in" (defArgs sNormIn) (defBody sNormIn) (defScope sNormIn) [] [] (He.ga K "normal_in") fd := c.def_ 27
  have b27 := FunD.bindsN (ps := ["period", "zone"]) F27 fun _ _ _ _ _ _ us hl => match us, hl with | [_, _], _ => rfl
  have g27 : mg "normal_in" = some (.ref (He.ga K "normal_in")) := He.glo_ok X G (c.fact 27 (f := .glo "normal_in") rfl)
  obtain ⟨fd28, F28⟩ : ∃ fd, FunD K "normal" "normal" (defArgs sNormal) (defBody sNormal) (defScope sNormal) [] [] (He.ga K "normal") fd := c.def_ 28
  have b28 := FunD.bindsN (ps := ["shape", "period", "zone"]) F28 fun _ _ _ _ _ _ us hl => match us, hl with | [_, _, _], _ => rfl
  have g28 : mg "normal" = some (.ref (He.ga K "normal")) := He.glo_ok X G (c.fact 28 (f := .glo "normal") rfl)
  obtain ⟨fd29, F29⟩ : ∃ fd, FunD K "_law_dice" "_law_dice" (defArgs sDice) (defBody sDice) (defScope sDice) [] [] (He.ga K "_law_dice") fd := c.def_ 29
  have b29 := FunD.bindsN (ps := ["_law_script", "_law_spot"]) F29 fun _ _ _ _ _ _ us hl => match us, hl with | [_, _], _ => rfl
  have g29 : mg "_law_dice" = some (.ref (He.ga K "_law_dice")) := He.glo_ok X G (c.fact 29 (f := .glo "_law_dice") rfl)
  obtain ⟨fd30, F30⟩ : ∃ fd, FunD K "_law_roll" "_law_roll" (defArgs sRoll) (defBody sRoll) (defScope sRoll) [] [] (He.ga K "_law_roll") fd := c.def_ 30
  have b30 := FunD.bindsN (ps := ["_law_dice_here", "_law_many"]) F30 fun _ _ _ _ _ _ us hl => match us, hl with | [_, _], _ => rfl
  have g30 : mg "_law_roll" = some (.ref (He.ga K "_law_roll")) := He.glo_ok X G (c.fact 30 (f := .glo "_law_roll") rfl)
  obtain ⟨fd31, F31⟩ : ∃ fd, FunD K "_law_pick" "_law_pick" (defArgs sPick) (defBody sPick) (defScope sPick) [] [] (He.ga K "_law_pick") fd := c.def_ 31
  have b31 := FunD.bindsN (ps := ["_law_dice_here", "_law_items"]) F31 fun _ _ _ _ _ _ us hl => match us, hl with | [_, _], _ => rfl
  have g31 : mg "_law_pick" = some (.ref (He.ga K "_law_pick")) := He.glo_ok X G (c.fact 31 (f := .glo "_law_pick") rfl)
  obtain ⟨fd32, F32⟩ : ∃ fd, FunD K "_law_near" "_law_near" (defArgs sNear) (defBody sNear) (defScope sNear) [] [] (He.ga K "_law_near") fd := c.def_ 32
  have b32 := FunD.bindsN (ps := ["_law_dice_here", "_law_far"]) F32 fun _ _ _ _ _ _ us hl => match us, hl with | [_, _], _ => rfl
  have g32 : mg "_law_near" = some (.ref (He.ga K "_law_near")) := He.glo_ok X G (c.fact 32 (f := .glo "_law_near") rfl)
  obtain ⟨fd33, F33⟩ : ∃ fd, FunD K "_law_bound" "_law_bound" (defArgs sBound) (defBody sBound) (defScope sBound) [] [] (He.ga K "_law_bound") fd := c.def_ 33
  have b33 := FunD.bindsN (ps := ["_law_dice_here", "_law_far"]) F33 fun _ _ _ _ _ _ us hl => match us, hl with | [_, _], _ => rfl
  have g33 : mg "_law_bound" = some (.ref (He.ga K "_law_bound")) := He.glo_ok X G (c.fact 33 (f := .glo "_law_bound") rfl)
  obtain ⟨fd34, F34⟩ : ∃ fd, FunD K "_law_pair" "_law_pair" (defArgs sPair) (defBody sPair) (defScope sPair) [] [] (He.ga K "_law_pair") fd := c.def_ 34
  have b34 := FunD.bindsN (ps := ["_law_dice_here", "_law_far"]) F34 fun _ _ _ _ _ _ us hl => match us, hl with | [_, _], _ => rfl
  have g34 : mg "_law_pair" = some (.ref (He.ga K "_law_pair")) := He.glo_ok X G (c.fact 34 (f := .glo "_law_pair") rfl)
  obtain ⟨fd35, F35⟩ : ∃ fd, FunD K "_law_residue" "_law_residue" (defArgs sResidue) (defBody sResidue) (defScope sResidue) [] [] (He.ga K "_law_residue") fd := c.def_ 35
  have b35 := FunD.bindsN (ps := ["_law_dice_here", "_law_period"]) F35 fun _ _ _ _ _ _ us hl => match us, hl with | [_, _], _ => rfl
  have g35 : mg "_law_residue" = some (.ref (He.ga K "_law_residue")) := He.glo_ok X G (c.fact 35 (f := .glo "_law_residue") rfl)
  obtain ⟨fd36, F36⟩ : ∃ fd, FunD K "_law_span" "_law_span" (defArgs sSpan) (defBody sSpan) (defScope sSpan) [] [] (He.ga K "_law_span") fd := c.def_ 36
  have b36 := FunD.bindsN (ps := ["_law_dice_here", "_law_period", "_law_far"]) F36 fun _ _ _ _ _ _ us hl => match us, hl with | [_, _, _], _ => rfl
  have g36 : mg "_law_span" = some (.ref (He.ga K "_law_span")) := He.glo_ok X G (c.fact 36 (f := .glo "_law_span") rfl)
  obtain ⟨fd37, F37⟩ : ∃ fd, FunD K "_law_mixed" "_law_mixed" (defArgs sMixed) (defBody sMixed) (defScope sMixed) [] [] (He.ga K "_law_mixed") fd := c.def_ 37
  have b37 := FunD.bindsN (ps := ["_law_dice_here", "_law_items"]) F37 fun _ _ _ _ _ _ us hl => match us, hl with | [_, _], _ => rfl
  have g37 : mg "_law_mixed" = some (.ref (He.ga K "_law_mixed")) := He.glo_ok X G (c.fact 37 (f := .glo "_law_mixed") rfl)
  obtain ⟨fd38, F38⟩ : ∃ fd, FunD K "_law_times_of" "_law_times_of" (defArgs sTimesOf) (defBody sTimesOf) (defScope sTimesOf) [] [] (He.ga K "_law_times_of") fd := c.def_ 38
  have b38 := FunD.bindsN (ps := ["_law_shape_here"]) F38 fun _ _ _ _ _ _ us hl => match us, hl with | [_], _ => rfl
  have g38 : mg "_law_times_of" = some (.ref (He.ga K "_law_times_of")) := He.glo_ok X G (c.fact 38 (f := .glo "_law_times_of") rfl)
  obtain ⟨fd39, F39⟩ : ∃ fd, FunD K "_law_domains_of" "_law_domains_of" (defArgs sDomsOf) (defBody sDomsOf) (defScope sDomsOf) [] [] (He.ga K "_law_domains_of") fd := c.def_ 39
  have b39 := FunD.bindsN (ps := ["_law_shape_here"]) F39 fun _ _ _ _ _ _ us hl => match us, hl with | [_], _ => rfl
  have g39 : mg "_law_domains_of" = some (.ref (He.ga K "_law_domains_of")) := He.glo_ok X G (c.fact 39 (f := .glo "_law_domains_of") rfl)
  obtain ⟨fd40, F40⟩ : ∃ fd, FunD K "_law_shape" "_law_shape" (defArgs sShape) (defBody sShape) (defScope sShape) [] [] (He.ga K "_law_shape") fd := c.def_ 40
  have b40 := FunD.bindsN (ps := ["_law_dice_here", "_law_most"]) F40 fun _ _ _ _ _ _ us hl => match us, hl with | [_, _], _ => rfl
  have g40 : mg "_law_shape" = some (.ref (He.ga K "_law_shape")) := He.glo_ok X G (c.fact 40 (f := .glo "_law_shape") rfl)
  obtain ⟨fd41, F41⟩ : ∃ fd, FunD K "_law_zone" "_law_zone" (defArgs sZone) (defBody sZone) (defScope sZone) [] [] (He.ga K "_law_zone") fd := c.def_ 41
  have b41 := FunD.bindsN (ps := ["_law_dice_here", "_law_shape_here", "_law_period", "_law_far"]) F41 fun _ _ _ _ _ _ us hl => match us, hl with | [_, _, _, _], _ => rfl
  have g41 : mg "_law_zone" = some (.ref (He.ga K "_law_zone")) := He.glo_ok X G (c.fact 41 (f := .glo "_law_zone") rfl)
  obtain ⟨fd42, F42⟩ : ∃ fd, FunD K "_law_between" "_law_between" (defArgs sBetw) (defBody sBetw) (defScope sBetw) [] [] (He.ga K "_law_between") fd := c.def_ 42
  have b42 := FunD.bindsN (ps := ["_law_one", "_law_pair_here"]) F42 fun _ _ _ _ _ _ us hl => match us, hl with | [_, _], _ => rfl
  have g42 : mg "_law_between" = some (.ref (He.ga K "_law_between")) := He.glo_ok X G (c.fact 42 (f := .glo "_law_between") rfl)
  obtain ⟨fd43, F43⟩ : ∃ fd, FunD K "_law_parts_of" "_law_parts_of" (defArgs sParts) (defBody sParts) (defScope sParts) [] [] (He.ga K "_law_parts_of") fd := c.def_ 43
  have b43 := FunD.bindsN (ps := ["_law_shape_here", "_law_row"]) F43 fun _ _ _ _ _ _ us hl => match us, hl with | [_, _], _ => rfl
  have g43 : mg "_law_parts_of" = some (.ref (He.ga K "_law_parts_of")) := He.glo_ok X G (c.fact 43 (f := .glo "_law_parts_of") rfl)
  obtain ⟨fd44, F44⟩ : ∃ fd, FunD K "_law_in_zone" "_law_in_zone" (defArgs sInZone) (defBody sInZone) (defScope sInZone) [] [] (He.ga K "_law_in_zone") fd := c.def_ 44
  have b44 := FunD.bindsN (ps := ["_law_shape_here", "_law_period", "_law_zone_here", "_law_row"]) F44 fun _ _ _ _ _ _ us hl => match us, hl with | [_, _, _, _], _ => rfl
  have g44 : mg "_law_in_zone" = some (.ref (He.ga K "_law_in_zone")) := He.glo_ok X G (c.fact 44 (f := .glo "_law_in_zone") rfl)
  obtain ⟨fd45, F45⟩ : ∃ fd, FunD K "is_zone" "is_zone" (defArgs sIsZoneF) (defBody sIsZoneF) (defScope sIsZoneF) [] [] (He.ga K "is_zone") fd := c.def_ 45
  have b45 := FunD.bindsN (ps := ["shape", "period", "value"]) F45 fun _ _ _ _ _ _ us hl => match us, hl with | [_, _, _], _ => rfl
  have g45 : mg "is_zone" = some (.ref (He.ga K "is_zone")) := He.glo_ok X G (c.fact 45 (f := .glo "is_zone") rfl)
  obtain ⟨fd46, F46⟩ : ∃ fd, FunD K "is_normal" "is_normal" (defArgs sIsNorm) (defBody sIsNorm) (defScope sIsNorm) [] [] (He.ga K "is_normal") fd := c.def_ 46
  have b46 := FunD.bindsN (ps := ["shape", "period", "value"]) F46 fun _ _ _ _ _ _ us hl => match us, hl with | [_, _, _], _ => rfl
  have g46 : mg "is_normal" = some (.ref (He.ga K "is_normal")) := He.glo_ok X G (c.fact 46 (f := .glo "is_normal") rfl)
  obtain ⟨fd47, F47⟩ : ∃ fd, FunD K "_law_rounded" "_law_rounded" (defArgs sRndL) (defBody sRndL) (defScope sRndL) [] [] (He.ga K "_law_rounded") fd := c.def_ 47
  have b47 := FunD.bindsN (ps := ["_law_period", "_law_residue_here", "_law_low", "_law_high"]) F47 fun _ _ _ _ _ _ us hl => match us, hl with | [_, _, _, _], _ => rfl
  have g47 : mg "_law_rounded" = some (.ref (He.ga K "_law_rounded")) := He.glo_ok X G (c.fact 47 (f := .glo "_law_rounded") rfl)
  obtain ⟨fd48, F48⟩ : ∃ fd, FunD K "_law_meet" "_law_meet" (defArgs sMeetL) (defBody sMeetL) (defScope sMeetL) [] [] (He.ga K "_law_meet") fd := c.def_ 48
  have b48 := FunD.bindsN (ps := ["_law_one", "_law_two"]) F48 fun _ _ _ _ _ _ us hl => match us, hl with | [_, _], _ => rfl
  have g48 : mg "_law_meet" = some (.ref (He.ga K "_law_meet")) := He.glo_ok X G (c.fact 48 (f := .glo "_law_meet") rfl)
  obtain ⟨fd49, F49⟩ : ∃ fd, FunD K "_law_plus" "_law_plus" (defArgs sPlusL) (defBody sPlusL) (defScope sPlusL) [] [] (He.ga K "_law_plus") fd := c.def_ 49
  have b49 := FunD.bindsN (ps := ["_law_pair_here", "_law_many"]) F49 fun _ _ _ _ _ _ us hl => match us, hl with | [_, _], _ => rfl
  have g49 : mg "_law_plus" = some (.ref (He.ga K "_law_plus")) := He.glo_ok X G (c.fact 49 (f := .glo "_law_plus") rfl)
  obtain ⟨fd50, F50⟩ : ∃ fd, FunD K "_law_turned" "_law_turned" (defArgs sTurned) (defBody sTurned) (defScope sTurned) [] [] (He.ga K "_law_turned") fd := c.def_ 50
  have b50 := FunD.bindsN (ps := ["_law_pair_here"]) F50 fun _ _ _ _ _ _ us hl => match us, hl with | [_], _ => rfl
  have g50 : mg "_law_turned" = some (.ref (He.ga K "_law_turned")) := He.glo_ok X G (c.fact 50 (f := .glo "_law_turned") rfl)
  obtain ⟨fd51, F51⟩ : ∃ fd, FunD K "_law_has_time" "_law_has_time" (defArgs sHasT) (defBody sHasT) (defScope sHasT) [] [] (He.ga K "_law_has_time") fd := c.def_ 51
  have b51 := FunD.bindsN (ps := ["_law_period", "_law_zone_here", "_law_place", "_law_time"]) F51 fun _ _ _ _ _ _ us hl => match us, hl with | [_, _, _, _], _ => rfl
  have g51 : mg "_law_has_time" = some (.ref (He.ga K "_law_has_time")) := He.glo_ok X G (c.fact 51 (f := .glo "_law_has_time") rfl)
  obtain ⟨fd52, F52⟩ : ∃ fd, FunD K "_law_has_gap" "_law_has_gap" (defArgs sHasG) (defBody sHasG) (defScope sHasG) [] [] (He.ga K "_law_has_gap") fd := c.def_ 52
  have b52 := FunD.bindsN (ps := ["_law_period", "_law_zone_here", "_law_many"]) F52 fun _ _ _ _ _ _ us hl => match us, hl with | [_, _, _], _ => rfl
  have g52 : mg "_law_has_gap" = some (.ref (He.ga K "_law_has_gap")) := He.glo_ok X G (c.fact 52 (f := .glo "_law_has_gap") rfl)
  obtain ⟨fd53, F53⟩ : ∃ fd, FunD K "_law_known" "_law_known" (defArgs sKnown) (defBody sKnown) (defScope sKnown) [] [] (He.ga K "_law_known") fd := c.def_ 53
  have b53 := FunD.bindsN (ps := ["_law_zone_here"]) F53 fun _ _ _ _ _ _ us hl => match us, hl with | [_], _ => rfl
  have g53 : mg "_law_known" = some (.ref (He.ga K "_law_known")) := He.glo_ok X G (c.fact 53 (f := .glo "_law_known") rfl)
  obtain ⟨fd54, F54⟩ : ∃ fd, FunD K "_law_is_empty" "_law_is_empty" (defArgs sIsEmp) (defBody sIsEmp) (defScope sIsEmp) [] [] (He.ga K "_law_is_empty") fd := c.def_ 54
  have b54 := FunD.bindsN (ps := ["_law_period", "_law_zone_here"]) F54 fun _ _ _ _ _ _ us hl => match us, hl with | [_, _], _ => rfl
  have g54 : mg "_law_is_empty" = some (.ref (He.ga K "_law_is_empty")) := He.glo_ok X G (c.fact 54 (f := .glo "_law_is_empty") rfl)
  obtain ⟨fd55, F55⟩ : ∃ fd, FunD K "_law_bound_right" "_law_bound_right" (defArgs sBoundR) (defBody sBoundR) (defScope sBoundR) [] [] (He.ga K "_law_bound_right") fd := c.def_ 55
  have b55 := FunD.bindsN (ps := ["_law_has", "_law_told", "_law_far", "_law_period"]) F55 fun _ _ _ _ _ _ us hl => match us, hl with | [_, _, _, _], _ => rfl
  have g55 : mg "_law_bound_right" = some (.ref (He.ga K "_law_bound_right")) := He.glo_ok X G (c.fact 55 (f := .glo "_law_bound_right") rfl)
  obtain ⟨fd56, F56⟩ : ∃ fd, FunD K "_law_pair_right" "_law_pair_right" (defArgs sPairR) (defBody sPairR) (defScope sPairR) [] [] (He.ga K "_law_pair_right") fd := c.def_ 56
  have b56 := FunD.bindsN (ps := ["_law_has", "_law_pair_here", "_law_period"]) F56 fun _ _ _ _ _ _ us hl => match us, hl with | [_, _, _], _ => rfl
  have g56 : mg "_law_pair_right" = some (.ref (He.ga K "_law_pair_right")) := He.glo_ok X G (c.fact 56 (f := .glo "_law_pair_right") rfl)
  obtain ⟨fd57, F57⟩ : ∃ fd, FunD K "_law_told_right" "_law_told_right" (defArgs sToldR) (defBody sToldR) (defScope sToldR) [] [] (He.ga K "_law_told_right") fd := c.def_ 57
  have b57 := FunD.bindsN (ps := ["_law_period", "_law_zone_here", "_law_found"]) F57 fun _ _ _ _ _ _ us hl => match us, hl with | [_, _, _], _ => rfl
  have g57 : mg "_law_told_right" = some (.ref (He.ga K "_law_told_right")) := He.glo_ok X G (c.fact 57 (f := .glo "_law_told_right") rfl)
  obtain ⟨fd58, F58⟩ : ∃ fd, FunD K "_law_bent" "_law_bent" (defArgs sBent) (defBody sBent) (defScope sBent) [] [] (He.ga K "_law_bent") fd := c.def_ 58
  have b58 := FunD.bindsN (ps := ["_law_dice_here", "_law_zone_here"]) F58 fun _ _ _ _ _ _ us hl => match us, hl with | [_, _], _ => rfl
  have g58 : mg "_law_bent" = some (.ref (He.ga K "_law_bent")) := He.glo_ok X G (c.fact 58 (f := .glo "_law_bent") rfl)
  obtain ⟨fd59, F59⟩ : ∃ fd, FunD K "_law_rows_right" "_law_rows_right" (defArgs sRowsR) (defBody sRowsR) (defScope sRowsR) [] [] (He.ga K "_law_rows_right") fd := c.def_ 59
  have b59 := FunD.bindsN (ps := ["_law_dice_here", "_law_shape_here", "_law_period", "_law_zone_here", "_law_found"]) F59 fun _ _ _ _ _ _ us hl => match us, hl with | [_, _, _, _, _], _ => rfl
  have g59 : mg "_law_rows_right" = some (.ref (He.ga K "_law_rows_right")) := He.glo_ok X G (c.fact 59 (f := .glo "_law_rows_right") rfl)
  obtain ⟨fd60, F60⟩ : ∃ fd, FunD K "_law_right" "_law_right" (defArgs sRight) (defBody sRight) (defScope sRight) [] [] (He.ga K "_law_right") fd := c.def_ 60
  have b60 := FunD.bindsN (ps := ["_law_dice_here"]) F60 fun _ _ _ _ _ _ us hl => match us, hl with | [_], _ => rfl
  have g60 : mg "_law_right" = some (.ref (He.ga K "_law_right")) := He.glo_ok X G (c.fact 60 (f := .glo "_law_right") rfl)
  obtain ⟨fd61, F61⟩ : ∃ fd, FunD K "law" "law" (defArgs sLaw) (defBody sLaw) (defScope sLaw) [] [] (He.ga K "law") fd := c.def_ 61
  have g61 : mg "law" = some (.ref (He.ga K "law")) := He.glo_ok X G (c.fact 61 (f := .glo "law") rfl)
  have f_len : mg "len" = none := He.free_ok X G (c.fact 62 (f := .free "len") rfl)
  have f_int : mg "int" = none := He.free_ok X G (c.fact 63 (f := .free "int") rfl)
  have f_bool : mg "bool" = none := He.free_ok X G (c.fact 64 (f := .free "bool") rfl)
  have f_tuple : mg "tuple" = none := He.free_ok X G (c.fact 65 (f := .free "tuple") rfl)
  have f_list : mg "list" = none := He.free_ok X G (c.fact 66 (f := .free "list") rfl)
  have f_set : mg "set" = none := He.free_ok X G (c.fact 67 (f := .free "set") rfl)
  have f_abs : mg "abs" = none := He.free_ok X G (c.fact 68 (f := .free "abs") rfl)
  have f_max : mg "max" = none := He.free_ok X G (c.fact 69 (f := .free "max") rfl)
  have f_min : mg "min" = none := He.free_ok X G (c.fact 70 (f := .free "min") rfl)
  have f_range : mg "range" = none := He.free_ok X G (c.fact 71 (f := .free "range") rfl)
  have f_any : mg "any" = none := He.free_ok X G (c.fact 72 (f := .free "any") rfl)
  have f_all : mg "all" = none := He.free_ok X G (c.fact 73 (f := .free "all") rfl)
  have f_sorted : mg "sorted" = none := He.free_ok X G (c.fact 74 (f := .free "sorted") rfl)
  have f_isinstance : mg "isinstance" = none := He.free_ok X G (c.fact 75 (f := .free "isinstance") rfl)
  have f_str : mg "str" = none := He.free_ok X G (c.fact 76 (f := .free "str") rfl)
  have f_dict : mg "dict" = none := He.free_ok X G (c.fact 77 (f := .free "dict") rfl)
  have f_zip : mg "zip" = none := He.free_ok X G (c.fact 78 (f := .free "zip") rfl)
  have f_enumerate : mg "enumerate" = none := He.free_ok X G (c.fact 79 (f := .free "enumerate") rfl)
  have f_repr : mg "repr" = none := He.free_ok X G (c.fact 80 (f := .free "repr") rfl)
  have i_MAX_LETTERS := He.int_ok X G (c.fact 81 (f := .int "MAX_LETTERS" 8) rfl)
  have i_MAX_PERIOD := He.int_ok X G (c.fact 82 (f := .int "MAX_PERIOD" 400) rfl)
  have i_MAX_TIMES := He.int_ok X G (c.fact 83 (f := .int "MAX_TIMES" 2) rfl)
  have i_MAX_DOMAINS := He.int_ok X G (c.fact 84 (f := .int "MAX_DOMAINS" 3) rfl)
  have i_MAX_VALUES := He.int_ok X G (c.fact 85 (f := .int "MAX_VALUES" 8) rfl)
  have t_TIME := He.str_ok X G (c.fact 86 (f := .str "TIME" "time") rfl)
  have t_NOW := He.str_ok X G (c.fact 87 (f := .str "NOW" "now") rfl)
  have t_LETTERS := He.str_ok X G (c.fact 88 (f := .str "LETTERS" "abcdefghijklmnopqrstuvwxyz") rfl)
  have o_ANY : mg "ANY" = some (.ref (He.ga K "ANY")) := He.glo_ok X G (c.fact 89 (f := .glo "ANY") rfl)
  have T : Fre mg := ⟨f_len, f_int, f_bool, f_tuple, f_list, f_set, f_abs, f_max, f_min, f_range, f_any, f_all, f_sorted, f_isinstance, f_str, f_dict, f_zip, f_enumerate⟩
  have fRepr := f_repr
  have G : Glb K mg := ⟨t_TIME, t_NOW, t_LETTERS, i_MAX_LETTERS, i_MAX_PERIOD, i_MAX_TIMES, i_MAX_DOMAINS, i_MAX_VALUES, o_ANY, any2⟩
  have eL := hfa.symm.trans g61
  cases eL
  have bl := FunD.bindsA (ps := ["_law_script"]) F61 fun _ _ _ _ _ _ us hl => match us, hl with | [_], _ => rfl
  refine ⟨x0, x1, ⟨g56, ?_⟩, ⟨g57, ?_⟩, fun c0 c1 PT hcn1 hcn2 hne => ⟨fd61, fun s v => bl s [v] rfl, fun base _ _ TB TBR => ?_⟩⟩
  · obtain ⟨oc, od, dV, kV, doc, pm, an, cdv, ct, osl, e, lk, _⟩ := F56.ex
    exact ⟨_, _, lk, rfl⟩
  · obtain ⟨oc, od, dV, kV, doc, pm, an, cdv, ct, osl, e, lk, _⟩ := F57.ex
    exact ⟨_, _, lk, rfl⟩
  have hcd := code_of hcn1 F56
  have hcdR := code_of hcn2 F57
  have Dis_integer : Df P w K mg base 1 "is_integer" ["value"] (spIsInt K) := ⟨⟨_, ok_isInt F0 T, b0⟩, F0.kp, g0⟩
  have Dis_between : Df P w K mg base 2 "is_between" ["value", "least", "most"] spBetween := ⟨⟨_, ok_between F1 Dis_integer, b1⟩, F1.kp, g1⟩
  have Dis_bound : Df P w K mg base 2 "is_bound" ["value"] spBound := ⟨⟨_, ok_bound F2 Dis_integer, b2⟩, F2.kp, g2⟩
  have Drequire_period : Df P w K mg base 3 "require_period" ["period"] spReqP := ⟨⟨_, ok_reqP F3 G Dis_between, b3⟩, F3.kp, g3⟩
  have Dgreater_of : Df P w K mg base 1 "greater_of" ["one", "other"] (spTwo Zn.grt) := ⟨⟨_, ok_greater F4 T, b4⟩, F4.kp, g4⟩
  have Dlesser_of : Df P w K mg base 1 "lesser_of" ["one", "other"] (spTwo Zn.lst) := ⟨⟨_, ok_lesser F5 T, b5⟩, F5.kp, g5⟩
  have Dplus : Df P w K mg base 1 "plus" ["one", "other"] (spTwo Zn.pls) := ⟨⟨_, ok_plus F6, b6⟩, F6.kp, g6⟩
  have Dminus : Df P w K mg base 1 "minus" ["one", "other"] (spTwo Zn.mns) := ⟨⟨_, ok_minus F7, b7⟩, F7.kp, g7⟩
  have Dis_empty_pair : Df P w K mg base 1 "is_empty_pair" ["pair"] (spEmptyP K) := ⟨⟨_, ok_emptyP F8, b8⟩, F8.kp, g8⟩
  have Drounded : Df P w K mg base 1 "rounded" ["period", "residue", "pair"] (spRounded K) := ⟨⟨_, ok_rounded F9 T, b9⟩, F9.kp, g9⟩
  have Dgap_residue : Df P w K mg base 1 "gap_residue" ["period", "spans"] (spGapRes K) := ⟨⟨_, ok_gapRes F10 T, b10⟩, F10.kp, g10⟩
  have Dis_name : Df P w K mg base 1 "is_name" ["value"] spName := ⟨⟨_, ok_name F11 T G, b11⟩, F11.kp, g11⟩
  have Dis_column_name : Df P w K mg base 2 "is_column_name" ["value"] spCol := ⟨⟨_, ok_col F12 G Dis_name, b12⟩, F12.kp, g12⟩
  have Dis_domain : Df P w K mg base 2 "is_domain" ["value"] (spDomain K) := ⟨⟨_, ok_domain F13 T G Dis_name, b13⟩, F13.kp, g13⟩
  have Dtimes_in : Df P w K mg base 1 "times_in" ["shape"] (spNames K tms) := ⟨⟨_, ok_timesIn F14 T G, b14⟩, F14.kp, g14⟩
  have Ddomains_in : Df P w K mg base 1 "domains_in" ["shape"] (spNames K dms) := ⟨⟨_, ok_domsIn F15 T G, b15⟩, F15.kp, g15⟩
  have Dis_kind : Df P w K mg base 3 "is_kind" ["value"] (spKind K) := ⟨⟨_, ok_kind F16 T G Dis_domain, b16⟩, F16.kp, g16⟩
  have Dis_shape : Df P w K mg base 4 "is_shape" ["value"] (spShape K (.bl true)) := ⟨⟨_, ok_shape F17 T G Dis_column_name Dis_kind Dtimes_in, b17⟩, F17.kp, g17⟩
  have Drequire_shape : Df P w K mg base 5 "require_shape" ["shape"] (spShape K .non) := ⟨⟨_, ok_reqShape F18 Dis_shape, b18⟩, F18.kp, g18⟩
  have Dis_value_of : Df P w K mg base 2 "is_value_of" ["kind", "value"] (spValue K) := ⟨⟨_, ok_value F19 T G Dis_integer, b19⟩, F19.kp, g19⟩
  have Dis_span : Df P w K mg base 3 "is_span" ["period", "value"] (spSpan K) := ⟨⟨_, ok_span F20 T Dis_bound Dis_between, b20⟩, F20.kp, g20⟩
  have Dis_gap : Df P w K mg base 3 "is_gap" ["value", "times"] (spGap K) := ⟨⟨_, ok_gap F21 T G Dis_bound, b21⟩, F21.kp, g21⟩
  have Dis_zone_in : Df P w K mg base 4 "is_zone_in" ["shape", "period", "value"] (spZoneJ K) := ⟨⟨_, ok_zone F22 T G Ddomains_in Dtimes_in Dis_value_of Dis_span Dis_gap, b22⟩, F22.kp, g22⟩
  have Drequire_zone : Df P w K mg base 5 "require_zone" ["shape", "period", "zone"] (spZone K .non) := ⟨⟨_, ok_reqZone F23 Dis_zone_in, b23⟩, F23.kp, g23⟩
  have Drequire_all : Df P w K mg base 6 "require_all" ["shape", "period", "zone"] (spAll K) := ⟨⟨_, ok_reqAll F24 Drequire_shape Drequire_period Drequire_zone, b24⟩, F24.kp, g24⟩
  have Dclosed : Df P w K mg base 2 "closed" ["first", "second", "gap"] (spClosed K) := ⟨⟨_, ok_closed F25 Dgreater_of Dlesser_of Dplus Dminus, b25⟩, F25.kp, g25⟩
  have Dtight_two : Df P w K mg base 3 "tight_two" ["period", "spans", "gap"] (spTight K) := ⟨⟨_, ok_tight F26 T Dgap_residue Drounded Dis_empty_pair Dclosed, b26⟩, F26.kp, g26⟩
  have Dnormal_in : Df P w K mg base 4 "normal_in" ["period", "zone"] (spNormIn K) := ⟨⟨_, ok_normIn F27 T G Dtight_two Drounded Dis_empty_pair, b27⟩, F27.kp, g27⟩
  have Dnormal : Df P w K mg base 7 "normal" ["shape", "period", "zone"] (spNormal K) := ⟨⟨_, ok_normal F28 Drequire_all Dnormal_in, b28⟩, F28.kp, g28⟩
  have D_law_dice : Df P w K mg base 1 "_law_dice" ["_law_script", "_law_spot"] (spDice K) := ⟨⟨_, ok_dice F29 T, b29⟩, F29.kp, g29⟩
  have D_law_roll : Df P w K mg base 1 "_law_roll" ["_law_dice_here", "_law_many"] spRoll := ⟨⟨_, ok_roll F30 T, b30⟩, F30.kp, g30⟩
  have D_law_pick : Df P w K mg base 2 "_law_pick" ["_law_dice_here", "_law_items"] (spPick K) := ⟨⟨_, ok_pick F31 T D_law_roll, b31⟩, F31.kp, g31⟩
  have D_law_near : Df P w K mg base 2 "_law_near" ["_law_dice_here", "_law_far"] spNear := ⟨⟨_, ok_near F32 D_law_roll, b32⟩, F32.kp, g32⟩
  have D_law_bound : Df P w K mg base 3 "_law_bound" ["_law_dice_here", "_law_far"] spBoundL := ⟨⟨_, ok_boundL F33 D_law_roll D_law_near D_law_pick, b33⟩, F33.kp, g33⟩
  have D_law_pair : Df P w K mg base 4 "_law_pair" ["_law_dice_here", "_law_far"] spPair := ⟨⟨_, ok_pair F34 D_law_roll D_law_bound, b34⟩, F34.kp, g34⟩
  have D_law_residue : Df P w K mg base 2 "_law_residue" ["_law_dice_here", "_law_period"] spResidue := ⟨⟨_, ok_residue F35 D_law_roll, b35⟩, F35.kp, g35⟩
  have D_law_span : Df P w K mg base 5 "_law_span" ["_law_dice_here", "_law_period", "_law_far"] spSpanL := ⟨⟨_, ok_spanL F36 D_law_residue D_law_pair, b36⟩, F36.kp, g36⟩
  have D_law_mixed : Df P w K mg base 2 "_law_mixed" ["_law_dice_here", "_law_items"] (spMixed K) := ⟨⟨_, ok_mixed F37 T D_law_roll, b37⟩, F37.kp, g37⟩
  have D_law_times_of : Df P w K mg base 1 "_law_times_of" ["_law_shape_here"] (spNames K tms) := ⟨⟨_, ok_timesOf F38 T, b38⟩, F38.kp, g38⟩
  have D_law_domains_of : Df P w K mg base 1 "_law_domains_of" ["_law_shape_here"] (spNames K dms) := ⟨⟨_, ok_domsOf F39 T, b39⟩, F39.kp, g39⟩
  have D_law_shape : Df P w K mg base 3 "_law_shape" ["_law_dice_here", "_law_most"] (spShapeL K) := ⟨⟨_, ok_shapeL F40 T D_law_mixed D_law_pick, b40⟩, F40.kp, g40⟩
  have D_law_zone : Df P w K mg base 6 "_law_zone" ["_law_dice_here", "_law_shape_here", "_law_period", "_law_far"] (spZoneL K) := ⟨⟨_, ok_zoneL F41 T D_law_roll D_law_pick D_law_pair D_law_span D_law_times_of D_law_domains_of, b41⟩, F41.kp, g41⟩
  have D_law_between : Df P w K mg base 1 "_law_between" ["_law_one", "_law_pair_here"] (spBetw K) := ⟨⟨_, ok_betw F42, b42⟩, F42.kp, g42⟩
  have D_law_parts_of : Df P w K mg base 1 "_law_parts_of" ["_law_shape_here", "_law_row"] (spParts K) := ⟨⟨_, ok_parts F43 T, b43⟩, F43.kp, g43⟩
  have D_law_in_zone : Df P w K mg base 2 "_law_in_zone" ["_law_shape_here", "_law_period", "_law_zone_here", "_law_row"] (spInZone K) := ⟨⟨_, ok_inZone F44 T D_law_parts_of D_law_between, b44⟩, F44.kp, g44⟩
  have Dis_zone : Df P w K mg base 6 "is_zone" ["shape", "period", "value"] (spZoneT K) := ⟨⟨_, ok_zoneF F45 Drequire_shape Drequire_period Dis_zone_in, b45⟩, F45.kp, g45⟩
  have Dis_normal : Df P w K mg base 7 "is_normal" ["shape", "period", "value"] (spIsNorm K) := ⟨⟨_, ok_isNorm F46 Dis_zone Dnormal_in, b46⟩, F46.kp, g46⟩
  have D_law_rounded : Df P w K mg base 1 "_law_rounded" ["_law_period", "_law_residue_here", "_law_low", "_law_high"] spRndL := ⟨⟨_, ok_rndL F47 T, b47⟩, F47.kp, g47⟩
  have D_law_meet : Df P w K mg base 1 "_law_meet" ["_law_one", "_law_two"] (spMeetL K) := ⟨⟨_, ok_meetL F48 T, b48⟩, F48.kp, g48⟩
  have D_law_plus : Df P w K mg base 1 "_law_plus" ["_law_pair_here", "_law_many"] (spPlusL K) := ⟨⟨_, ok_plusL F49 T, b49⟩, F49.kp, g49⟩
  have D_law_turned : Df P w K mg base 1 "_law_turned" ["_law_pair_here"] (spTurned K) := ⟨⟨_, ok_turned F50 T, b50⟩, F50.kp, g50⟩
  have D_law_has_time : Df P w K mg base 2 "_law_has_time" ["_law_period", "_law_zone_here", "_law_place", "_law_time"] (spHasT K) := ⟨⟨_, ok_hasT F51 T D_law_between D_law_meet D_law_plus D_law_turned D_law_rounded, b51⟩, F51.kp, g51⟩
  have D_law_has_gap : Df P w K mg base 2 "_law_has_gap" ["_law_period", "_law_zone_here", "_law_many"] (spHasG K) := ⟨⟨_, ok_hasG F52 T D_law_between D_law_meet D_law_plus D_law_rounded, b52⟩, F52.kp, g52⟩
  have D_law_known : Df P w K mg base 1 "_law_known" ["_law_zone_here"] (spKnown K) := ⟨⟨_, ok_known F53 T, b53⟩, F53.kp, g53⟩
  have D_law_is_empty : Df P w K mg base 3 "_law_is_empty" ["_law_period", "_law_zone_here"] (spIsEmp K) := ⟨⟨_, ok_isEmp F54 T D_law_known D_law_has_time, b54⟩, F54.kp, g54⟩
  have D_law_bound_right : Df P w K mg base 5 "_law_bound_right" ["_law_has", "_law_told", "_law_far", "_law_period"] (spBR P w K mg base) := ⟨⟨_, ok_boundR F55 T, b55⟩, F55.kp, g55⟩
  have D_law_pair_right : Df P w K mg base 6 "_law_pair_right" ["_law_has", "_law_pair_here", "_law_period"] (spPR P w K mg base PT) := ⟨⟨_, ok_pairR F56 hne hcd TB D_law_bound_right, b56⟩, F56.kp, g56⟩
  have D_law_told_right : Df P w K mg base 7 "_law_told_right" ["_law_period", "_law_zone_here", "_law_found"] (spToldR K PT) := ⟨⟨_, ok_toldR F57 T hne hcdR TBR D_law_has_time D_law_has_gap D_law_pair_right, b57⟩, F57.kp, g57⟩
  have D_law_bent : Df P w K mg base 3 "_law_bent" ["_law_dice_here", "_law_zone_here"] (spBent K) := ⟨⟨_, ok_bent F58 T D_law_roll D_law_pick, b58⟩, F58.kp, g58⟩
  have D_law_rows_right : Df P w K mg base 3 "_law_rows_right" ["_law_dice_here", "_law_shape_here", "_law_period", "_law_zone_here", "_law_found"] (spRowsR K) := ⟨⟨_, ok_rowsR F59 T D_law_pick D_law_near D_law_known D_law_in_zone, b59⟩, F59.kp, g59⟩
  have D_law_right : Df P w K mg base 8 "_law_right" ["_law_dice_here"] (spRight PT) := ⟨⟨_, ok_right F60 T fRepr D_law_pick D_law_shape D_law_zone Dnormal Dis_normal D_law_is_empty D_law_told_right D_law_bent D_law_rows_right, b60⟩, F60.kp, g60⟩
  exact ok_law F61 T Dnormal D_law_dice D_law_right
end TM
open PySem PySem.W PySem.Calls PyProof.Rows
theorem PySem.Challenge.cw_everwhen_k10_normal_zones_holds : PySem.Challenge.rw_everwhen_k10_normal_zones.Holds := by
  w_on; o_law
  refine HandSHeadRun.head_any (r := OpenLaw.row PySem.Challenge.rw_everwhen_k10_normal_zones) (q := view (OpenLaw.row PySem.Challenge.rw_everwhen_k10_normal_zones).prog [78, 73, 74]) (H := TM.hk) (ob := TM.obz) (M := 20000) (loose := TM.loose) (d := HandSHeadRun.topDef (OpenLaw.row PySem.Challenge.rw_everwhen_k10_normal_zones).prog 78) (kwd := []) TM.ob_eq
    (by kernel_rfl) (fun s => by kernel_rfl) TM.run (by kernel_rfl) (by kernel_rfl) (by kernel_rfl) (by rfl) (by first | assumption | decide +kernel) (by decide +kernel) ⟨rfl, rfl, rfl, rfl, rfl, by decide +kernel⟩ ?hw ?hc
  case hw => w_witness2
  case hc =>
    refine EW.walkT2 (l := PySem.Challenge.rw_everwhen_k10_normal_zones) (n := 63) (k := 9) (x := "_law_script") (y1 := "_law_pair_right") (y2 := "_law_told_right") (CX := L2.CX0) rfl (by decide) (by kernel_rfl) ⟨rfl, by decide, by decide⟩ (by kernel_rfl) (by kernel_rfl) ?F (fun _ _ _ _ z => z)
    intro w mg fa h Y G hmg0
    obtain ⟨K, KX, c, cx⟩ := Y
    have hmg : mg ("law" : PySem.Str) = some (.ref fa) := by
      have e : (HandSHeadRun.topDef (OpenLaw.row PySem.Challenge.rw_everwhen_k10_normal_zones).prog 78).name = ("law" : PySem.Str) := by kernel_rfl
      rw [← e]
      exact hmg0
    obtain ⟨h1, h2, h3, h4, hF⟩ := TM.facts (P := (PySem.Challenge.rw_everwhen_k10_normal_zones).prog) (w := w) KX G hmg c cx
    refine ⟨K, KX, h1, h2, h3, h4, fun c0 P0 c1 P1 hc0 hc1 hne => ?_⟩
    obtain ⟨fd, hb, hF⟩ := hF c0 c1 (P0, P1) hc0 hc1 hne
    exact ⟨fd, TM.spLaw K (P0, P1), hb, fun H a ns hl _ hH1 hH2 hS => ⟨a, ns, rfl, hS, hl, TM.tabs_nil hH1 hH2, fun _ => rfl⟩, hF⟩
end
