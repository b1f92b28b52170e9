import PyProof.Rows.All
import Wide.All
import OpenK.AllK
import Wide.FinOn
import HandS.HeadNt
import HandS.Head2
import HandS.HeadWalk
import PyProof.ReprReads
import KE.KExcInit
import KE.KExcIs
import HandS.ForMost
import HandS.Exc
import HandS.ExcOwn
import HandS.ExcValue
import HandS.ExcInit
import HandS.IsInst
import HandS.Wide
import HandS.Flow
import HandS.Defaults
import PyProof.ReprRoads
import HandS.EndBits
import HandS.HeadHook1
import HandS.HeadHook2
import HandS.HeadHook3
import HandS.HeadHook4
import HandS.Walk
import PyProof.CallFns
import HandS.Lambda
import HandS.OwnEq
import HandS.Small
import OpenK.KMeth
import OpenK.KOps
import HandS.More
import PyProof.Rows.Range3
import HandS.SortKw
import HandS.List
import KE.SortKeyHeap
import KE.DataMinMax
import KE.SortData
import HandS.Star
import KE.DataMinKey
import HandS.Conv
import HandS.SortInts
import HandS.DictComp
import HandS.Iter
import PyProof.Rows.StrMeet
import HandS.TupAny
import HandS.Zip
import KE.GoesZip
import KE.GoesMore
import HandS.SetFor
import HandS.Strs
import HandS.WordsDict
import HandS.RaiseMore
import HandS.TryMany
import HandS.ExcField
import HandS.ExcBuiltin
import PyProof.Rows.FactsExc_IndexError
import KE.KFmtOwn
import HandS.FStr
import KE.KDictZip
import KE.DatumOrd
import HandS.ClsMeth
import HandS.Property
import HandS.CallLocal
import HandS.TryOnly
import PyProof.EqKinds
import PyProof.NeKinds
import PyProof.Rows.SortShellAny
import HandS.ListItems
import HandS.Style
import HandS.TupMul
import PyProof.ReprLen
import PyProof.Rows.RegStrFacts
import PyProof.TupleOfStr
import KE.KStateDown
import Lean
import HandS.Head0
import HandS.Head1
import HandS.HeadEnd
import PySem.Challenge.RW_everwhen_k08_names_shapes_and_rows
set_option Elab.async false
set_option linter.all false
set_option maxRecDepth 100000
section
set_option maxHeartbeats 4000000
namespace EW
open PySem PySem.Spec PyProof.Rows L2
/-! ### the head's facts, with one more Bool: what the kernel's run looks at -/
def obsB (n : Nat) (fa : List He.Fa) (fn : List He5.DefA) (ex : W.Frag → Bool) (g : Addr → Option Obj) : He.AlD × Bool := (He5.obsA fa fn (He.frG g (He5.asA g n)), ex (He.frG g (He5.asA g n)))
def hookB (n : Nat) (fa : List He.Fa) (fn : List He5.DefA) (ex : W.Frag → Bool) : W.Hook where
  α := He.AlD × Bool
  obs := fun s => obsB n fa fn ex s.heap.get?
  val := fun _ => (He5.valA fn, true)
  says := fun _ h => ∃ K : W.Frag, K.In h ∧ He5.SaysA fa fn K ∧ ex K = true
  of := fun _ _ e => ⟨_, He.frG_in, congrArg (fun z : He.AlD × Bool => z.1) e, congrArg (fun z : He.AlD × Bool => z.2) e⟩
  keeps := fun _ _ _ ⟨K, hK, c⟩ k => ⟨K, W.Frag.In.keeps hK k, c⟩
theorem obsB_eq {n : Nat} {fa : List He.Fa} {fn : List He5.DefA} {ex : W.Frag → Bool} {g : Addr → Option Obj} {s : Shared} (h : ∀ a, g a = s.heap.get? a) : obsB n fa fn ex g = (hookB n fa fn ex).obs s := by
  have e : g = s.heap.get? := funext h
  rw [e] <;> rfl
def klB (K : W.Frag) (x : Str) : Bool := (He.Fa.glo x).ok K && ((He.Fa.mkr x).ok K && ((He.Fa.cls x).ok K && ((He.Fa.noat x "own_period").ok K && ((He.Fa.noat x "own_runs").ok K &&
  (He.eqO (W.findIn K (.ref (He.ga K x)) "__class__") (some (some (.builtin "object.__class__"))) && (He.eqO (W.specialIn K (.builtin "object.__class__") "__get__") (some (some (.builtin "getset_descriptor.__get__"))) &&
  (decide (W.takesIn K (.builtin "object.__class__") = some true) && (decide (W.mroIn K (He.ga K x) (.type "object") = some true) && W.selfFirst K (He.ga K x)))))))))
def propB (K : W.Frag) (C : Addr) (f : Str) : Bool := He.eqO (W.findIn K (.ref C) f) (some (some (.ref (He.ma K C f)))) && (He.eqO (W.specialIn K (.ref (He.ma K C f)) "__get__") (some (some (.builtin "property.__get__"))) &&
  (decide (W.takesIn K (.ref (He.ma K C f)) = some true) && (match W.recIn K (He.ma K C f) "property" with
    | some (.ref _ :: _) => true
    | _ => false)))
def creadB (K : W.Frag) (C : Addr) : Bool := W.readsIn K C (.type "type") && He.eqO (W.specialIn K (.ref C) "__getattribute__") (some (some (.builtin "type.__getattribute__")))
def cmetB (K : W.Frag) (C : Addr) (m : Str) : Bool := He5.wrapB K C "classmethod" "classmethod.__get__" m && W.fnIn K (He5.wf K C "classmethod" m)
def kitB1 (K : W.Frag) (t u : Value) (b : Bool) : Bool := decide (W.kitOne K t u = some b)
def findB (K : W.Frag) (C : Addr) (m : Str) (id : String) : Bool := He.eqO (W.findIn K (.ref C) m) (some (some (.builtin id)))
def twoNonB (K : W.Frag) (x : Str) : Bool := match K.lookup (He.ga K x) with
  | some o => decide (o.cls = .type "tuple") && (match o.data with
    | .seq its _ => decide (its.toList = [.none, .none])
    | _ => false)
  | none => false
def threeNonB (K : W.Frag) (x : Str) : Bool := match K.lookup (He.ga K x) with
  | some o => decide (o.cls = .type "tuple") && (match o.data with
    | .seq its _ => decide (its.toList = [.none, .none, .none])
    | _ => false)
  | none => false
end EW
end

section
set_option maxHeartbeats 4000000
/-! EwHeadT: the head's run where defs make lambdas: tables of code objects are left out of what is known. -/
namespace EW
open PySem PySem.Spec PyProof.Rows L2 HandSHeadRun
def isTab (o : Obj) : Bool := match o.data with
  | .fields vs => vs.isEmpty
  | _ => false
def asT (g : Addr → Option Obj) (n : Nat) : List Addr := (He5.asA g n).filter fun a => match g a with
  | some o => !isTab o
  | none => true
def obsT (n : Nat) (fa : List He.Fa) (fn : List He5.DefA) (ex : W.Frag → Bool) (g : Addr → Option Obj) : He.AlD × Bool := (He5.obsA fa fn (He.frG g (asT g n)), ex (He.frG g (asT g n)))
def hookT (n : Nat) (fa : List He.Fa) (fn : List He5.DefA) (ex : W.Frag → Bool) : W.Hook where
  α := He.AlD × Bool
  obs := fun s => obsT n fa fn ex s.heap.get?
  val := fun _ => (He5.valA fn, true)
  says := fun _ h => ∃ K : W.Frag, K.In h ∧ He5.SaysA fa fn K ∧ ex K = true
  of := fun _ _ e => ⟨_, He.frG_in, congrArg (fun z : He.AlD × Bool => z.1) e, congrArg (fun z : He.AlD × Bool => z.2) e⟩
  keeps := fun _ _ _ ⟨K, hK, c⟩ k => ⟨K, W.Frag.In.keeps hK k, c⟩
theorem obsT_eq {n : Nat} {fa : List He.Fa} {fn : List He5.DefA} {ex : W.Frag → Bool} {g : Addr → Option Obj} {s : Shared} (h : ∀ a, g a = s.heap.get? a) : obsT n fa fn ex g = (hookT n fa fn ex).obs s := by
  have e : g = s.heap.get? := funext h
  rw [e] <;> rfl
/-- what the looks are taken at -/
def KK (n : Nat) (s : W.SharedT) : W.Frag := He.frG (getT s) (asT (getT s) n)
def exAll (ex : List (W.Frag → Bool)) (K : W.Frag) : Bool := ex.all fun e => e K
theorem exAll_at {ex : List (W.Frag → Bool)} {K : W.Frag} (c : exAll ex K = true) (i : Nat) {e : W.Frag → Bool} (h : ex[i]? = some e) : e K = true := List.all_eq_true.mp c e (List.mem_of_getElem? h)
theorem all_flat {α : Type} {p : α → Bool} {ls : List (List α)} (h : ∀ l ∈ ls, l.all p = true) : ls.flatten.all p = true := by
  rw [List.all_eq_true]
  intro x hx
  obtain ⟨l, hl, hx⟩ := List.mem_flatten.mp hx
  exact List.all_eq_true.mp (h l hl) x hx
theorem map_flat {α β : Type} {f g : α → β} {ls : List (List α)} (h : ∀ l ∈ ls, l.map f = l.map g) : ls.flatten.map f = ls.flatten.map g := by
  induction ls with
  | nil => rfl
  | cons l ls ih =>
    rw [List.flatten_cons, List.map_append, List.map_append, h l List.mem_cons_self, ih fun l hl => h l (List.mem_cons_of_mem _ hl)]
theorem run_parts {β : Type} {o : Option W.SharedT} {A : W.SharedT → Bool} {B : W.SharedT → β} {b : β} {n : Nat} {fa : List He.Fa} {fn : List He5.DefA} {ex : List (W.Frag → Bool)} {fas : List (List He.Fa)} {fns : List (List He5.DefA)} {exs : List (List (W.Frag → Bool))}
    (hAB : o.map (fun s => (A s, B s)) = some (true, b)) (efa : fa = fas.flatten) (efn : fn = fns.flatten) (eex : ex = exs.flatten)
    (hfa : ∀ l ∈ fas, o.map (fun s => l.all fun f => f.ok (KK n s)) = some true) (hex : ∀ l ∈ exs, o.map (fun s => l.all fun e => e (KK n s)) = some true)
    (hfn : ∀ l ∈ fns, o.map (fun s => (l.all fun d => d.ok (KK n s), l.map fun d => He5.fnA (KK n s) (d.at_ (KK n s)))) = some (true, l.map He5.DefA.val)) :
    o.map (fun s => (A s, B s, obsT n fa fn (exAll ex) (getT s))) = some (true, b, (He5.valA fn, true)) := by
  cases o with
  | none => cases hAB
  | some s =>
    have hAB : (A s, B s) = (true, b) := Option.some.inj hAB
    obtain ⟨h1, h2⟩ := Prod.mk.inj hAB
    have q1 : (fa.all fun f => f.ok (KK n s)) = true := by
      rw [efa]
      exact all_flat fun l hl => Option.some.inj (hfa l hl)
    have q2 : (ex.all fun e => e (KK n s)) = true := by
      rw [eex]
      exact all_flat fun l hl => Option.some.inj (hex l hl)
    have q3 : (fn.all fun d => d.ok (KK n s)) = true := by
      rw [efn]
      exact all_flat fun l hl => (Prod.mk.inj (Option.some.inj (hfn l hl))).1
    have q4 : fn.map (fun d => He5.fnA (KK n s) (d.at_ (KK n s))) = fn.map He5.DefA.val := by
      rw [efn]
      exact map_flat fun l hl => (Prod.mk.inj (Option.some.inj (hfn l hl))).2
    show some (A s, B s, (((fa.all fun f => f.ok (KK n s)) && fn.all fun d => d.ok (KK n s), fn.map fun d => He5.fnA (KK n s) (d.at_ (KK n s))), ex.all fun e => e (KK n s))) = _
    rw [h1, h2, q1, q2, q3, q4]
    rfl
/-- no table is known of -/
def noTabB (K : W.Frag) : Bool := K.all fun p => !isTab p.2
theorem lookup_mem {α β : Type} [BEq α] [LawfulBEq α] : ∀ {l : List (α × β)} {a : α} {b : β}, l.lookup a = some b → (a, b) ∈ l
  | (x, y) :: l, a, b, h => by
    rw [List.lookup_cons] at h
    split at h
    · rename_i e
      have e := eq_of_beq e
      cases h
      rw [e]
      exact List.mem_cons_self
    · exact List.mem_cons_of_mem _ (lookup_mem h)
theorem noTab_ok {K : W.Frag} (c : noTabB K = true) {P : Addr} {h : Heap} (X : K.In h) (e : h.get? P = some { cls := .none, data := .fields #[] }) : K.lookup P = none := by
  cases q : K.lookup P with
  | none => rfl
  | some o =>
    have e1 := X P o q
    rw [e] at e1
    cases e1
    have := List.all_eq_true.mp c _ (lookup_mem q)
    cases this
/-- a def's own code -/
theorem code_of {K : W.Frag} {x qual : Str} {params : Arguments} {body : List Stmt} {scope : Scope} {dvs : List V} {kws : List (Str × V)} {f c : Addr} {fd : FuncData} (h : ∀ (o : Obj) (fd : FuncData), K.lookup f = some o → o.data = .func fd → fd.code = .ref c) (F : FunD K x qual params body scope dvs kws f fd) : fd.code = .ref c := by
  obtain ⟨oc, od, dV, kV, doc, pm, an, cdv, ct, osl, e, lk, _⟩ := F.ex
  exact h _ fd lk rfl
/-- the end of a law row: one def makes lambdas, and its table is empty when the law is called -/
theorem walkT {l : W.OpenLaw} {n k : Nat} {q : Program} {loose : List Str} {XP : (Str → Option Value) → Heap → Prop} {YP : World → Heap → Prop} {d : DefRec} {CX : CXT} {x y : Str}
    (hn : l.most = some n) (hn2 : n ≤ sizeLine) (hdf : d.params.defaults = []) (hr : Room k callerA) (hrec : ((recsOf q).any fun e => e.name == y) = true)
    (F : ∀ (w : World) (mg : Str → Option Value) (fa : Addr) (h : Heap), YP w h → h.Ns mainGlobals mg → mg d.name = some (.ref fa) →
      ∃ K : W.Frag, K.In h ∧ noTabB K = true ∧ mg y = some (.ref (He.ga K y)) ∧ (∃ (o : Obj) (fd : FuncData), K.lookup (He.ga K y) = some o ∧ o.data = .func fd) ∧
        ∀ c P : Addr, (∀ (o : Obj) (fd : FuncData), K.lookup (He.ga K y) = some o → o.data = .func fd → fd.code = .ref c) → ∃ (fd : FuncData) (sp : Sp), (∀ (s : Shared) (u : Value), BindsTo s fd ⟨[u], []⟩ [(x, u)]) ∧
          (∀ (H : Hp) (a : Addr) (ns : List Int), ns.length ≤ n → (∀ z ∈ ns, Builtin.Int.intBits z ≤ 1048576) → H P = some (.tbl #[]) → SqL K H a (ns.map V.int) → sp [.ref a] H (fun v _ => v = .bl true) fun _ _ _ => False) ∧
          ∀ base : Heap, K.In base → base.Ns mainGlobals mg → LamX.TabB base mg c P → FnOk l.prog w K mg base CX k fa fd [x] sp)
    (hCX : ∀ (H : Hp) (s : Shared) (e : Value) (s' : Shared), CX [] H s (fun _ _ _ => False) e s' → False) :
    W.WalkO q loose XP YP l.row.toRowW d [] (fun f vs => PySem.call f vs) := by
  refine Att.attach_callB hn hdf fun w s₀ s₁ mg mb fa o pm cd doc a vs ns G Y ho hd hcd hmg hobj hints hlen hbits hg => ?_
  obtain ⟨K, KX, nt, hy, ⟨o1, fd1, k1, k2⟩, F⟩ := F w mg fa _ Y G.T.g hmg
  obtain ⟨dL, hm, hn1⟩ := List.any_eq_true.mp hrec
  have hn2' : dL.name = y := beq_iff_eq.mp hn1
  obtain ⟨a', o', fd', c, P, h1, h2, h3, h4, h5, h6⟩ := G.T.tab dL hm
  rw [hn2', hy] at h1
  cases h1
  have g1 := KX _ _ k1
  rw [g1] at h2
  cases h2
  rw [k2] at h3
  cases h3
  obtain ⟨fd, sp, hb, hsp, hF⟩ := F c P fun o2 fd2 l1 l2 => by
    rw [k1] at l1
    cases l1
    rw [k2] at l2
    cases l2
    exact h4
  have hP := h6.2
  refine LamX.law_callTs (cs := [(c, P)]) KX G.T.g G.T.b G.T.builtins G.T.nolimit hg (fun p hp => ?_) (fun p hp => ?_) (fun p hp => ?_) G.T.bmain hobj hints (Nat.le_trans hlen hn2) hr (fun base kb nb tb => hF base kb nb (tb (c, P) (List.mem_singleton.mpr rfl))) hb (fun H hH hS => hsp H a ns hlen hbits (hH (c, P) (List.mem_singleton.mpr rfl)) hS) fun H e s' => hCX H s₁ e s'
  · rw [List.mem_singleton.mp hp]
    exact hP
  · rw [List.mem_singleton.mp hp]
    exact noTab_ok nt KX hP
  · rw [List.mem_singleton.mp hp]
    exact W.CodeHd.of h5 h6
end EW
end

section
set_option maxHeartbeats 4000000
/-! EwHeadT2: the head's run where two defs make lambdas. -/
namespace EW
open PySem PySem.Spec PyProof.Rows L2 HandSHeadRun
/-- where a def's table of code objects stands -/
def tabAt (K : W.Frag) (x : Str) : Option Addr := match K.lookup (He.ga K x) with
  | some ⟨_, _, .func fd, _⟩ => (match fd.code with
    | .ref c => (match K.lookup c with
      | some ⟨_, _, .fields vs, _⟩ => (match (vs[11]? : Option Value) with
        | some (.ref P) => some P
        | _ => none)
      | _ => none)
    | _ => none)
  | _ => none
def tabsNeB (K : W.Frag) (x y : Str) : Bool := match tabAt K x, tabAt K y with
  | some a, some b => a != b
  | _, _ => false
theorem tabAt_is {K : W.Frag} {x : Str} {P' c P : Addr} {base : Heap} (h : tabAt K x = some P') (hc : ∀ (o : Obj) (fd : FuncData), K.lookup (He.ga K x) = some o → o.data = .func fd → fd.code = .ref c) (X : K.In base) (cd : W.CodeHd base c P) : P = P' := by
  unfold tabAt at h
  split at h
  · rename_i e
    have e1 := hc _ _ e rfl
    rw [e1] at h
    dsimp only at h
    split at h
    · rename_i e2
      have e3 := X _ _ e2
      obtain ⟨o, vs, _, _, _, _, _, _, _, q1, _, q3, q4, _⟩ := cd
      rw [e3] at q1
      cases q1
      cases q3
      rw [q4] at h
      exact Option.some.inj h
    · cases h
  · cases h
theorem tabs_ne {K : W.Frag} {x y : Str} {c1 P1 c2 P2 : Addr} {base : Heap} (h : tabsNeB K x y = true) (h1 : ∀ (o : Obj) (fd : FuncData), K.lookup (He.ga K x) = some o → o.data = .func fd → fd.code = .ref c1) (h2 : ∀ (o : Obj) (fd : FuncData), K.lookup (He.ga K y) = some o → o.data = .func fd → fd.code = .ref c2)
    (X : K.In base) (d1 : W.CodeHd base c1 P1) (d2 : W.CodeHd base c2 P2) : P1 ≠ P2 := by
  unfold tabsNeB at h
  split at h
  · rename_i a b ea eb
    rw [tabAt_is ea h1 X d1, tabAt_is eb h2 X d2]
    intro z
    rw [z] at h
    simp at h
  · cases h
/-- the end of a law row: two defs make lambdas -/
theorem walkT2 {l : W.OpenLaw} {n k : Nat} {q : Program} {loose : List Str} {XP : (Str → Option Value) → Heap → Prop} {YP : World → Heap → Prop} {d : DefRec} {CX : CXT} {x y1 y2 : Str}
    (hn : l.most = some n) (hn2 : n ≤ sizeLine) (hdf : d.params.defaults = []) (hr : Room k callerA) (hrec1 : ((recsOf q).any fun e => e.name == y1) = true) (hrec2 : ((recsOf q).any fun e => e.name == y2) = true)
    (F : ∀ (w : World) (mg : Str → Option Value) (fa : Addr) (h : Heap), YP w h → h.Ns mainGlobals mg → mg d.name = some (.ref fa) →
      ∃ K : W.Frag, K.In h ∧ noTabB K = true ∧ tabsNeB K y1 y2 = true ∧ (mg y1 = some (.ref (He.ga K y1)) ∧ ∃ (o : Obj) (fd : FuncData), K.lookup (He.ga K y1) = some o ∧ o.data = .func fd) ∧ (mg y2 = some (.ref (He.ga K y2)) ∧ ∃ (o : Obj) (fd : FuncData), K.lookup (He.ga K y2) = some o ∧ o.data = .func fd) ∧
        ∀ c1 P1 c2 P2 : Addr, (∀ (o : Obj) (fd : FuncData), K.lookup (He.ga K y1) = some o → o.data = .func fd → fd.code = .ref c1) → (∀ (o : Obj) (fd : FuncData), K.lookup (He.ga K y2) = some o → o.data = .func fd → fd.code = .ref c2) → P1 ≠ P2 → ∃ (fd : FuncData) (sp : Sp), (∀ (s : Shared) (u : Value), BindsTo s fd ⟨[u], []⟩ [(x, u)]) ∧
          (∀ (H : Hp) (a : Addr) (ns : List Int), ns.length ≤ n → (∀ z ∈ ns, Builtin.Int.intBits z ≤ 1048576) → H P1 = some (.tbl #[]) → H P2 = some (.tbl #[]) → SqL K H a (ns.map V.int) → sp [.ref a] H (fun v _ => v = .bl true) fun _ _ _ => False) ∧
          ∀ base : Heap, K.In base → base.Ns mainGlobals mg → LamX.TabB base mg c1 P1 → LamX.TabB base mg c2 P2 → FnOk l.prog w K mg base CX k fa fd [x] sp)
    (hCX : ∀ (H : Hp) (s : Shared) (e : Value) (s' : Shared), CX [] H s (fun _ _ _ => False) e s' → False) :
    W.WalkO q loose XP YP l.row.toRowW d [] (fun f vs => PySem.call f vs) := by
  refine Att.attach_callB hn hdf fun w s₀ s₁ mg mb fa o pm cd doc a vs ns G Y ho hd hcd hmg hobj hints hlen hbits hg => ?_
  obtain ⟨K, KX, nt, tn, ⟨hy1, o1, fd1, k1, k2⟩, ⟨hy2, o2, fd2, k3, k4⟩, F⟩ := F w mg fa _ Y G.T.g hmg
  have tab : ∀ (y : Str) (o0 : Obj) (fd0 : FuncData), ((recsOf q).any fun e => e.name == y) = true → mg y = some (.ref (He.ga K y)) → K.lookup (He.ga K y) = some o0 → o0.data = .func fd0 → ∃ c P : Addr, fd0.code = .ref c ∧ s₁.heap.get? P = some { cls := .none, data := .fields #[] } ∧ W.CodeHd s₁.heap c P := fun y o0 fd0 hrec hy l1 l2 => by
    obtain ⟨dL, hm, hn1⟩ := List.any_eq_true.mp hrec
    have hn2' : dL.name = y := beq_iff_eq.mp hn1
    obtain ⟨a', o', fd', c, P, h1, h2, h3, h4, h5, h6⟩ := G.T.tab dL hm
    rw [hn2', hy] at h1
    cases h1
    have g1 := KX _ _ l1
    rw [g1] at h2
    cases h2
    rw [l2] at h3
    cases h3
    exact ⟨c, P, h4, h6.2, W.CodeHd.of h5 h6⟩
  obtain ⟨c1, P1, e1, p1, d1⟩ := tab y1 o1 fd1 hrec1 hy1 k1 k2
  obtain ⟨c2, P2, e2, p2, d2⟩ := tab y2 o2 fd2 hrec2 hy2 k3 k4
  have q1 : ∀ (o : Obj) (fd : FuncData), K.lookup (He.ga K y1) = some o → o.data = .func fd → fd.code = .ref c1 := fun o fd l1 l2 => by
    rw [k1] at l1
    cases l1
    rw [k2] at l2
    cases l2
    exact e1
  have q2 : ∀ (o : Obj) (fd : FuncData), K.lookup (He.ga K y2) = some o → o.data = .func fd → fd.code = .ref c2 := fun o fd l1 l2 => by
    rw [k3] at l1
    cases l1
    rw [k4] at l2
    cases l2
    exact e2
  obtain ⟨fd, sp, hb, hsp, hF⟩ := F c1 P1 c2 P2 q1 q2 (tabs_ne tn q1 q2 KX d1 d2)
  have m1 : (c1, P1) ∈ [(c1, P1), (c2, P2)] := List.mem_cons_self
  have m2 : (c2, P2) ∈ [(c1, P1), (c2, P2)] := List.mem_cons_of_mem _ List.mem_cons_self
  refine LamX.law_callTs (cs := [(c1, P1), (c2, P2)]) KX G.T.g G.T.b G.T.builtins G.T.nolimit hg (fun p hp => ?_) (fun p hp => ?_) (fun p hp => ?_) G.T.bmain hobj hints (Nat.le_trans hlen hn2) hr (fun base kb nb tb => hF base kb nb (tb _ m1) (tb _ m2)) hb (fun H hH hS => hsp H a ns hlen hbits (hH _ m1) (hH _ m2) hS) fun H e s' => hCX H s₁ e s'
  · rcases List.mem_cons.mp hp with e | e
    · rw [e]; exact p1
    · rw [List.mem_singleton.mp e]; exact p2
  · rcases List.mem_cons.mp hp with e | e
    · rw [e]; exact noTab_ok nt KX p1
    · rw [List.mem_singleton.mp e]; exact noTab_ok nt KX p2
  · rcases List.mem_cons.mp hp with e | e
    · rw [e]; exact d1
    · rw [List.mem_singleton.mp e]; exact d2
end EW
end

section
set_option maxHeartbeats 4000000
/-! Own exception classes over any built-in base, also one whose __new__ is its base's (KeyError): made, stored into, asked -/
namespace EW
open PySem PySem.Spec PyProof.Rows L2 PySem.HandSPX
abbrev keBases : List Value := [.type "KeyError", .type "LookupError", .type "Exception", .type "BaseException", .type "object"]
theorem keStore : StoreFacts "KeyError" keBases "object.__setattr__" "object" where
  mro := by kernel_rfl
  slot := .of (owner := "object") (n := "__setattr__")
    (by rw [typeLookup_type, builtinLookup_eq_fast]; kernel_rfl) (by decide +kernel) (by decide +kernel) (by decide +kernel)
    (by first | exact .inl (by decide +kernel) | exact .inr (by decide +kernel)) (by rw [isSubtype_type]; kernel_rfl)
  entry := F.entry_object_sa
  kind := by decide +kernel
  split := by decide +kernel
  hasOwner := by decide +kernel
  args := fun a b c => by
    unfold argsOk
    kernel_rfl
  passes := fun self => by kernel_rfl
/-- what a class of the mro bm must have, so that newId of Bn makes its instances -/
structure NewOk (C : Addr) (bm : List Value) (Bn : String) : Prop where
  has : (Value.ref C :: bm).contains (.type Bn) = true
  noA : (Value.ref C :: bm).contains (.type "AttributeError") = false
  noN : (Value.ref C :: bm).contains (.type "NameError") = false
section
variable {prog : Program} {w : World} {A : Around} {E : Value → Shared → Prop} {R : Result → Shared → Prop} {hp : Heap} {gs : Array GenState} {dr : Drawn} {tk : Nat} {os : OsState}
variable {nm qn : Str} {C nsp : Addr} {bs bm bmN : List Value} {hdc : Bool} {sn : List Str} {sub : List Value} {ab : Bool} {col : Option Bool} {dd : Option Addr} {k0 k1 k2 k3 k5 : Option Value} {Bn newId inN : String}
theorem chk_new {M : Model} (Fn : ExcBaseFacts Bn newId inN bmN) (O : NewOk C bm Bn) {rest : List Value} {Q : Unit → Shared → Prop}
    (hC : hp.get? C = some (excClassObj nm qn C nsp bs bm hdc sn sub ab col dd k0 k1 k2 k3 k5 newId)) (z : Q () ⟨hp, gs, dr, tk, os⟩) :
    wpAny M A (checkBuiltinCall newId ⟨.ref C :: rest, []⟩) Q E ⟨hp, gs, dr, tk, os⟩ := by
  have h1 := O.has
  have h2 := Fn.noStar
  simp only [checkBuiltinCall, Fn.newKind, Fn.newSplit, Fn.newRow]
  repeat (first
    | refine wpAny_loadPart_at hC ?_
    | (refine wpAny_isSubtype_exc hC ?_; rw [h1])
    | refine wpAny_staticBase_exc hC ?_
    | refine wpAny_madeBy_exc hC ?_
    | simp only [bne_self_eq_false, Bool.false_eq_true, if_false]
    | wp_step)
  exact z
theorem run_new (Fn : ExcBaseFacts Bn newId inN bmN) (O : NewOk C bm Bn) {rest : List Value}
    (hC : hp.get? C = some (excClassObj nm qn C nsp bs bm hdc sn sub ab col dd k0 k1 k2 k3 k5 newId))
    (z : R (.ok (.ret (.ref (hp.objs.size + 1)))) ⟨(hp.push (W.kdv_tup rest)).push (excO C hp.objs.size), gs, dr, tk, os⟩) (hz : rest.length ≤ sizeLine) :
    codeAny (model prog w) A (.builtin newId ⟨.ref C :: rest, []⟩) R ⟨hp, gs, dr, tk, os⟩ := by
  have h0 := Fn.ends
  have h1 := O.has
  have h2 := O.noA
  have h3 := O.noN
  refine codeAny_builtinAt Fn.entry ?_
  unfold Builtin.«BaseException.__new__»
  refine PySem.wpAt_bind ?_
  show PySem.wpAt _ _ _ (stack >>= _) _ _ _
  refine PySem.wpAt_bind (PySem.wpAt_stack fun p below => PySem.wpAt_of_wpAny ?_)
  wp_walk
  refine PySem.wpAt_of_wpAny ?_
  rw [Fn.owner]
  repeat (first
    | with_reducible refine wpAny_madeHere_exc Fn.canon hC ?_
    | with_reducible refine wpAny_loadPart_at hC ?_
    | (with_reducible refine wpAny_isSubtype_exc hC ?_; first | rw [h1] | rw [h2] | rw [h3])
    | wp_step)
  show R _ _
  rw [Heap.size_push]
  exact z
theorem run_typeCall (Fn : ExcBaseFacts Bn newId inN bmN) (O : NewOk C bm Bn) {rest : List Value} {fI : Addr} {Q : Fin → Shared → Prop}
    (hC : hp.get? C = some (excClassObj nm qn C nsp bs bm hdc sn sub ab col dd k0 k1 k2 k3 k5 newId))
    (hi : W.Looks (model prog w) hp (typeLookup (.ref C) "__init__") (some (.ref fI))) (hb : ∀ self, W.Looks (model prog w) hp (bindSpecial (.ref fI) self) (.ref fI, [self])) (hz : rest.length ≤ sizeLine)
    (z : codeAny (model prog w) A (.call (.ref fI) ⟨.ref (hp.objs.size + 1) :: rest, []⟩)
      (fun r s' => match r with | .ok (.ret v) => v = .none ∧ Q (.done (.ret (.ref (hp.objs.size + 1)))) s' | .ok _ => False | .error e => E e s')
      ⟨(hp.push (W.kdv_tup rest)).push (excO C hp.objs.size), gs, dr, tk, os⟩) :
    wpAny (model prog w) A (Builtin.«type.__call__» ⟨.ref C :: rest, []⟩) Q E ⟨hp, gs, dr, tk, os⟩ := by
  repeat (first
    | with_reducible refine wpAny_loadPart_at hC ?_
    | with_reducible refine wpAny_madeBy_exc hC ?_
    | wp_step)
  refine codeAny_call_builtin_code (Code.quiet_builtin _ Fn.quiet) (chk_new Fn O hC ?_)
  refine run_new Fn O hC ?_ hz
  show wpAny _ _ _ _ _ _
  have kk : ∀ b o, hp.get? b = some o → ((hp.push (W.kdv_tup rest)).push (excO C hp.objs.size)).get? b = some o :=
    fun b o e => Heap.get?_push_of_some _ (Heap.get?_push_of_some _ e)
  have c1 := kk _ _ hC
  have c2 : ((hp.push (W.kdv_tup rest)).push (excO C hp.objs.size)).get? (hp.objs.size + 1) = some (excO C hp.objs.size) := by
    heap_get
  have c3 : (Value.ref C :: bm).contains (.ref C) = true := by
    simp
  have c4 := hi.keeps kk
  have c5 := (hb (.ref (hp.objs.size + 1))).keeps kk
  unfold isInstance
  repeat (first
    | with_reducible refine wpAny_loadPart_at c2 ?_
    | (with_reducible refine wpAny_isSubtype_exc c1 ?_; rw [c3])
    | wp_step)
  show wpAny _ _ (typeLookup (.ref C) _) _ _ _
  refine c4.at ?_
  refine wpAny_holding (wpAny_bind (c5.at ?_))
  refine wpAny_bind (wpAny_call (codeAny_mono z fun r s' y => ?_))
  rcases r with e | (v | _ | _ | _) <;> first | exact y | exact y.elim | skip
  obtain ⟨rfl, y⟩ := y
  first
    | exact wpAny_pure (wpAny_pure y)
    | (wp_walk; exact y)
theorem run_make (Fn : ExcBaseFacts Bn newId inN bmN) (O : NewOk C bm Bn) {rest : List Value} {fI : Addr}
    (hC : hp.get? C = some (excClassObj nm qn C nsp bs bm hdc sn sub ab col dd k0 k1 k2 k3 k5 newId))
    (hi : W.Looks (model prog w) hp (typeLookup (.ref C) "__init__") (some (.ref fI))) (hb : ∀ self, W.Looks (model prog w) hp (bindSpecial (.ref fI) self) (.ref fI, [self])) (hz : rest.length ≤ sizeLine)
    (z : codeAny (model prog w) (A.under (.builtin "type.__call__" ⟨.ref C :: rest, []⟩)) (.call (.ref fI) ⟨.ref (hp.objs.size + 1) :: rest, []⟩) (W.InitBack (hp.objs.size + 1) R)
      ⟨(hp.push (W.kdv_tup rest)).push (excO C hp.objs.size), gs, dr, tk, os⟩) :
    codeAny (model prog w) A (.call (.ref C) ⟨rest, []⟩) R ⟨hp, gs, dr, tk, os⟩ := by
  have f1 := tc_lookup
  have f2 := tc_bind (.ref C)
  have f3 : (⟨hp, gs, dr, tk, os⟩ : Shared).TypeIs (.ref C) "type" := ⟨_, hC, rfl⟩
  refine codeAny_of_tree ?_
  show wpAny _ _ (callAny (.ref C) _) _ _ _
  repeat (any_goals (first
    | assumption
    | with_reducible refine wpAny_loadPart_at hC ?_
    | wp_step))
  refine ⟨rfl, ?_⟩
  refine codeAny_call_builtin_at (Code.quiet_builtin _ (by decide +kernel)) entry_typeCall
    (wpAny_check_type_call_sub hC (run_typeCall Fn O hC hi hb hz ?_))
  refine codeAny_mono z fun r s' y => ?_
  rcases r with e | (v | _ | _ | _) <;> exact y
/-- B.__init__(e, ..) of an instance of an own class over B -/
theorem run_init {B nid initId : String} (Fi : ExcClass B nid initId) (hB : (Value.ref C :: bm).contains (.type B) = true) {e t0 : Addr} {rest : List Value}
    (hC : hp.get? C = some (excClassObj nm qn C nsp bs bm hdc sn sub ab col dd k0 k1 k2 k3 k5 newId)) (he : hp.get? e = some (excO C t0)) (hz : rest.length ≤ sizeLine)
    (z : ∀ h' t1, (∀ b o, b ≠ e → hp.get? b = some o → h'.get? b = some o) → h'.get? e = some (excO C t1) → R (.ok (.ret .none)) ⟨h', gs, dr, tk, os⟩) :
    codeAny (model prog w) A (.call (.builtin initId) ⟨.ref e :: rest, []⟩) R ⟨hp, gs, dr, tk, os⟩ := by
  have hs := Fi.notStar
  refine codeAny_call_builtin Fi.init.plain Fi.initEntry ?_
  have chk : ∀ {Q : Unit → Shared → Prop} {A' : Around} {E' : Value → Shared → Prop}, Q () ⟨hp, gs, dr, tk, os⟩ → wpAny (model prog w) A' (checkBuiltinCall initId ⟨.ref e :: rest, []⟩) Q E' ⟨hp, gs, dr, tk, os⟩ := by
    intro Q A' E' y
    simp only [checkBuiltinCall, Fi.initKind, Fi.initSplit, Fi.initSig]
    repeat (first
      | with_reducible refine wpAny_loadPart_at he ?_
      | with_reducible refine wpAny_loadPart_at hC ?_
      | (with_reducible refine wpAny_isSubtype_exc hC ?_; rw [hB])
      | wp_step)
    refine wpAny_onRaise ?_
    rw [show ∀ (a b : String) (n : Nat), Bind.check ⟨.positional, "*", B, .self, [⟨"args", .varPos, false⟩]⟩ a b n (List.map (fun x => x.fst) ({ pos := Value.ref e :: rest } : Args).kw) = pure () from
      fun a b n => check_star_args _ _ _ _ _ _]
    exact wpAny_pure y
  refine chk ?_
  wp_walk
  refine z _ hp.objs.size (fun b o hb ho => ?_) ?_
  · rw [Heap.get?_update_other _ _ (Ne.symm hb)]
    exact Heap.get?_push_of_some _ ho
  · rw [Heap.get?_update_self _ (Heap.get?_push_of_some _ he) rfl]
    rfl
end
end EW
end

section
set_option maxHeartbeats 4000000
namespace EW
open PySem PySem.Spec PyProof.Rows L2 PySem.HandSPX
/-! ### stores into an exception, over the heap -/
section
open Builtin Builtin.ObjectAttr
variable {prog : Program} {w : World} {A : Around} {E : Value → Shared → Prop} {R : Result → Shared → Prop} {hp : Heap} {gs : Array GenState} {dr : Drawn} {tk : Nat} {os : OsState} {K : W.Frag} {B : String} {bmB : List Value}
theorem taker_none {C : Addr} {f : Str} (h : W.findIn K (.ref C) f = some none) : W.takerIn K C f = some none := by
  unfold W.takerIn
  rw [h]
  rfl
/-- the first field: the object gets its dict -/
theorem sto_new {f : Str} {ft : Tok} {v : Value} {x C : Addr} {fv : Array Value} {cd : ClassData} (SF : StoreFacts B bmB "object.__setattr__" "object") (X : K.In hp)
    (hx : hp.get? x = some { cls := .ref C, data := .fields fv }) (hov : W.excOver K C bmB = true) (hcd : W.clsIn K C = some cd) (hh : cd.hasDict = true) (ha : W.findIn K (.ref C) f = some none)
    (z : ∀ h' t' dx, (∀ b o, b ≠ x → hp.get? b = some o → h'.get? b = some o) → hp.objs.size ≤ dx → dx ≠ x → h'.get? x = some { cls := .ref C, dict := some dx, data := .fields fv } →
      h'.Ns1 dx (fun y => if y = f then some v else none) → R (.ok (.ret .none)) ⟨h', gs, dr, t', os⟩) :
    codeAny (model prog w) A (.call (.builtin "object.__setattr__") ⟨[.ref x, .str f ft, v], []⟩) R ⟨hp, gs, dr, tk, os⟩ := by
  have nx : x ≠ hp.objs.size := Nat.ne_of_lt (Heap.lt_size hx)
  have lk : W.Looks (model prog w) hp (classData C) cd := W.looks_clsIn X hcd
  refine W.osa_openX (s := ⟨hp, gs, dr, tk, os⟩) (r := none) (od := none) SF X ⟨hx, rfl, rfl, trivial⟩ hov (taker_none ha) (fun bb => ?_)
  show wpAny _ _ (storeInOwnDict (.ref x) (.ref C) (.str f ft) f v bb) _ _ _
  obtain ⟨c1, c2, c3, c4, c5, c6, c7, c8, c9, c10, c11⟩ := cd
  dsimp only at hh
  subst hh
  unfold storeInOwnDict ownDictForStores
  repeat (first
    | with_reducible refine store_in_new ?_ ?_
    | with_reducible refine wpAny_loadPart_at hx ?_
    | with_reducible refine lk.at ?_
    | wp_step)
  · exact ⟨_, #[], _, (Heap.get?_update_ne _ _ _ _ nx.symm).trans (Heap.get?_push_at rfl rfl), rfl,
      fun e he => absurd he (by simp), fun _ => rfl⟩
  · intro h' t' hn hs
    have hx1 : (hp.push { cls := .type "dict", data := .dict #[] }).get? x = some { cls := .ref C, data := .fields fv } :=
      Heap.get?_push_of_some _ hx
    refine z h' t' hp.objs.size (fun b o hb ho => ?_) (Nat.le_refl _) nx.symm ?_ hn
    · exact (hs.2 b (Nat.ne_of_lt (Heap.lt_size ho))).trans
        ((Heap.get?_update_ne _ _ _ _ hb).trans (Heap.get?_push_of_some _ ho))
    · exact (hs.2 x nx).trans (Heap.get?_update_self _ hx1 rfl)
/-- a further field -/
theorem sto_old {f : Str} {ft : Tok} {v : Value} {x C dx : Addr} {fv : Array Value} {cd : ClassData} {m0 : Str → Option Value} {nl : List Str} (SF : StoreFacts B bmB "object.__setattr__" "object") (X : K.In hp)
    (hx : hp.get? x = some { cls := .ref C, dict := some dx, data := .fields fv }) (hns : hp.Ns1 dx m0) (hw : Within m0 nl) (hz : nl.length ≤ 1000) (hov : W.excOver K C bmB = true) (hcd : W.clsIn K C = some cd) (hh : cd.hasDict = true) (ha : W.findIn K (.ref C) f = some none)
    (z : ∀ h' t', (∀ b o, b ≠ dx → hp.get? b = some o → h'.get? b = some o) → h'.Ns1 dx (fun y => if y = f then some v else m0 y) → R (.ok (.ret .none)) ⟨h', gs, dr, t', os⟩) :
    codeAny (model prog w) A (.call (.builtin "object.__setattr__") ⟨[.ref x, .str f ft, v], []⟩) R ⟨hp, gs, dr, tk, os⟩ := by
  obtain ⟨oD, esD, epD, hoD, hdD, _⟩ := hns.count hw
  have lk : W.Looks (model prog w) hp (classData C) cd := W.looks_clsIn X hcd
  refine W.osa_openX (s := ⟨hp, gs, dr, tk, os⟩) (r := none) (od := some oD) SF X ⟨hx, rfl, rfl, hoD⟩ hov (taker_none ha) (fun bb => ?_)
  show wpAny _ _ (storeInOwnDict (.ref x) (.ref C) (.str f ft) f v bb) _ _ _
  obtain ⟨c1, c2, c3, c4, c5, c6, c7, c8, c9, c10, c11⟩ := cd
  dsimp only at hh
  subst hh
  unfold storeInOwnDict ownDictForStores
  repeat (first
    | with_reducible refine PySem.OEX.store_in_old hns hw hz ?_
    | with_reducible refine wpAny_loadPart_at hx ?_
    | with_reducible refine lk.at ?_
    | wp_step)
  intro h' t' hn hs
  exact z h' t' (fun b o hb ho => (hs.2 b hb).trans ho) hn
end
/-! ### what the written part says of such a class -/
/-- as of any own exception class: isinstance, attributes -/
structure XIs (K : W.Frag) (C : Addr) : Prop where
  cl : (W.clsIn K C).isSome = true
  ga : W.findIn K (.ref C) "__getattribute__" = some (some (.builtin "BaseException.__getattribute__"))
  gg : W.findIn K (.ref C) "__getattr__" = some none
  be : W.subIn K (.ref C) (.type "BaseException") = some true
  ca : W.findIn K (.ref C) "__class__" = some (some (.builtin "object.__class__"))
  hn : W.specialIn K (.builtin "object.__class__") "__get__" = some (some (.builtin "getset_descriptor.__get__"))
  ht : W.takesIn K (.builtin "object.__class__") = some true
  mo : W.mroIn K C (.type "object") = some true
def xisB (K : W.Frag) (C : Addr) : Bool := (W.clsIn K C).isSome
  && decide (W.findIn K (.ref C) "__getattribute__" = some (some (.builtin "BaseException.__getattribute__")))
  && decide (W.findIn K (.ref C) "__getattr__" = some none) && decide (W.subIn K (.ref C) (.type "BaseException") = some true)
  && decide (W.findIn K (.ref C) "__class__" = some (some (.builtin "object.__class__")))
  && decide (W.specialIn K (.builtin "object.__class__") "__get__" = some (some (.builtin "getset_descriptor.__get__")))
  && decide (W.takesIn K (.builtin "object.__class__") = some true) && decide (W.mroIn K C (.type "object") = some true)
theorem xisB_ok {K : W.Frag} {C : Addr} (h : xisB K C = true) : XIs K C := by
  unfold xisB at h
  simp only [Bool.and_eq_true, decide_eq_true_eq] at h
  obtain ⟨⟨⟨⟨⟨⟨⟨h1, h2⟩, h3⟩, h4⟩, h5⟩, h6⟩, h7⟩, h8⟩ := h
  exact ⟨h1, h2, h3, h4, h5, h6, h7, h8⟩
/-- of one whose __init__ is its own: over B, made by newId of Bn -/
structure XMk (K : W.Frag) (C fI : Addr) (bmB : List Value) (newId : String) : Prop where
  mkr : W.excInitIn K C bmB newId = true
  ov : W.excOver K C bmB = true
  hd : W.hasDictIn K C = true
  sa : W.findIn K (.ref C) "__setattr__" = some (some (.builtin "object.__setattr__"))
  kp : W.keepIn K (.ref C) = true
  ini : W.findIn K (.ref C) "__init__" = some (some (.ref fI))
  tyI : W.typeIn K (.ref fI) = some (.type "function")
def xmkB (K : W.Frag) (C fI : Addr) (bmB : List Value) (newId : String) : Bool := W.excInitIn K C bmB newId && W.excOver K C bmB && W.hasDictIn K C
  && decide (W.findIn K (.ref C) "__setattr__" = some (some (.builtin "object.__setattr__"))) && W.keepIn K (.ref C)
  && decide (W.findIn K (.ref C) "__init__" = some (some (.ref fI))) && decide (W.typeIn K (.ref fI) = some (.type "function"))
theorem xmkB_ok {K : W.Frag} {C fI : Addr} {bmB : List Value} {newId : String} (h : xmkB K C fI bmB newId = true) : XMk K C fI bmB newId := by
  unfold xmkB at h
  simp only [Bool.and_eq_true, decide_eq_true_eq] at h
  obtain ⟨⟨⟨⟨⟨⟨h1, h2⟩, h3⟩, h4⟩, h5⟩, h6⟩, h7⟩ := h
  exact ⟨h1, h2, h3, h4, h5, h6, h7⟩
theorem ref_contains {C : Addr} {bm bmB : List Value} (h : ∀ X : String, bm.contains (.type X) = bmB.contains (.type X)) (T : String) : (Value.ref C :: bm).contains (.type T) = bmB.contains (.type T) := by
  rw [List.contains_cons, h]
  rfl
section
variable {X : Cx} {pins : List (Addr × Obj)} {σ : L2.St} {H : Hp} {s : Shared} {a C fI dx : Addr} {f : Str} {y : V} {u : Value} {fs : List (Str × V)} {Q : Unit → Shared → Prop} {E : Value → Shared → Prop} {A : Around} {B newId : String} {bmB : List Value}
/-- self.f = y, the first one -/
theorem fld_new (T : XMk X.K C fI bmB newId) (SF : StoreFacts B bmB "object.__setattr__" "object") (I : Inv X pins σ H s) (e : H a = some (exo a C none)) (hno : W.findIn X.K (.ref C) f = some none) (ry : RelV y u)
    (h : ∀ dx s', H dx = none → dx ≠ a → Inv X pins σ (upd (upd H dx (exd dx [(f, y)])) a (exo a C (some dx))) s' → Q () s') : wpAny (model X.prog X.w) A (setAttr (.ref a) f u) Q E s := by
  obtain ⟨cd, hcd, hh⟩ := W.any_some T.hd
  obtain ⟨t1, ho⟩ := exo_at I.hok e
  obtain ⟨hp, g, d, t, os⟩ := s
  refine W.set_plain I.kIn (ox := { cls := .ref C, dict := none, data := .fields #[.ref t1, .none, .none, .none, .bool false, .none] }) (od := none) ⟨ho, rfl, rfl, trivial⟩ T.sa ?_
  refine sto_new SF I.kIn ho T.ov hcd hh hno (fun h' t' dx k dn dne hx hn => ?_)
  have fd : H dx = none := I.hok.fresh dn
  have nd : ∀ {b : Addr} {o : Obj}, hp.get? b = some o → b ≠ dx := fun {b o} q => Nat.ne_of_lt (Nat.lt_of_lt_of_le (Heap.lt_size q) dn)
  have na : ∀ {b : Addr}, H b = none → b ≠ a := fun {b} n z => by
    rw [z, e] at n
    cases n
  refine h dx _ fd dne (I.un (t' := t') (H' := upd (upd H dx (exd dx [(f, y)])) a (exo a C (some dx))) (h' := h') ?_ fun b o q => ?_)
  · constructor
    · exact fun b o q n _ _ => k b o (na n) q
    · exact fun b o q n _ _ => ⟨o.slots, k b o (na n) q⟩
    · exact fun b o q n _ => by
        rw [upd_ne (na n), upd_ne (nd q)]
        exact n
    · exact fun b o q _ => by
        by_cases hb : b = a
        · exact ⟨_, by rw [hb]; exact hx⟩
        · exact ⟨o, k b o hb q⟩
    · exact fun b xs q => by
        rw [upd_ne (at_ne e q exo_tup), upd_ne (ne_of_none q fd)]
        exact q
    · exact fun b o v q => by
        rw [upd_ne (at_ne e q exo_frz), upd_ne (ne_of_none q fd)]
        exact q
    · exact fun b ps q => ⟨#[], by
        rw [upd_ne (at_ne e q exo_tbl), upd_ne (ne_of_none q fd), q]
        simp⟩
  · by_cases hb : b = a
    · subst hb
      rw [upd_same] at q
      cases q
      exact exo_ok hx
    · rw [upd_ne hb] at q
      by_cases hd : b = dx
      · subst hd
        rw [upd_same] at q
        cases q
        exact exd_ok hn (relO_put (fs := []) ry fun g => True.intro)
      · rw [upd_ne hd] at q
        refine (I.hok b o q).stay (fun c v hc z => k c v ?_ z) (fun c hc => ?_) (fun c xs hc => ?_)
        · rcases hc with hc | hc
          · rw [hc]
            exact hb
          · exact at_ne e hc exo_own
        · rw [upd_ne (at_ne e hc exo_own), upd_ne (ne_of_none hc fd)]
          exact hc
        · rw [upd_ne (at_ne e hc exo_tup), upd_ne (ne_of_none hc fd)]
          exact hc
/-- self.f = y, a further one -/
theorem fld_old (T : XMk X.K C fI bmB newId) (SF : StoreFacts B bmB "object.__setattr__" "object") (I : Inv X pins σ H s) (e : H a = some (exo a C (some dx))) (ed : H dx = some (exd dx fs)) (hl : fs.length ≤ 900) (hno : W.findIn X.K (.ref C) f = some none) (ry : RelV y u)
    (h : ∀ s', Inv X pins σ (upd H dx (exd dx ((f, y) :: fs))) s' → Q () s') : wpAny (model X.prog X.w) A (setAttr (.ref a) f u) Q E s := by
  obtain ⟨cd, hcd, hh⟩ := W.any_some T.hd
  obtain ⟨t1, ho⟩ := exo_at I.hok e
  obtain ⟨mA, hns, rel⟩ := exd_at I.hok ed
  have hw := within_of rel
  obtain ⟨hp, g, d, t, os⟩ := s
  obtain ⟨oD, _, _, hoD, _, _⟩ := hns.count hw
  refine W.set_plain I.kIn (ox := { cls := .ref C, dict := some dx, data := .fields #[.ref t1, .none, .none, .none, .bool false, .none] }) (od := some oD) ⟨ho, rfl, rfl, hoD⟩ T.sa ?_
  refine sto_old SF I.kIn ho hns hw (by rw [List.length_map]; omega) T.ov hcd hh hno (fun h' t' k hn => ?_)
  have there : ∃ o, h'.get? dx = some o := by
    obtain ⟨o, _, _, e', _⟩ := hn
    exact ⟨o, e'⟩
  refine h _ (I.write (t' := t') (x := dx) (e := dx) (o := exd dx ((f, y) :: fs)) ?_ (.inl rfl) k there (exd_ok hn (relO_put ry rel)))
  rw [ed]
  exact True.intro
/-- B.__init__(self, ..): nothing of it is told -/
theorem base_init {us : List Value} {Q : Value → Shared → Prop} {nid initId : String} (T : XMk X.K C fI bmB newId) (Fi : ExcClass B nid initId) (hB : bmB.contains (.type B) = true) (I : Inv X pins σ H s) (e : H a = some (exo a C none)) (hl : us.length ≤ sizeLine) (h : ∀ s', Inv X pins σ H s' → Q .none s') :
    wpAny (model X.prog X.w) A (call (.builtin initId) (.ref a :: us)) Q E s := by
  obtain ⟨nm, N, qn, bs, bm, hdc, sn, sub, ab, col, dd, k0, k1, k2, k3, k5, hC, hbm⟩ := W.excInit_of I.kIn T.mkr
  obtain ⟨t1, ho⟩ := exo_at I.hok e
  obtain ⟨hp, g, d, t, os⟩ := s
  refine wpAny_call (run_init Fi ((ref_contains hbm B).trans hB) hC ho hl fun h' t2 k hx => ?_)
  have J := I.write (t' := t) (x := a) (e := a) (o := exo a C none) (by rw [e]; exact True.intro) (.inl rfl) k ⟨_, hx⟩ (exo_ok hx)
  have eu : upd H a (exo a C none) = H := by
    funext b
    by_cases hb : b = a
    · rw [hb, upd_same, e]
    · rw [upd_ne hb]
  rw [eu] at J
  exact h _ J
end
end EW
end

section
set_option maxHeartbeats 4000000
namespace EW
open PySem PySem.Spec PyProof.Rows L2 PySem.HandSPX
/-! ### rules: an exception made by its own __init__, its fields, isinstance -/
/-- B.__init__(self, ..) -/
def tBInit (C : Addr) (ta : TA) : TE := fun σ H Q => ta σ H fun vs H1 => ∃ (a : Addr) (ws : List V), vs = .ref a :: ws ∧ ws.length ≤ 1000 ∧ H1 a = some (exo a C none) ∧ Q .non H1
/-- self.f = e -/
def tXst (C : Addr) (f : Str) (to te : TE) : TS := fun D σ H => te σ H fun y H1 => to σ H1 fun x H2 => ∃ a : Addr, x = .ref a ∧
  ((H2 a = some (exo a C none) ∧ ∀ dx, H2 dx = none → dx ≠ a → D.nx σ (upd (upd H2 dx (exd dx [(f, y)])) a (exo a C (some dx)))) ∨
    ∃ (dx : Addr) (fs : List (Str × V)), H2 a = some (exo a C (some dx)) ∧ H2 dx = some (exd dx fs) ∧ fs.length ≤ 900 ∧ D.nx σ (upd H2 dx (exd dx ((f, y) :: fs))))
/-- C(e, ..) as a value -/
def tMkX (C : Addr) (sp : Sp) (ta : TA) : TE := fun σ H Q => ta σ H fun vs H1 => vs.length ≤ 1000 ∧ ∀ a, H1 a = none →
  sp (.ref a :: vs) (upd H1 a (exo a C none)) (fun v H2 => v = .non ∧ Q (.ref a) H2) (fun _ _ _ => False)
/-- an exception object of the class at C stands at a -/
def ExcAt (H : Hp) (a C : Addr) : Prop := H a = some (ExO (.ref C) a) ∨ ∃ (d : Addr) (fs : List (Str × V)), H a = some (exo a C (some d)) ∧ H d = some (exd d fs)
/-- isinstance(x, c) of such an object -/
def rIsX (K : W.Frag) : List V → Hp → VK → Prop := fun xs H Q => ∃ (a C : Addr) (c : V) (u : Value) (b : Bool), xs = [.ref a, c] ∧ ClsV c u ∧ XIs K C ∧ ExcAt H a C ∧ W.kitOne K (.ref C) u = some b ∧ Q (.bl b) H
/-- x.f of one with fields -/
def tXfl (K : W.Frag) (f : Str) (te : TE) : TE := fun σ H Q => te σ H fun x H1 => ∃ (a C d : Addr) (fs : List (Str × V)) (v : V), x = .ref a ∧ XIs K C ∧ W.hasDictIn K C = true ∧ W.findIn K (.ref C) f = some none ∧
  H1 a = some (exo a C (some d)) ∧ H1 d = some (exd d fs) ∧ fs.lookup f = some v ∧ Q v H1
section
variable {X : Cx} {o e : Expr} {es : List Expr} {to te : TE} {ta : TA} {f : Str} {p p' p1 p2 pos : Pos} {B newId : String} {bmB : List Value} {C fI : Addr}
theorem pe_binit {pl : Sem Bool} {b : Str} {nid initId : String} (T : XMk X.K C fI bmB newId) (Fi : ExcClass B nid initId) (hB : bmB.contains (.type B) = true) (hg : Gl X b) (hm : X.mg b = none) (hv : bootBuiltins b = some (.type B))
    (ty : typeOf (.type B) = pure (.type "type")) (st : Manifest.isStub B = false) (vV : W.findCls X.K (.type B) (.type "type") "__init__" = some (.val (.builtin initId))) (hh : W.handedIn (Value.builtin initId) = true) (ha : PA X (e :: es) ta)
    (hc : eval (.Call (.Attribute (.Name b p1) "__init__" p2) (e :: es) [] pos) X.env = (do
      let ov ← eval (.Name b p1) X.env
      standAt p2.atName
      let (fn, first) ← holding [ov] (getMethod ov "__init__" pl)
      callWith pos fn first (backTo pos (starEach (e :: es) X.env)) (backToKw pos (keywordEach [] X.env))) := by rfl)
    (he : starEach (e :: es) X.env = (false, eval e X.env) :: starEach es X.env := by rfl) (hpl : (backTo pos (starEach es X.env)).any (·.1) = false := by rfl)
    (hn : b ≠ "__name__" := by decide) (hdb : (b == ("__debug__" : Str)) = false := by decide) :
    PE X (.Call (.Attribute (.Name b p1) "__init__" p2) (e :: es) [] pos) (tBInit C ta) := by
  refine ⟨fun pins s σ H Q I h => ?_⟩
  refine W.methodCall_KW (ld_blt I hg hm hv ?_ hn hdb) hc
  obtain ⟨m, fr⟩ := I.fr
  refine W.method_type fr I.ok.mod.kin ty st vV hh ?_
  show wpAny _ _ (callWith pos (Value.builtin initId) [] (backTo pos (starEach (e :: es) X.env)) []) _ _ _
  refine callWith_method1 (thn (ha.run pos pins _ σ H _ (I.tok _) h) fun us s1 hq => ?_) he hpl
  obtain ⟨vs, H1, I1, r1, a, ws, ev, hl, ea, q⟩ := hq
  subst ev
  cases r1 with
  | @cons _ u0 _ ur ra rr =>
    obtain rfl : u0 = Value.ref a := ra
    have hlen : ur.length ≤ sizeLine := by
      rw [← Paired.length rr, sizeLine_eq]
      omega
    exact base_init T Fi hB I1 ea hlen fun s' J => ⟨.non, H1, J, rfl, q⟩
theorem ps_xst (T : XMk X.K C fI bmB newId) (SF : StoreFacts B bmB "object.__setattr__" "object") (hno : W.findIn X.K (.ref C) f = some none) (ho : PE X o to) (he : PE X e te)
    (hs : swapsWith e (some (.Attribute o f p')) pos.line X.env = pure false := by rfl) : PS X (.Assign [.Attribute o f p'] e pos) (tXst C f to te) := by
  refine ⟨fun pins s σ H D I h => ?_⟩
  refine plainObj_wpAny_Assign_Attribute (thn (he.run pins s σ H _ I h) fun v s1 hq => ?_) hs
  obtain ⟨y, H1, I1, r1, q1⟩ := hq
  refine thn (ho.run pins s1 σ H1 _ I1 q1) fun u s2 hq => ?_
  obtain ⟨x, H2, I2, r2, a, ex, q⟩ := hq
  subst ex
  obtain rfl : u = Value.ref a := r2
  rcases q with ⟨ea, q⟩ | ⟨dx, fs, ea, ed, hl, q⟩
  · exact fld_new T SF I2 ea hno r1 fun dx s' n ne J => ⟨σ, _, J, q dx n ne⟩
  · exact fld_old T SF I2 ea ed hl hno r1 fun s' J => ⟨σ, _, J, q⟩
theorem inst_of {pins : List (Addr × Obj)} {σ : L2.St} {H : Hp} {s : Shared} {a : Addr} (I : Inv X pins σ H s) (h : ExcAt H a C) : ∃ (ox : Obj) (od : Option Obj), W.InstAt s.heap a ox C od := by
  rcases h with h | ⟨d, fs, h1, h2⟩
  · obtain ⟨⟨oe, vs, ho, hz, hd, _⟩, _, _⟩ := I.hok a _ h
    obtain ⟨oc, od, oda, osl⟩ := oe
    obtain ⟨z1, z2⟩ := hz
    dsimp only at z1 z2 hd
    subst z1 z2 hd
    exact ⟨_, none, ho, rfl, rfl, trivial⟩
  · obtain ⟨t1, ho⟩ := exo_at I.hok h1
    obtain ⟨mA, ⟨od, es', ep, h3, _⟩, _⟩ := exd_at I.hok h2
    exact ⟨_, some od, ho, rfl, rfl, h3⟩
theorem call_isX : CallR X (.builtin "isinstance") (rIsX X.K) := by
  intro pins s σ H xs us Q I r h
  obtain ⟨a, D, c, u, b, rfl, k, T, ea, e, q⟩ := h
  obtain ⟨u1, u2, rfl, r1, r2⟩ := vals2 r
  have e2 := k.eq r2
  subst e2
  cases (show u1 = Value.ref a from r1)
  obtain ⟨ox, od, J⟩ := inst_of I ea
  exact W.kia_one (W.kitx_exc T.cl T.ga T.gg T.be T.ca T.hn T.ht T.mo) I.kIn J e (fun z => nomatch z) fun tk => ⟨.bl b, H, I.tok tk, rfl, q⟩
theorem pe_xfl (he : PE X e te) (hb : attributeBase e f X.env (eval e X.env) = eval e X.env := by rfl) : PE X (.Attribute e f pos) (tXfl X.K f te) := by
  refine ⟨fun pins s σ H Q I h => ?_⟩
  refine attr_of hb (thn (he.run pins s σ H _ I h) fun u s1 hq => ?_)
  obtain ⟨x, H1, I1, rx, a, D, d, fs, v, ex, T, hd, hno, h1, h2, hl, q⟩ := hq
  subst ex
  obtain rfl : u = Value.ref a := rx
  obtain ⟨t1, ho⟩ := exo_at I1.hok h1
  obtain ⟨mA, hns, rel⟩ := exd_at I1.hok h2
  obtain ⟨od, hod, hlk⟩ := lookIn_ns hns
  have rf := rel f
  rw [hl] at rf
  obtain ⟨z, hz, rz⟩ := RelO.some_of rf
  have J : W.InstAt s1.heap a { cls := .ref D, dict := some d, data := .fields #[.ref t1, .none, .none, .none, .bool false, .none] } D (some od) := ⟨ho, rfl, rfl, hod⟩
  exact exc_get I1.kIn J T.ga T.gg T.be (W.findObj_own hd hno rfl (by rw [hlk, hz])) (handed_of rz) ⟨v, H1, I1.tok _, rz, q⟩
theorem pe_mkX {CX : CXT} {x : Str} {k : Nat} {fd : FuncData} {ps : List Str} {sp : Sp} {Bn inN : String} {bmN : List Value} (T : XMk X.K C fI bmB newId) (Fn : ExcBaseFacts Bn newId inN bmN) (hB : bmB.contains (.type Bn) = true) (hA : bmB.contains (.type "AttributeError") = false) (hN : bmB.contains (.type "NameError") = false)
    (F1 : FnOk X.prog X.w X.K X.mg X.base CX k fI fd ps sp) (hr : Room (k + 1) X.A) (hb : Binds X.K fd ps []) (hx : Passes CX X (fun _ _ _ => False)) (hg : Gl X x) (hm : X.mg x = some (.ref C)) (ha : PA X (e :: es) ta)
    (hdb : (x == ("__debug__" : Str)) = false := by decide) (he : starEach (e :: es) X.env = (false, eval e X.env) :: starEach es X.env := by rfl) (hpl : (backTo pos (starEach es X.env)).any (·.1) = false := by rfl) :
    PE X (.Call (.Name x p) (e :: es) [] pos) (tMkX C sp ta) := by
  refine ⟨fun pins s σ H Q I h => ?_⟩
  refine wpAny_Call_Name_kw (ld_glob I hg hm ?_ hdb)
  refine W.callWith_K (h₀ := X.base) I.ok.mod.kin T.kp (thn (ha.run pos pins s σ H _ I h) fun us s1 hq => ?_) he hpl
  obtain ⟨vs, H1, I1, r1, hz, q1⟩ := hq
  refine ⟨I1.kIn, ?_⟩
  show wpAny _ _ (call (.ref C) us) _ _ _
  obtain ⟨nm, N, qn, bs, bm, hdc, sn, sub, ab, col, dd, k0, k1, k2, k3, k5, hC, hbm⟩ := W.excInit_of I1.kIn T.mkr
  have O : NewOk C bm Bn := ⟨(ref_contains hbm _).trans hB, (ref_contains hbm _).trans hA, (ref_contains hbm _).trans hN⟩
  obtain ⟨hp, g, dr, tk, os⟩ := s1
  have hn : H1 (hp.objs.size + 1) = none := I1.hok.fresh (Nat.le_succ _)
  have sz := q1 (hp.objs.size + 1) hn
  have kk : ∀ b o, hp.get? b = some o → ((hp.push (W.kdv_tup us)).push (excO C hp.objs.size)).get? b = some o :=
    fun b o z => Heap.get?_push_of_some _ (Heap.get?_push_of_some _ z)
  have hget : ((hp.push (W.kdv_tup us)).push (excO C hp.objs.size)).get? (hp.objs.size + 1) = some (excO C hp.objs.size) := by
    heap_get
  have I2 : Inv X pins σ (upd H1 (hp.objs.size + 1) (exo (hp.objs.size + 1) C none)) ⟨(hp.push (W.kdv_tup us)).push (excO C hp.objs.size), g, dr, tk, os⟩ :=
    I1.laid (t' := tk) kk (Nat.le_succ _) (exo_ok hget)
  have r2 : Vals (V.ref (hp.objs.size + 1) :: vs) (Value.ref (hp.objs.size + 1) :: us) := .cons rfl r1
  have hl : (Value.ref (hp.objs.size + 1) :: us ++ []).length = ps.length := by
    have z := r2.length
    rw [F1.len _ _ _ _ sz] at z
    rw [List.append_nil]
    exact z.symm
  have hus : us.length ≤ sizeLine := by
    rw [← Paired.length r1, sizeLine_eq]
    omega
  have bb := hb _ (Value.ref (hp.objs.size + 1) :: us) I2.kIn hl
  rw [List.append_nil] at bb
  refine wpAny_call (run_make Fn O hC (W.looks_findIn I1.kIn T.ini) (fun self => W.bind_fn I1.kIn self T.tyI) hus
    (codeAny_mono (F1.run _ X.stack _ _ ⟨Value.ref (hp.objs.size + 1) :: us, []⟩ (Value.ref (hp.objs.size + 1) :: us) _ _ (fun _ _ _ => False) (hr.make C us []) (I2.env0.make C us []) bb r2 sz) fun r s' z => ?_))
  cases r with
  | error er => exact hx pins σ _ _ er s' I2 z
  | ok fl =>
    cases fl with
    | ret u =>
      obtain ⟨v, H2, os2, bare2, un2, hok2, rv, ev, q2⟩ := z
      subst ev
      have J := I2.after (Q := fun _ H' => Q (V.ref (hp.objs.size + 1)) H') (u := u) (s' := s') ⟨V.non, H2, os2, bare2, un2, hok2, rv, q2⟩
      obtain ⟨v', H3, I3, _, q3⟩ := J
      exact ⟨rv, V.ref (hp.objs.size + 1), H3, I3, rfl, q3⟩
    | next => exact False.elim z
    | brk => exact False.elim z
    | cont => exact False.elim z
end
end EW
end

section
set_option maxHeartbeats 4000000
namespace EW
open PySem PySem.Spec PyProof.Rows L2
/-! ### defs that call repr of data: nothing is being shown around them -/
structure FnG (P : Program) (w : World) (K : W.Frag) (mg : Str → Option Value) (base : Heap) (CX : CXT) (k : Nat) (f : Addr) (fd : FuncData) (ps : List Str) (sp : Sp) : Prop where
  len : ∀ vs H Q E, sp vs H Q E → vs.length = ps.length
  run : ∀ (A : Around) (outer : List Env) (s : Shared) (H : Hp) (args : Args) (us : List Value) (vs : List V) (Q : VK) (E : XK), Room k A → A.guards = some [] → Env0 P w K mg base A outer s H → BindsTo s fd args (ps.zip us) → Vals vs us → sp vs H Q E →
    codeAny (model P w) A (.call (.ref f) args) (CR CX outer P w H s Q E) s
theorem FnG.of {P : Program} {w : World} {K : W.Frag} {mg : Str → Option Value} {base : Heap} {CX : CXT} {k : Nat} {f : Addr} {fd : FuncData} {ps : List Str} {sp : Sp} (F : FnOk P w K mg base CX k f fd ps sp) : FnG P w K mg base CX k f fd ps sp :=
  ⟨F.len, fun A outer s H args us vs Q E hr _ e0 hb r hs => F.run A outer s H args us vs Q E hr e0 hb r hs⟩
/-- THE RULE for such a def -/
theorem okG {P : Program} {w : World} {K : W.Frag} {mg : Str → Option Value} {base : Heap} {CX : CXT} {x qual : Str} {params : Arguments} {body : List Stmt} {scope : Scope} {dvs : List V} {kws : List (Str × V)} {f : Addr} {fd : FuncData} {N ps : List Str} {k : Nat} {sp : Sp}
    (F : FunD K x qual params body scope dvs kws f fd) (S : FnScope N ps scope) (len : ∀ vs H Q E, sp vs H Q E → vs.length = ps.length)
    (hbody : ∀ (cdv : Value) (A : Around) (outer : List Env) (s : Shared) (H : Hp) (vs : List V) (Q : VK) (E : XK), Room k (A.deeper (envOfC qual scope s.heap.objs.size f cdv)) → A.guards = some [] → sp vs H Q E →
      ∃ t, PSs (cxOf CX P w K mg base N qual scope f cdv A outer s H E) body t ∧ t { nx := fun _ H' => Q .non H', rt := Q } (start N vs) H) : FnG P w K mg base CX (k + 1) f fd ps sp := by
  obtain ⟨oc, od, dV, kV, doc, pm, an, cdv, ct, osl, rfl, lk, hcd, _, _⟩ := F.ex
  refine ⟨len, fun A outer s H args us vs Q E hr hg e0 hb r hsp => ?_⟩
  have hl := len _ _ _ _ hsp
  have ke := fun b o e => (e0.bs b o e).1
  have KX : K.In s.heap := e0.mod.kin.keeps ke
  have lim : s.heap.NoLimit := e0.mod.nolimit.keeps ke
  refine codeAny_call_function hr.depth (KX _ _ lk) rfl S.co S.gen rfl (W.codeRec_of KX hcd) (hb _ _ _ _ ?_)
  refine wpAny_newFunctionEnv_cells S.kind (fun y hy => ?_) fun env he s1 xc => ?_
  · obtain ⟨n, v⟩ := y
    rcases S.par n (List.of_mem_zip hy).1 with q | q
    · exact .inl q
    · exact .inr ⟨q, W.cellsFrom_some _ _ _ (.inl q)⟩
  · subst he
    refine ⟨lim.keeps xc.toInCall.keep, codeAny_func ?_⟩
    obtain ⟨t, ht, hq⟩ := hbody cdv A outer s H vs Q E (hr.deeper _) hg hsp
    have I : Inv (cxOf CX P w K mg base N qual scope f cdv A outer s H E) [] (start N vs) H s1 := inv_start S hr.hd e0 hl r xc
    refine wpAny_mono (ht.run [] s1 (start N vs) H _ I hq) (fun fl s' hs => ?_) fun e s' hs => hs
    cases fl with
    | ret u =>
      obtain ⟨v, σ', H', J, rv, q⟩ := hs
      exact ⟨v, H', J.os, J.bare, J.base, J.hok, rv, q⟩
    | next =>
      obtain ⟨σ', H', J, q⟩ := hs
      exact ⟨V.non, H', J.os, J.bare, J.base, J.hok, rfl, q⟩
    | brk =>
      obtain ⟨_, _, _, q⟩ := hs
      exact False.elim q
    | cont =>
      obtain ⟨_, _, _, q⟩ := hs
      exact False.elim q
section
variable {X : Cx} {CX : CXT} {k : Nat} {f : Addr} {fd : FuncData} {ps : List Str} {sp : Sp} {E : XK} {x : Str} {p pos : Pos} {e : Expr} {es : List Expr} {t : TA}
theorem pe_callG (F : FnG X.prog X.w X.K X.mg X.base CX k f fd ps sp) (hr : Room k X.A) (hG : X.A.guards = some []) (hg : Gl X x) (hm : X.mg x = some (.ref f)) (hk : W.keepIn X.K (.ref f) = true) (hb : Binds X.K fd ps []) (hx : Passes CX X E)
    (ha : PA X (e :: es) t) (hdb : (x == ("__debug__" : Str)) = false := by decide) (he : starEach (e :: es) X.env = (false, eval e X.env) :: starEach es X.env := by rfl) (hpl : (backTo pos (starEach es X.env)).any (·.1) = false := by rfl) :
    PE X (.Call (.Name x p) (e :: es) [] pos) (tCall sp [] E t) := by
  refine ⟨fun pins s σ H Q I h => ?_⟩
  refine wpAny_Call_Name_kw (ld_glob I hg hm ?_ hdb)
  refine W.callWith_K (h₀ := X.base) I.ok.mod.kin hk (thn (ha.run pos pins s σ H _ I h) fun us s1 hq => ?_) he hpl
  obtain ⟨vs, H1, I1, r, q⟩ := hq
  refine ⟨I1.kIn, ?_⟩
  rw [List.append_nil] at q
  have hl : us.length = ps.length := by
    rw [← r.length]
    exact F.len _ _ _ _ q
  have bb := hb s1 us I1.kIn (by rw [List.append_nil]; exact hl)
  rw [List.append_nil] at bb
  show wpAny _ _ (call (.ref f) us) _ _ _
  refine wpAny_call (codeAny_mono (F.run X.A X.stack s1 H1 ⟨us, []⟩ us vs Q E hr hG I1.env0 bb r q) fun r s' z => ?_)
  cases r with
  | error er => exact hx pins σ H1 s1 er s' I1 z
  | ok fl =>
    cases fl with
    | ret u => exact I1.after z
    | next => exact False.elim z
    | brk => exact False.elim z
    | cont => exact False.elim z
/-- repr of lists and tuples of data -/
def rRepr (K : W.Frag) : List V → Hp → VK → Prop := fun xs H Q => ∃ (a : Addr) (d : PyData), xs = [.ref a] ∧ Dp K H (.ref a) d ∧ d.showable = true ∧ d.hasDict = false ∧ d.depth ≤ 60 ∧ d.shown.length ≤ sizeLine ∧ Q (.str d.shown) H
theorem call_repr (hG : X.A.guards = some []) (hr : Room k X.A) : CallR X (.builtin "repr") (rRepr X.K) := by
  intro pins s σ H xs us Q I r h
  obtain ⟨a, d, rfl, hd, hs, hn, hp, hz, q⟩ := h
  cases r with
  | cons rx rn =>
    cases rn
    obtain ⟨as, r1⟩ := Dp.reads I d (.ref a) _ hd rx
    obtain rfl := rx
    have hu := hr.un
    exact repr_of_reads' r1 hs (fun z => by rw [hn] at z; cases z) hG (by omega) (fun _ _ z => z)
      (fun h' u tk hk => ⟨.str d.shown, H, I.kept (t' := tk) hk, ⟨u, rfl⟩, q⟩) hz
end
/-- the law's call, by such a promise; the script's bits are told -/
theorem law_callG {P : Program} {w : World} {K : W.Frag} {mg mb : Str → Option Value} {CX : CXT} {k : Nat} {fa a : Addr} {fd : FuncData} {x : Str} {sp : Sp} {s₁ : Shared} {vs : List Value} {ns : List Int}
    (KX : K.In s₁.heap) (hns : s₁.heap.Ns mainGlobals mg) (hb : s₁.heap.Ns builtinsNs mb) (hbb : ∀ x : Str, x ≠ "__name__" → mb x = bootBuiltins x) (hlim : s₁.heap.NoLimit) (hg : s₁.gens = #[])
    (ha : s₁.heap.get? a = some { cls := .type "list", data := .seq vs.toArray }) (hi : IntsAre vs ns) (hl : ns.length ≤ sizeLine) (hr : Room k callerA)
    (F : ∀ base : Heap, K.In base → base.Ns mainGlobals mg → FnG P w K mg base CX k fa fd [x] sp) (hbind : ∀ (s : Shared) (u : Value), BindsTo s fd ⟨[u], []⟩ [(x, u)])
    (hsp : ∀ H : Hp, SqL K H a (ns.map V.int) → sp [.ref a] H (fun v _ => v = .bl true) fun _ _ _ => False)
    (hCX : ∀ H e s', CX [] H s₁ (fun _ _ _ => False) e s' → False) :
    codeAny (model P w) callerA (.call (.ref fa) ⟨[.ref a], []⟩) (fun r s' => r = .ok (.ret (.bool true)) ∧ OldK s₁.heap s'.heap ∧ s'.os = s₁.os ∧ AllBare s'.gens) s₁ := by
  have rv := vals_ints hi
  have lenV := hi.length
  let O : Obj := { cls := .type "list", data := .seq vs.toArray }
  have core : ∀ H : Hp, (∀ b, H b = none ∨ (b = a ∧ H b = some (.frz O (.lst (ns.map V.int))) ∧ K.lookup a = none)) → SqL K H a (ns.map V.int) →
      codeAny (model P w) callerA (.call (.ref fa) ⟨[.ref a], []⟩) (fun r s' => r = .ok (.ret (.bool true)) ∧ OldK s₁.heap s'.heap ∧ s'.os = s₁.os ∧ AllBare s'.gens) s₁ := by
    intro H hO hS
    have hok : HOk P w H s₁.heap := fun b u e => by
      rcases hO b with z | ⟨rfl, z, _⟩
      · rw [z] at e
        cases e
      · rw [z] at e
        cases e
        exact ⟨ha, by rw [List.length_map]; exact hl, vs, _, rv, ha⟩
    have off : ∀ {b : Addr} {o : Obj} {es : Array DictEntry} {ep : Nat}, s₁.heap.get? b = some o → o.data = .dict es ep → H b = none := fun {b o es ep} e d => by
      rcases hO b with z | ⟨rfl, _, _⟩
      · exact z
      · rw [ha] at e
        cases e
        cases (show Data.seq vs.toArray _ = Data.dict es ep from d)
    have nsK : ∀ {b : Addr} {m : Str → Option Value}, s₁.heap.Ns b m → (hidT s₁.heap H).Ns b m := fun {b m} z => by
      obtain ⟨o, es, ep, e, d, r⟩ := z
      exact ⟨o, es, ep, hidT_get e (off e d), d, r⟩
    have kb : K.In (hidT s₁.heap H) := fun b o e => by
      refine hidT_get (KX b o e) ?_
      rcases hO b with z | ⟨rfl, _, z⟩
      · exact z
      · rw [z] at e
        cases e
    have hM : Mod K mg (hidT s₁.heap H) := ⟨kb, nsK hns, ⟨mb, nsK hb, hbb⟩, by obtain ⟨mc, h1, h2⟩ := hlim; exact ⟨mc, nsK h1, h2⟩⟩
    have e0 : Env0 P w K mg (hidT s₁.heap H) callerA [] s₁ H := by
      refine ⟨rfl, hM, fun b o e => of_hidT e, Nat.le_of_eq (hidT_size _ _), trivial, fun b z => ?_, hok, .of_eq hg⟩
      exact absurd (show b ∈ ([] : List Addr) from z) (by simp)
    have body := (F _ kb (nsK hns)).run callerA [] s₁ H ⟨[.ref a], []⟩ [.ref a] [.ref a] _ _ hr rfl e0 (hbind s₁ (.ref a)) (.cons rfl .nil) (hsp H hS)
    refine codeAny_mono body fun r s' h => ?_
    cases r with
    | error e => exact (hCX H e s' h).elim
    | ok fl =>
      cases fl with
      | next => exact False.elim h
      | brk => exact False.elim h
      | cont => exact False.elim h
      | ret u =>
        obtain ⟨v, H', os, bare, un, hok', r', q⟩ := h
        have q' : v = .bl true := q
        subst q'
        obtain rfl : u = Value.bool true := r'
        refine ⟨rfl, OldK.of_keep fun b o e => ?_, os, bare⟩
        rcases hO b with z | ⟨rfl, z, _⟩
        · refine un.keep b o e z (fun y => ?_) (by simp)
          exact absurd (show b ∈ ([] : List Addr) from y) (by simp)
        · obtain ⟨e2, _⟩ := hok' b _ (un.frzs b O _ z)
          rw [ha] at e
          cases e
          exact e2
  cases hk : K.lookup a with
  | some o =>
    have e := KX a o hk
    rw [ha] at e
    cases e
    refine core (fun _ => none) (fun _ => .inl rfl) (.inr ⟨_, vs.toArray, _, hk, rfl, rfl, rfl, ?_, by simpa using rv⟩)
    rw [List.size_toArray, lenV]
    exact hl
  | none =>
    refine core (fun b => if b = a then some (.frz O (.lst (ns.map V.int))) else none) (fun b => ?_) (.inl (.inr ⟨O, if_pos rfl⟩))
    by_cases hb : b = a
    · exact .inr ⟨hb, if_pos hb, hk⟩
    · exact .inl (if_neg hb)
/-- the end of a law row, by such a promise -/
theorem walkG {l : W.OpenLaw} {n k : Nat} {q : Program} {loose : List Str} {XP : (Str → Option Value) → Heap → Prop} {YP : World → Heap → Prop} {d : DefRec} {CX : CXT} {x : Str}
    (hn : l.most = some n) (hn2 : n ≤ sizeLine) (hdf : d.params.defaults = []) (hr : Room k callerA)
    (F : ∀ (w : World) (mg : Str → Option Value) (fa : Addr) (h : Heap), YP w h → h.Ns mainGlobals mg → mg d.name = some (.ref fa) →
      ∃ (K : W.Frag) (fd : FuncData) (sp : Sp), K.In h ∧ (∀ (s : Shared) (u : Value), BindsTo s fd ⟨[u], []⟩ [(x, u)]) ∧
        (∀ (H : Hp) (a : Addr) (ns : List Int), ns.length ≤ n → (∀ k ∈ ns, Builtin.Int.intBits k ≤ 1048576) → SqL K H a (ns.map V.int) → sp [.ref a] H (fun v _ => v = .bl true) fun _ _ _ => False) ∧
        ∀ base : Heap, K.In base → base.Ns mainGlobals mg → FnG l.prog w K mg base CX k fa fd [x] sp)
    (hCX : ∀ (H : Hp) (s : Shared) (e : Value) (s' : Shared), CX [] H s (fun _ _ _ => False) e s' → False) :
    W.WalkO q loose XP YP l.row.toRowW d [] (fun f vs => PySem.call f vs) := by
  refine Att.attach_callB hn hdf fun w s₀ s₁ mg mb fa o pm cd doc a vs ns G Y ho hd hcd hmg hobj hints hlen hbits hg => ?_
  obtain ⟨K, fd, sp, KX, hb, hsp, hF⟩ := F w mg fa _ Y G.T.g hmg
  exact law_callG KX G.T.g G.T.b G.T.builtins G.T.nolimit hg hobj hints (Nat.le_trans hlen hn2) hr hF hb (fun H hS => hsp H a ns hlen hbits hS) fun H e s' => hCX H s₁ e s'
end EW
end

section
set_option maxHeartbeats 4000000
namespace EW
open PySem PySem.Spec PyProof.Rows L2
/-! ### a def of the module that lets nothing out, by its name -/
structure Df (P : Program) (w : World) (K : W.Frag) (mg : Str → Option Value) (base : Heap) (k : Nat) (x : Str) (ps : List Str) (sp : Sp) : Prop where
  ex : ∃ fd, FnOk P w K mg base CX0 k (He.ga K x) fd ps sp ∧ Binds K fd ps []
  kp : W.keepIn K (.ref (He.ga K x)) = true
  gl : mg x = some (.ref (He.ga K x))
section
variable {X : Cx} {k : Nat} {ps : List Str} {sp : Sp} {x : Str} {p pos : Pos} {e : Expr} {es : List Expr} {t : TA}
theorem pe_df (D : Df X.prog X.w X.K X.mg X.base k x ps sp) (hr : Room k X.A) (hg : Gl X x) (ha : PA X (e :: es) t) (hdb : (x == ("__debug__" : Str)) = false := by decide)
    (he : starEach (e :: es) X.env = (false, eval e X.env) :: starEach es X.env := by rfl) (hpl : (backTo pos (starEach es X.env)).any (·.1) = false := by rfl) :
    PE X (.Call (.Name x p) (e :: es) [] pos) (tCall sp [] E0 t) := by
  obtain ⟨fd, F, b⟩ := D.ex
  exact pe_call F hr hg D.gl D.kp b .nil pass0 ha hdb he hpl
theorem pe_df0 (D : Df X.prog X.w X.K X.mg X.base k x ps sp) (hr : Room k X.A) (hg : Gl X x) (hdb : (x == ("__debug__" : Str)) = false := by decide) :
    PE X (.Call (.Name x p) [] [] pos) (tCall sp [] E0 tNil) := by
  obtain ⟨fd, F, b⟩ := D.ex
  exact pe_call0 F hr hg D.gl D.kp b .nil pass0 hdb
/-- powers of greater numbers -/
def CPowW (i j : Int) : Prop := 0 ≤ j ∧ (Builtin.Int.intBits i : Int) * j ≤ 2 ^ 27
theorem op_powW : OpR X (binaryOp .Pow) (rI CPowW fun i j => .int (i ^ j.toNat)) := opI fun _ _ _ _ _ _ _ hc q => pow_int hc.1 hc.2 q
end
/-! ### a list of three numbers that draws are made of -/
/-- all but d stands as it stood -/
def Kept (d : Addr) (H H' : Hp) : Prop := ∀ a o, a ≠ d → H a = some o → H' a = some o
theorem Kept.refl (d : Addr) (H : Hp) : Kept d H H := fun _ _ _ e => e
theorem Kept.trans {d : Addr} {H H1 H2 : Hp} (a : Kept d H H1) (b : Kept d H1 H2) : Kept d H H2 := fun c o n e => b c o n (a c o n e)
theorem Kept.upd {d : Addr} {H : Hp} {o : HO} : Kept d H (upd H d o) := fun a u n e => by
  rw [upd_ne n]
  exact e
theorem Kept.new {d p : Addr} {H : Hp} {o : HO} (h : H p = none) : Kept d H (L2.upd H p o) := fun a u n e => by
  rw [upd_ne (ne_of_none e h)]
  exact e
theorem Kept.same {d : Addr} {H H1 H' : Hp} (k : Kept d H1 H') (s : Same H H1) (h : H d = none) : Same H H' := fun a o e => k a o (ne_of_none e h) (s a o e)
theorem Kept.free {d p : Addr} {H H' : Hp} (k : Kept d H H') (h : H' p = none) (n : p ≠ d) : H p = none := by
  cases e : H p with
  | none => rfl
  | some o =>
    rw [k p o n e] at h
    cases h
/-- the draws at d: at most n of them were mixed -/
def Dc (H : Hp) (d : Addr) (n : Int) : Prop := ∃ g b c : Int, H d = some (.lst [.int g, .int b, .int c]) ∧ 0 ≤ g ∧ g < 2 ^ 2200 ∧ 0 ≤ b ∧ b < 2 ^ 62 ∧ 0 ≤ c ∧ c ≤ n
theorem Dc.mono {H : Hp} {d : Addr} {n m : Int} (h : Dc H d n) (l : n ≤ m) : Dc H d m := by
  obtain ⟨g, b, c, h1, h2, h3, h4, h5, h6, h7⟩ := h
  exact ⟨g, b, c, h1, h2, h3, h4, h5, h6, by omega⟩
theorem Dc.new {H : Hp} {d p : Addr} {n : Int} {o : HO} (h : Dc H d n) (hp : H p = none) : Dc (upd H p o) d n := by
  obtain ⟨g, b, c, h1, r⟩ := h
  exact ⟨g, b, c, by rw [upd_ne (ne_of_none h1 hp)]; exact h1, r⟩
theorem Dc.ne {H : Hp} {d a : Addr} {n : Int} {o : HO} (h : Dc H d n) (e : H a = some o) (hn : ∀ xs, o ≠ .lst xs) : a ≠ d := fun z => by
  obtain ⟨g, b, c, h1, _⟩ := h
  rw [z, h1] at e
  exact hn _ (Option.some.inj e).symm
/-- a new place is another one -/
theorem Dc.nn {H : Hp} {d p : Addr} {n : Int} (h : Dc H d n) (hp : H p = none) : p ≠ d := fun z => by
  obtain ⟨g, b, c, h1, _⟩ := h
  rw [z, h1] at hp
  cases hp
/-- other objects change, d stands -/
theorem Dc.keep {H H' : Hp} {d : Addr} {n : Int} (h : Dc H d n) (k : H' d = H d) : Dc H' d n := by
  obtain ⟨g, b, c, h1, r⟩ := h
  exact ⟨g, b, c, k.trans h1, r⟩
/-! ### small data: what values are shown as -/
inductive Lf : V → PyData → Prop where
  | non : Lf .non .none
  | bl (b : Bool) : Lf (.bl b) (.bool b)
  | int (i : Int) (h : i.natAbs < 2 ^ 200) : Lf (.int i) (.int i)
  | str (z : Str) (h : z.length ≤ 40) (a : ∀ c ∈ z.cps.toList, c < 128) : Lf (.str z) (.str z)
inductive Lfs : List V → List PyData → Prop where
  | nil : Lfs [] []
  | cons {v : V} {vs : List V} {d : PyData} {ds : List PyData} : Lf v d → Lfs vs ds → Lfs (v :: vs) (d :: ds)
/-- a value: a leaf, or a tuple of at most four leaves -/
inductive Nv (K : W.Frag) (H : Hp) : V → PyData → Prop where
  | lf {v : V} {d : PyData} (h : Lf v d) : Nv K H v d
  | tup {a : Addr} {xs : List V} {ds : List PyData} (h : H a = some (.tup xs)) (l : Lfs xs ds) (z : xs.length ≤ 4) : Nv K H (.ref a) (.tuple ds)
  | emp {a : Addr} (h : SqT K H a []) : Nv K H (.ref a) (.tuple [])
theorem Lf.dp {K : W.Frag} {H : Hp} {v : V} {d : PyData} (h : Lf v d) : Dp K H v d := by
  cases h with
  | non => exact .non
  | bl b => exact .bl b
  | int i _ => exact .int i
  | str z _ _ => exact .str z
theorem Lfs.dp {K : W.Frag} {H : Hp} : ∀ {vs : List V} {ds : List PyData}, Lfs vs ds → DpAll K H vs ds
  | _, _, .nil => .nil
  | _, _, .cons h t => .cons h.dp t.dp
theorem Nv.dp {K : W.Frag} {H : Hp} {v : V} {d : PyData} (h : Nv K H v d) : Dp K H v d := by
  cases h with
  | lf h => exact h.dp
  | tup h l _ => exact .tup (SqT.of h) l.dp
  | emp h => exact .tup h .nil
/-- values stand while nothing but lists changes -/
def KeptT (H H' : Hp) : Prop := ∀ a xs, H a = some (.tup xs) → H' a = some (.tup xs)
theorem Nv.keep {K : W.Frag} {H H' : Hp} {v : V} {d : PyData} (h : Nv K H v d) (k : KeptT H H') (kf : ∀ a o u, H a = some (.frz o u) → H' a = some (.frz o u)) : Nv K H' v d := by
  cases h with
  | lf h => exact .lf h
  | tup h l z => exact .tup (k _ _ h) l z
  | emp h =>
    refine .emp ?_
    rcases h with (h | ⟨o, h⟩) | h
    · exact .inl (.inl (k _ _ h))
    · exact .inl (.inr ⟨o, kf _ _ _ h⟩)
    · exact .inr h
end EW
end

section
set_option maxHeartbeats 4000000
namespace EW
open PySem PySem.Spec PyProof.Rows L2
/-! rules with the written part told by its own letter: so that a comprehension's block may use them -/
section
variable {X : Cx}
theorem boot_isinstance : bootBuiltins "isinstance" = some (.builtin "isinstance") := by decide +kernel
theorem boot_repr : bootBuiltins "repr" = some (.builtin "repr") := by decide +kernel
theorem boot_abs : bootBuiltins "abs" = some (.builtin "abs") := by decide +kernel
theorem boot_max : bootBuiltins "max" = some (.builtin "max") := by decide +kernel
theorem boot_min : bootBuiltins "min" = some (.builtin "min") := by decide +kernel
theorem boot_int : bootBuiltins "int" = some (.type "int") := by decide +kernel
theorem call_lenK (K : W.Frag) (h : X.K = K) : CallR X (.builtin "len") (fun xs H Q => ∃ x n, xs = [x] ∧ LenV K x H n ∧ Q (.int n) H) := by
  subst h
  exact call_len
theorem ix_listK (K : W.Frag) (h : X.K = K) : IxR X (rIxL K) := by
  subst h
  exact ix_list
theorem call_isXK (K : W.Frag) (h : X.K = K) : CallR X (.builtin "isinstance") (rIsX K) := by
  subst h
  exact call_isX
theorem call_reprK {k : Nat} (K : W.Frag) (h : X.K = K) (hG : X.A.guards = some []) (hr : Room k X.A) : CallR X (.builtin "repr") (rRepr K) := by
  subst h
  exact call_repr hG hr
theorem pe_xflK {e : Expr} {te : TE} {f : Str} {pos : Pos} (K : W.Frag) (h : X.K = K) (he : PE X e te) (hb : attributeBase e f X.env (eval e X.env) = eval e X.env := by rfl) : PE X (.Attribute e f pos) (tXfl K f te) := by
  subst h
  exact pe_xfl he hb
theorem op_eqDK (K : W.Frag) (h : X.K = K) (hu : X.A.units + 64 < cLine) : OpR X (compareOp .Eq) (rEqD K) := by
  subst h
  exact op_eqD hu
theorem op_neDK (K : W.Frag) (h : X.K = K) (hu : X.A.units + 64 < cLine) : OpR X (compareOp .NotEq) (rNeD K) := by
  subst h
  exact op_neD hu
end
end EW
end

section
set_option maxHeartbeats 4000000
/-! EwReprB: repr of a truth. -/
namespace EW
open PySem PySem.Spec PyProof.Rows L2
theorem call_repr_bl {X : Cx} : CallR X (.builtin "repr") (fun xs H Q => ∃ b : Bool, xs = [.bl b] ∧ Q (.str (if b then "True" else "False")) H) := by
  intro pins s σ H xs us Q I r h
  obtain ⟨b, rfl, q⟩ := h
  cases r with
  | cons rx rn =>
    cases rn
    obtain rfl := rx
    exact PySem.P.repr_of_bool ⟨.str _, H, I.tok _, ⟨_, rfl⟩, q⟩
end EW
end

section
set_option maxHeartbeats 4000000
/-! EwLamA: a lambda with parameters, nothing captured: its call. -/
namespace EW
open PySem PySem.Spec PyProof.Rows L2
/-- the call of a lambda that captures nothing -/
theorem run_lam {P : Program} {w : World} {K : W.Frag} {mg : Str → Option Value} {base : Heap} {k : Nat} {f c' : Addr} {qual : Str} {params : Arguments} {body : Expr} {scope : Scope} {pm ct : Value} {N ps : List Str} (S : FnScope N ps scope)
    {A : Around} {outer : List Env} {s : Shared} {H : Hp} {us : List Value} {vs : List V} {Q : VK} {E : XK} {t : TE}
    (of : s.heap.get? f = some (W.kla_obj "<lambda>" qual params body scope [] pm c' ct)) (hcode : s.heap.CodeRec (.ref c') qual) (hr : Room (k + 1) A) (e0 : Env0 P w K mg base A outer s H)
    (hb : bindArgs (W.kla_fn "<lambda>" qual params body scope [] pm (.ref c') ct) ⟨us, []⟩ = pure (ps.zip us)) (r : Vals vs us) (hl : vs.length = ps.length)
    (hbody : Room k (A.deeper (envOfC qual scope s.heap.objs.size f (.ref c'))) → PE (cxOf CX0 P w K mg base N qual scope f (.ref c') A outer s H E) body t) (ht : t (L2.start N vs) H Q) :
    codeAny (model P w) A (.call (.ref f) ⟨us, []⟩) (CR CX0 outer P w H s Q E) s := by
  have lim : s.heap.NoLimit := e0.mod.nolimit.keeps fun b o e => (e0.bs b o e).1
  have hkind : ∀ y ∈ ps.zip us, scope.names.lookup y.1 = some .local ∨ (scope.names.lookup y.1 = some .cell ∧ ((cellsFrom (s.heap.objs.size + 1) scope.names []).lookup y.1).isSome = true) := fun ⟨n, v⟩ hy => by
    rcases S.par n (List.of_mem_zip hy).1 with q | q
    · exact .inl q
    · exact .inr ⟨q, W.cellsFrom_some _ _ _ (.inl q)⟩
  refine W.kla_callFunE hr.depth of rfl S.co S.gen rfl hcode ?_
  rw [hb]
  refine wpAny_pure (wpAny_newFunctionEnv_cells S.kind hkind fun env he s1 x => ?_)
  subst he
  refine ⟨lim.keeps x.toInCall.keep, ?_⟩
  have I : Inv (cxOf CX0 P w K mg base N qual scope f (.ref c') A outer s H E) [] (L2.start N vs) H s1 := inv_start S hr.hd e0 hl r x
  refine W.kla_codeExpr (wpAny_mono ((hbody (hr.deeper _)).run [] s1 (L2.start N vs) H _ I ht) (fun u s' hq => ?_) fun e s' hs => hs)
  obtain ⟨v, H', J, rv, q⟩ := hq
  exact ⟨v, H', J.os, J.bare, J.base, J.hok, rv, q⟩
end EW
end

section
set_option maxHeartbeats 4000000
/-! EwLamB: a lambda is made, and known from then on. -/
namespace EW
open PySem PySem.Spec PyProof.Rows L2 LamX
/-- the lambda at f, its code object at c' -/
def LamO (f : Addr) (qual : Str) (params : Arguments) (body : Expr) (scope : Scope) (c' : Addr) : HO := .ext fun h => ∃ pm ct, h.get? f = some (W.kla_obj "<lambda>" qual params body scope [] pm c' ct)
section
variable {X : Cx} {pins : List (Addr × Obj)} {σ : L2.St} {H : Hp} {s : Shared}
theorem lamO_ok {P : Program} {w : World} {H : Hp} {h : Heap} {f c' : Addr} {qual : Str} {params : Arguments} {body : Expr} {scope : Scope} {pm ct : Value} (e : h.get? f = some (W.kla_obj "<lambda>" qual params body scope [] pm c' ct)) : ObjOk P w H h f (LamO f qual params body scope c') :=
  ⟨⟨pm, ct, e⟩, ⟨_, e⟩, fun _ _ ⟨pm, ct, p⟩ k => ⟨pm, ct, k _ p⟩⟩
theorem lam_make3 {T : List (Addr × Str)} {c P : Addr} {params : Arguments} {body : Expr} {scope : Scope} {pos : Pos} {E : Value → Shared → Prop} {Q : Value → Shared → Prop} (I : Inv X pins σ H s) (TB : TabB X.base X.mg c P) (hcode : X.env.code = .ref c)
    (hm : (P, X.env.qual ++ "<lambda>") ∈ T) (hu : ∀ p ∈ T, p.1 = P → p.2 = X.env.qual ++ "<lambda>") (hT : Tabs T H) (hdef : defaultsOf params X.env = ([], [])) (hfree : ∀ y ∈ scope.names, y.2 = .free → ∃ c, X.env.cells.lookup y.1 = some c) (hclo : cloFrom X.env.cells scope.names [] = [])
    (h : ∀ (f c' : Addr) (H1 : Hp) (s' : Shared), Inv X pins σ H1 s' → ExtN H H1 → Tabs T H1 → H f = none → H1 f = some (LamO f (X.env.qual ++ "<lambda>") params body scope c') → H1 c' = some (CodeO c' (X.env.qual ++ "<lambda>")) → Q (.ref f) s') :
    wpAny (model X.prog X.w) X.A (eval (.Lambda params body scope pos) X.env) Q E s := by
  obtain ⟨ps, hP, ht, ha⟩ := hT _ hm
  refine W.kla_eval hdef ?_
  have bP : s.heap.BuiltinsAt X.mg P := TB.bm.keeps I.bk
  have hP' : s.heap.get? P = some { cls := .none, data := .fields ps } := I.hok P _ hP
  cases hc : codeAmong pos ps.toList with
  | none =>
    refine W.kla_makeFunction (mg := X.mg) (c := c) (P := P) (ps := ps) (closure_ok hfree) I.ok.glob (I.mod.glob.keeps I.bk) hcode (TB.code.keeps I.bk) hP' ht hc TB.gP bP fun c' ctv h' tk hx hge hlt hrec htb => ?_
    rw [hclo]
    obtain ⟨c2, oc, vs, t, e2, hoc, hd, hv⟩ := hrec
    cases e2
    have hsz : s.heap.objs.size ≤ h'.objs.size := Nat.le_trans hge (Nat.le_of_lt hlt)
    have nC : H c' = none := I.hok.fresh hge
    have I1 := inv_table (t' := tk) (more := #[rawInt pos.line, rawInt pos.col, .ref c']) (h' := h') I hP hx htb hge ⟨oc, vs, t, hoc, hd, hv⟩
    have hE : ExtN H (upd (upd H P (.tbl (ps ++ #[rawInt pos.line, rawInt pos.col, .ref c']))) c' (CodeO c' (X.env.qual ++ "<lambda>"))) := fun b o e n => by
      rw [upd_ne (ne_of_none e nC), upd_ne (fun z => n ps (Option.some.inj (e.symm.trans (by rw [z]; exact hP))))]
      exact e
    have eL : (ps ++ #[rawInt pos.line, rawInt pos.col, .ref c']).toList = ps.toList ++ [rawInt pos.line, rawInt pos.col, .ref c'] := by simp
    have hTT : Tabs T (upd (upd H P (.tbl (ps ++ #[rawInt pos.line, rawInt pos.col, .ref c']))) c' (CodeO c' (X.env.qual ++ "<lambda>"))) := fun p hp => by
      by_cases hb : p.1 = P
      · rw [hu p hp hb, hb]
        refine ⟨_, by rw [upd_ne (ne_of_none hP nC), upd_same], by rw [eL]; exact PySem.TriplesOk_snoc _ _ _ _ ht, fun p' cv hcv => ?_⟩
        rw [eL] at hcv
        rcases among_app _ ht hcv with z | z
        · obtain ⟨c0, e1, e2⟩ := ha p' cv z
          exact ⟨c0, e1, hE _ _ e2 codeO_ne⟩
        · exact ⟨c', z, upd_same⟩
      · obtain ⟨ps', a1, a2, a3⟩ := hT p hp
        refine ⟨ps', by rw [upd_ne (ne_of_none a1 nC), upd_ne hb]; exact a1, a2, fun p' cv hcv => ?_⟩
        obtain ⟨c0, e1, e2⟩ := a3 p' cv hcv
        exact ⟨c0, e1, hE _ _ e2 codeO_ne⟩
    have hcn : (upd (upd H P (.tbl (ps ++ #[rawInt pos.line, rawInt pos.col, .ref c']))) c' (CodeO c' (X.env.qual ++ "<lambda>"))) c' = some (CodeO c' (X.env.qual ++ "<lambda>")) := upd_same
    generalize upd (upd H P (.tbl (ps ++ #[rawInt pos.line, rawInt pos.col, .ref c']))) c' (CodeO c' (X.env.qual ++ "<lambda>")) = H1 at I1 hE hTT hcn
    have nF : H1 h'.objs.size = none := I1.hok.fresh (Nat.le_refl _)
    have hsm : ∀ b o, H1 b = some o → upd H1 h'.objs.size (LamO h'.objs.size (X.env.qual ++ "<lambda>") params body scope c') b = some o := fun b o e => by rw [upd_ne (ne_of_none e nF)]; exact e
    exact h h'.objs.size c' _ _ (I1.laid (t' := tk) (o := LamO h'.objs.size (X.env.qual ++ "<lambda>") params body scope c') (fun _ _ e => Heap.get?_push_of_some _ e) (Nat.le_refl _) (lamO_ok (Heap.get?_push_size _ rfl))) (hE.trans (.of hsm)) (hTT.ext hsm) (I.hok.fresh hsz) upd_same (hsm _ _ hcn)
  | some cv =>
    obtain ⟨c', e, hco⟩ := ha pos cv hc
    subst e
    refine W.kla_makeFunctionHit (mg := X.mg) (c := c) (P := P) (ps := ps) (closure_ok hfree) I.ok.glob (I.mod.glob.keeps I.bk) hcode (TB.code.keeps I.bk) hP' ht hc bP fun ctv h' tk hx hsz => ?_
    rw [hclo]
    have I1 : Inv X pins σ H { s with heap := h', toks := tk } := I.kept fun b o e => hx b o e
    have nF : H h'.objs.size = none := I1.hok.fresh (Nat.le_refl _)
    have hsm : ∀ b o, H b = some o → upd H h'.objs.size (LamO h'.objs.size (X.env.qual ++ "<lambda>") params body scope c') b = some o := fun b o e => by rw [upd_ne (ne_of_none e nF)]; exact e
    exact h h'.objs.size c' _ _ (I1.laid (t' := tk) (o := LamO h'.objs.size (X.env.qual ++ "<lambda>") params body scope c') (fun _ _ e => Heap.get?_push_of_some _ e) (Nat.le_refl _) (lamO_ok (Heap.get?_push_size _ rfl))) (.of hsm) (hT.ext hsm) nF upd_same (hsm _ _ hco)
/-- a lambda that captures nothing, as an expression -/
def tLamX (T : List (Addr × Str)) (qual : Str) (params : Arguments) (body : Expr) (scope : Scope) : TE := fun σ H Q => Tabs T H ∧ ∀ (f c' : Addr) (H1 : Hp), ExtN H H1 → Tabs T H1 → H f = none → H1 f = some (LamO f qual params body scope c') → H1 c' = some (CodeO c' qual) → Q (.ref f) H1
theorem pe_lamX {T : List (Addr × Str)} {c P : Addr} {params : Arguments} {body : Expr} {scope : Scope} {pos : Pos} (TB : TabB X.base X.mg c P) (hcode : X.env.code = .ref c)
    (hm : (P, X.env.qual ++ "<lambda>") ∈ T) (hu : ∀ p ∈ T, p.1 = P → p.2 = X.env.qual ++ "<lambda>") (hdef : defaultsOf params X.env = ([], [])) (hfree : ∀ y ∈ scope.names, y.2 ≠ .free) (hclo : cloFrom X.env.cells scope.names [] = []) :
    PE X (.Lambda params body scope pos) (tLamX T (X.env.qual ++ "<lambda>") params body scope) := ⟨fun pins s σ H Q I h => by
  obtain ⟨hT, q⟩ := h
  refine lam_make3 I TB hcode hm hu hT hdef (fun y hy e => absurd e (hfree y hy)) hclo fun f c' H1 s' I1 hE hTT nf e1 e2 => ?_
  exact ⟨.ref f, H1, I1, rfl, q f c' H1 hE hTT nf e1 e2⟩⟩
end
end EW
end

section
set_option maxHeartbeats 4000000
namespace EW
open PySem PySem.Spec PyProof.Rows L2
/-! ### new objects, the heap behind them told by what it holds alone -/
section
variable {X : Cx} {e : Expr} {es : List Expr} {t : TA} {te te' : TE} {pos p : Pos}
theorem PE.imp (h : PE X e te) (i : ∀ σ H Q, te' σ H Q → te σ H Q) : PE X e te' := ⟨fun pins s σ H Q I q => h.run pins s σ H Q I (i _ _ _ q)⟩
theorem PE.cl (h : PE X e te) : PE X e (fun σ H Q => ∃ R : VK, te σ H R ∧ ∀ v H1, R v H1 → Q v H1) := by
  refine ⟨fun pins s σ H Q I q => ?_⟩
  obtain ⟨R, h1, h2⟩ := q
  refine wpAny_mono (h.run pins s σ H R I h1) (fun u s' z => ?_) fun _ _ z => z
  obtain ⟨v, H1, I1, rv, r⟩ := z
  exact ⟨v, H1, I1, rv, h2 v H1 r⟩
theorem PA.cl (h : PA X es t) : PA X es (fun σ H Q => ∃ R : List V → Hp → Prop, t σ H R ∧ ∀ v H1, R v H1 → Q v H1) := by
  refine ⟨fun ps pins s σ H Q I q => ?_⟩
  obtain ⟨R, h1, h2⟩ := q
  refine wpAny_mono (h.run ps pins s σ H R I h1) (fun u s' z => ?_) fun _ _ z => z
  obtain ⟨v, H1, I1, rv, r⟩ := z
  exact ⟨v, H1, I1, rv, h2 v H1 r⟩
theorem sameN {H : Hp} {p : Addr} {o : HO} (h : H p = none) : Same H (upd H p o) := fun a u z => by
  rw [upd_ne (ne_of_none z h)]
  exact z
/-- something new at p -/
def New (H : Hp) (o : Addr → HO) (Q : VK) : Prop := ∀ (p : Addr) (H' : Hp), H p = none → Same H H' → H' p = some (o p) → Q (.ref p) H'
theorem New.at {H : Hp} {o : Addr → HO} {Q : VK} (h : New H o Q) {p : Addr} (hp : H p = none) : Q (.ref p) (upd H p (o p)) := h p _ hp (sameN hp) upd_same
def tLstS (t : TA) : TE := fun σ H Q => t σ H fun xs H1 => xs.length ≤ sizeLine ∧ New H1 (fun _ => .lst xs) Q
def tTupS (t : TA) : TE := fun σ H Q => t σ H fun xs H1 => xs.length ≤ sizeLine ∧ New H1 (fun _ => .tup xs) Q
theorem pe_lstS (h : PA X es t) : PE X (.List es pos) (tLstS t) :=
  PE.imp (pe_lst (PA.cl h)) fun σ H Q q => ⟨_, q, fun _ _ z => ⟨z.1, fun _ hp => z.2.at hp⟩⟩
theorem pe_tupS {n : Nat} (h : PA X es t) : PE X (.Tuple es n pos) (tTupS t) :=
  PE.imp (pe_tup (PA.cl h)) fun σ H Q q => ⟨_, q, fun _ _ z => ⟨z.1, fun _ hp => z.2.at hp⟩⟩
def rCatS : R2 := fun x y H Q => ∃ (a b : Addr) (xs ys : List V), x = .ref a ∧ y = .ref b ∧ H a = some (.lst xs) ∧ H b = some (.lst ys) ∧ xs.length + ys.length ≤ sizeLine ∧ New H (fun _ => .lst (xs ++ ys)) Q
theorem op_catS : OpR X (binaryOp .Add) rCatS := by
  intro pins s σ H x y v u Q I rx ry h
  obtain ⟨a, b, xs, ys, h1, h2, h3, h4, h5, h6⟩ := h
  exact op_cat pins s σ H x y v u Q I rx ry ⟨a, b, xs, ys, h1, h2, h3, h4, h5, fun _ hp => h6.at hp⟩
end
end EW
end

section
set_option maxHeartbeats 4000000
namespace EW
open PySem PySem.Spec PyProof.Rows L2
/-- a cut behind a statement: what follows is shown of every state of which P holds -/
def tCut (a : TS) : TS := fun D σ H => ∃ P : L2.St → Hp → Prop, a { D with nx := P } σ H ∧ ∀ σ' H', P σ' H' → D.nx σ' H'
theorem ps_cut {X : Cx} {st : Stmt} {a : TS} (h : PS X st a) : PS X st (tCut a) := by
  refine ⟨fun pins s σ H D I q => ?_⟩
  obtain ⟨P, h1, h2⟩ := q
  refine wpAny_mono (h.run pins s σ H _ I h1) (fun fl s' z => ?_) fun _ _ z => z
  cases fl with
  | next =>
    obtain ⟨σ', H', I', p⟩ := z
    exact ⟨σ', H', I', h2 σ' H' p⟩
  | ret u => exact z
  | brk => exact z
  | cont => exact z
end EW
end

section
set_option maxHeartbeats 4000000
namespace EW
open PySem PySem.Spec PyProof.Rows L2
/-! ### operators by methods of the text -/
/-- a method of the class at C that lets nothing out -/
structure Mt (P : Program) (w : World) (K : W.Frag) (mg : Str → Option Value) (base : Heap) (k : Nat) (C : Addr) (m : Str) (ps : List Str) (sp : Sp) : Prop where
  ex : ∃ f fd, FnOk P w K mg base CX0 k f fd ps sp ∧ Binds K fd ps [] ∧ W.findIn K (.ref C) m = some (some (.ref f)) ∧ W.isFn K (.ref f) = true
section
variable {X : Cx} {k : Nat} {ps : List Str} {sp : Sp} {f C : Addr} {fd : FuncData} {pins : List (Addr × Obj)} {σ : L2.St} {H : Hp} {s : Shared}
/-- the def runs below the running body -/
theorem run_at {A : Around} {Q : VK} {us : List Value} {vs : List V} (F : FnOk X.prog X.w X.K X.mg X.base CX0 k f fd ps sp) (sb : Sub X k A) (hb : Binds X.K fd ps []) (I : Inv X pins σ H s) (r : Vals vs us) (h : sp vs H Q E0) :
    wpAny (model X.prog X.w) A (call (.ref f) us) (EP X pins σ Q) X.xe s := by
  have z := F.len _ _ _ _ h
  have e0 : Env0 X.prog X.w X.K X.mg X.base A X.stack s H := ⟨sb.fr.trans I.env0.frames, I.env0.mod, I.env0.bs, I.env0.bsz, I.env0.funs, I.env0.frf, I.env0.hok, I.env0.bare⟩
  have hl : (us ++ []).length = ps.length := by rw [List.append_nil, ← r.length]; exact z
  have hb' := hb s us I.kIn hl
  rw [List.append_nil] at hb'
  refine wpAny_call (codeAny_mono (F.run A X.stack s H ⟨us, []⟩ us vs Q E0 sb.room e0 hb' r h) fun q s' hq => ?_)
  match q, hq with
  | .error e, hq => exact (hq : False).elim
  | .ok (.ret u), hq => exact I.after hq
  | .ok .next, hq => exact (hq : False).elim
  | .ok .brk, hq => exact (hq : False).elim
  | .ok .cont, hq => exact (hq : False).elim
/-- an instance of the class at C -/
def IsC (H : Hp) (C : Addr) (x : V) : Prop := ∃ a dx fs, x = .ref a ∧ H a = some (.ins C dx fs)
theorem IsC.at_ {x : V} {v : Value} (h : IsC H C x) (I : Inv X pins σ H s) (r : RelV x v) : ∃ a ox od, v = .ref a ∧ W.InstAt s.heap a ox C od := by
  obtain ⟨a, dx, fs, rfl, e⟩ := h
  cases r
  obtain ⟨mA, J, _⟩ := ins_get I.hok e
  obtain ⟨od, J, _⟩ := J.look
  exact ⟨a, _, _, rfl, J⟩
theorem rel_ni {v : V} {u : Value} (r : RelV v u) : u ≠ .notImplemented := by
  rintro rfl
  cases v <;> (cases r; try contradiction)
theorem back_of {Q : Value → Shared → Prop} {u : Value} {s' : Shared} (n : u ≠ .notImplemented) (h : Q u s') : W.CmpBack Q u s' := by
  cases u <;> first | exact h | exact absurd rfl n
theorem back {Q : VK} {u : Value} {s' : Shared} (h : EP X pins σ Q u s') : W.CmpBack (EP X pins σ Q) u s' := by
  obtain ⟨v, H', I', r, q⟩ := h
  exact back_of (rel_ni r) ⟨v, H', I', r, q⟩
/-- x op y, both of the class at C -/
def rOwn (C : Addr) (sp : Sp) : R2 := fun x y H Q => IsC H C x ∧ IsC H C y ∧ sp [x, y] H Q E0
theorem op_own {op : Operator} (M : Mt X.prog X.w X.K X.mg X.base k C (PySem.dunder op.info.2) ps sp) (hc : W.selfFirst X.K C = true) (hr : Room k X.A) : OpR X (binaryOp op) (rOwn C sp) := by
  intro pins s σ H x y v u Q I rx ry h
  obtain ⟨cx, cy, h⟩ := h
  obtain ⟨f, fd, F, hb, hs, hf⟩ := M.ex
  obtain ⟨a, ox, od, rfl, J⟩ := cx.at_ I rx
  obtain ⟨b, oy, od', rfl, J'⟩ := cy.at_ I ry
  obtain ⟨m, hF⟩ := I.fr
  refine W.binop_K hF I.ok.mod.kin J J'.type hc hs hf ?_
  exact wpAny_mono (run_at F ⟨hr, rfl⟩ hb I (.cons rx (.cons ry .nil)) h) (fun _ _ z => back z) fun _ _ z => z
/-- ~x -/
def uOwn (C : Addr) (sp : Sp) : V → Hp → VK → Prop := fun x H Q => IsC H C x ∧ sp [x] H Q E0
theorem inv_K {M : Model} {A : Around} {E : Value → Shared → Prop} {K : W.Frag} {a : Addr} {ox : Obj} {od : Option Obj} {Q : Value → Shared → Prop} (X' : K.In s.heap) (J : W.InstAt s.heap a ox C od) (hs : W.findIn K (.ref C) "__invert__" = some (some (.ref f))) (hf : W.isFn K (.ref f) = true)
    (h : wpAny M A (call (.ref f) [.ref a]) Q E s) : wpAny M A (unaryOp .Invert (.ref a)) Q E s := by
  unfold unaryOp
  exact wpAny_holding (wpAny_bind (W.special_fn X' J hs (beq_iff_eq.mp hf) (wpAny_mono h (fun _ _ q => wpAny_pure q) fun _ _ q => q)))
theorem un_own (M : Mt X.prog X.w X.K X.mg X.base k C "__invert__" ps sp) (hr : Room k X.A) : UnR X (unaryOp .Invert) (uOwn C sp) := by
  intro pins s σ H x v Q I rx h
  obtain ⟨cx, h⟩ := h
  obtain ⟨f, fd, F, hb, hs, hf⟩ := M.ex
  obtain ⟨a, ox, od, rfl, J⟩ := cx.at_ I rx
  exact inv_K I.kIn J hs hf (run_at F ⟨hr, rfl⟩ hb I (.cons rx .nil) h)
/-- x in y by an own method that tells a bool -/
def Bl (Q : VK) : VK := fun z H => ∃ c, z = .bl c ∧ Q (.bl c) H
def rInO (C : Addr) (sp : Sp) : R2 := fun x y H Q => IsC H C y ∧ sp [y, x] H (Bl Q) E0
theorem op_inO (M : Mt X.prog X.w X.K X.mg X.base k C "__contains__" ps sp) (hr : Room k X.A) : OpR X (compareOp .In) (rInO C sp) := by
  intro pins s σ H x y v u Q I rx ry h
  obtain ⟨cy, h⟩ := h
  obtain ⟨f, fd, F, hb, hs, hf⟩ := M.ex
  obtain ⟨a, ox, od, rfl, J⟩ := cy.at_ I ry
  obtain ⟨m, hF⟩ := I.fr
  refine W.in_K hF I.ok.mod.kin J hs hf ?_
  refine wpAny_mono (run_at F ⟨hr, rfl⟩ hb I (.cons ry (.cons rx .nil)) h) (fun r s' z => ?_) fun _ _ z => z
  obtain ⟨w, H', I', rw', c, rfl, q⟩ := z
  cases rw'
  exact wpAny_truthy_bool ⟨.bl c, H', I', rfl, q⟩
/-- the truth of an instance -/
def rTru (C : Addr) (sp : Sp) : V → Hp → (Bool → Hp → Prop) → Prop := fun x H Q => IsC H C x ∧ sp [x] H (fun z H' => ∃ c, z = .bl c ∧ Q c H') E0
theorem tru_at {A : Around} {x : V} {v : Value} {Q : Bool → Hp → Prop} (M : Mt X.prog X.w X.K X.mg X.base k C "__bool__" ps sp) (sb : Sub X k A) (I : Inv X pins σ H s) (rx : RelV x v) (h : rTru C sp x H Q) : wpAny (model X.prog X.w) A (truthy v) (TP X pins σ Q) X.xe s := by
  obtain ⟨cx, h⟩ := h
  obtain ⟨f, fd, F, hb, hs, hf⟩ := M.ex
  obtain ⟨a, ox, od, rfl, J⟩ := cx.at_ I rx
  obtain ⟨m, hF⟩ := I.fr
  refine W.truthy_K hF I.ok.mod.kin J hs hf ?_
  refine wpAny_mono (run_at F sb hb I (.cons rx .nil) h) (fun r s' z => ?_) fun _ _ z => z
  obtain ⟨w, H', I', rw', c, rfl, q⟩ := z
  cases rw'
  exact ⟨H', I', q⟩
theorem tru_own (M : Mt X.prog X.w X.K X.mg X.base k C "__bool__" ps sp) (hr : Room k X.A) : TruR X (rTru C sp) :=
  fun pins s σ H x v Q I rx h => tru_at M ⟨hr, rfl⟩ I rx h
/-- not x -/
def tNotO (C : Addr) (sp : Sp) (t : TE) : TE := fun σ H Q => t σ H fun x H1 => rTru C sp x H1 fun c H2 => Q (.bl (!c)) H2
theorem pe_notO {a : Expr} {t : TE} {pos : Pos} (M : Mt X.prog X.w X.K X.mg X.base k C "__bool__" ps sp) (hr : Room k X.A) (ha : PE X a t) : PE X (.UnaryOp .Not a pos) (tNotO C sp t) := by
  refine ⟨fun pins s σ H Q I h => ?_⟩
  refine UnaryOp_ (thn (ha.run pins s σ H _ I h) fun v s1 z => ?_)
  obtain ⟨x, H1, I1, r1, q1⟩ := z
  refine not_of (wpAny_mono (tru_at M ⟨hr, rfl⟩ I1 r1 q1) (fun c s' z => ?_) fun _ _ z => z)
  obtain ⟨H2, I2, q2⟩ := z
  exact ⟨.bl (!c), H2, I2, rfl, q2⟩
end
end EW
end

section
set_option maxHeartbeats 4000000
namespace EW
open PySem PySem.Spec PySem.Calls PyProof.Rows L2
section
variable {X : Cx} {k : Nat} {ps : List Str} {sp : Sp} {f C : Addr} {fd : FuncData} {pins : List (Addr × Obj)} {σ : L2.St} {H : Hp} {s : Shared}
/-- what an own == may be asked about: an instance of the class, an int -/
def Askd (H : Hp) (C : Addr) (y : V) : Prop := IsC H C y ∨ ∃ i, y = .int i
theorem Askd.looks {y : V} {u : Value} (h : Askd H C y) (I : Inv X pins σ H s) (r : RelV y u) : ∃ tb, W.Looks (model X.prog X.w) s.heap (typeOf u) tb ∧ W.notFirst X.K C tb = true := by
  rcases h with h | ⟨i, rfl⟩
  · obtain ⟨b, oy, od, rfl, J⟩ := h.at_ I r
    exact ⟨.ref C, J.type, by simp [W.notFirst]⟩
  · obtain ⟨t, rfl⟩ := r
    have e : fastBuiltinMro "int" = some [.type "int", .type "object"] := by decide +kernel
    refine ⟨.type "int", W.Looks.of_pure rfl, ?_⟩
    have z : W.subIn X.K (.type "int") (.ref C) = some false := by
      show (fastBuiltinMro "int").map (·.contains (.ref C)) = some false
      rw [e]
      simp
    simp [W.notFirst, z]
def rEqO (C : Addr) (sp : Sp) : R2 := fun x y H Q => IsC H C x ∧ Askd H C y ∧ sp [x, y] H Q E0
theorem op_eqO (M : Mt X.prog X.w X.K X.mg X.base k C "__eq__" ps sp) (hr : Room k X.A) : OpR X (compareOp .Eq) (rEqO C sp) := by
  intro pins s σ H x y v u Q I rx ry h
  obtain ⟨cx, cy, h⟩ := h
  obtain ⟨f, fd, F, hb, hs, hf⟩ := M.ex
  obtain ⟨a, ox, od, rfl, J⟩ := cx.at_ I rx
  obtain ⟨tb, L, nf⟩ := cy.looks I ry
  obtain ⟨m, hF⟩ := I.fr
  show wpAny _ _ (richCompare .Eq _ _) _ _ _
  refine W.cmp_K (op := .Eq) hr.units0 hF I.ok.mod.kin J L nf hs hf ?_
  exact wpAny_mono (run_at F ⟨hr, rfl⟩ hb I (.cons rx (.cons ry .nil)) h) (fun _ _ z => back z) fun _ _ z => z
/-! ### x != y by an own == -/
theorem ifBound_bt {M : Model} {A : Around} {E : Value → Shared → Prop} {K : W.Frag} {a : Addr} {ox : Obj} {od : Option Obj} {args : List Value} {Q : Option Value → Shared → Prop} (Kn : K.In s.heap) (J : W.InstAt s.heap a ox C od) (hs : W.findIn K (.ref C) "__ne__" = some (some (.builtin "object.__ne__")))
    (h : wpAny M A (call (.builtin "object.__ne__") (.ref a :: args)) (fun v => Q (some v)) E s) : wpAny M A (callSpecialIfBound? (.ref a) "__ne__" args) Q E s := by
  have fin : wpAny M A (call (.builtin "object.__ne__") ([.ref a] ++ args) >>= fun v => pure (some v)) Q E s := wpAny_bind (wpAny_mono h (fun v s' z => wpAny_pure z) fun _ _ z => z)
  have bd := F.cmp_object.ne.bind
  simp only [callSpecialIfBound?, bindSpecialIfBound?]
  refine wpAny_holding (wpAny_bind (wpAny_bind (wpAny_bind (J.type.here ((W.looks_findIn Kn hs).here ?_)))))
  refine wpAny_bind (wpAny_askSetting (wpAny_ite ?_))
  split
  · exact wpAny_bind (wpAny_of_eq (bd _) (wpAny_pure (by exact fin)))
  · exact wpAny_tryCatch (wpAny_bind (wpAny_of_eq (bd _) (wpAny_pure (by exact fin))))
theorem ne_entry {M : Model} {A : Around} {E : Value → Shared → Prop} {K : W.Frag} {a : Addr} {b : Value} {ox : Obj} {od : Option Obj} {Q : Fin → Shared → Prop} (hu : A.units < cLine) (Kn : K.In s.heap) (J : W.InstAt s.heap a ox C od) (hs : W.findIn K (.ref C) "__eq__" = some (some (.ref f))) (hf : W.isFn K (.ref f) = true)
    (h : wpAny M A (call (.ref f) [.ref a, b]) (fun v s' => ∃ c, v = .bool c ∧ Q (.done (.ret (.bool (!c)))) s') E s) : wpAny M A (Builtin.«object.__ne__» ⟨[.ref a, b], []⟩) Q E s := by
  have eqs : wpAny M A (callSpecialIfBound? (.ref a) "__eq__" [b]) (fun r s' => ∃ c, r = some (.bool c) ∧ Q (.done (.ret (.bool (!c)))) s') E s :=
    W.ifBound_K Kn J hs hf (wpAny_mono h (fun v s' z => by obtain ⟨c, rfl, q⟩ := z; exact ⟨c, rfl, q⟩) fun _ _ z => z)
  unfold Builtin.«object.__ne__»
  repeat (first | with_reducible refine wpAny_cRoomFor hu ?_ | (with_reducible refine wpAny_mono eqs (fun r s' z => ?_) fun _ _ z => z) | wp_step)
  obtain ⟨c, rfl, q⟩ := z
  exact wpAny_bind (wpAny_truthy_bool (wpAny_pure q))
theorem call_ne {A : Around} {a : Addr} {b : Value} {ox : Obj} {od : Option Obj} {E : Value → Shared → Prop} {K : W.Frag} {prog : Program} {w : World} {Q : Value → Shared → Prop} (hu : A.units + 1 < cLine) (Kn : K.In s.heap) (J : W.InstAt s.heap a ox C od) (hm : W.mroIn K C (.type "object") = some true)
    (hs : W.findIn K (.ref C) "__eq__" = some (some (.ref f))) (hf : W.isFn K (.ref f) = true)
    (h : wpAny (model prog w) A.in1 (call (.ref f) [.ref a, b]) (fun v s' => ∃ c, v = .bool c ∧ Q (.bool (!c)) s') E s) : wpAny (model prog w) A (call (.builtin "object.__ne__") [.ref a, b]) Q E s :=
  wpAny_call (codeAny_call_builtin F.cmp_object.ne.plain F.cmpEntry_ne (W.check_slot F.cmpKind_ne F.cmpSplit_ne (J.type.andThen (W.looks_mroIn Kn hm)) (F.cmpArgs_ne _ _) (ne_entry (A := A.in1) hu Kn J hs hf h)))
theorem ne_at {A : Around} {a : Addr} {b tb : Value} {ox : Obj} {od : Option Obj} {E : Value → Shared → Prop} {K : W.Frag} {prog : Program} {w : World} {Q : Value → Shared → Prop} (hu : A.units + 1 < cLine) (Kn : K.In s.heap) (J : W.InstAt s.heap a ox C od) (hm : W.mroIn K C (.type "object") = some true)
    (hb : W.Looks (model prog w) s.heap (typeOf b) tb) (hn : W.notFirst K C tb = true) (hne : W.findIn K (.ref C) "__ne__" = some (some (.builtin "object.__ne__"))) (hs : W.findIn K (.ref C) "__eq__" = some (some (.ref f))) (hf : W.isFn K (.ref f) = true)
    (h : wpAny (model prog w) A.in1 (call (.ref f) [.ref a, b]) (fun v s' => ∃ c, v = .bool c ∧ Q (.bool (!c)) s') E s) : wpAny (model prog w) A (richCompare .NotEq (.ref a) b) Q E s := by
  have one : wpAny (model prog w) A (tryCompare (.ref a) (cmpInfo .NotEq).2.1 b) (fun r s' => ∃ v, r = some v ∧ Q v s') E s := by
    unfold tryCompare
    refine wpAny_bind (ifBound_bt Kn J hne (call_ne hu Kn J hm hs hf (wpAny_mono h (fun v s' z => ?_) fun _ _ z => z)))
    obtain ⟨c, e, q⟩ := z
    exact ⟨c, e, wpAny_pure ⟨_, rfl, q⟩⟩
  have hu0 : A.units < cLine := Nat.lt_of_succ_lt hu
  unfold richCompare
  simp only [oneThing_ref]
  refine wpAny_holding (wpAny_bind (wpAny_cRoomFor hu0 ?_))
  refine wpAny_bind (J.type.here (wpAny_bind (hb.here ?_)))
  split
  · rename_i q
    have e : W.subIn K tb (.ref C) = some false := by
      rcases Bool.or_eq_true_iff.mp hn with e | e
      · rw [beq_iff_eq.mp e] at q
        simp at q
      · exact beq_iff_eq.mp e
    refine wpAny_bind ((W.looks_subIn Kn e).here ?_)
    simp only [Bool.false_eq_true, if_false]
    refine wpAny_bind (wpAny_mono one (fun r s' z => ?_) fun _ _ z => z)
    obtain ⟨v, rfl, z⟩ := z
    exact wpAny_pure z
  · refine wpAny_bind (wpAny_pure ?_)
    simp only [Bool.false_eq_true, if_false]
    refine wpAny_bind (wpAny_mono one (fun r s' z => ?_) fun _ _ z => z)
    obtain ⟨v, rfl, z⟩ := z
    exact wpAny_pure z
def rNeO (C : Addr) (sp : Sp) : R2 := fun x y H Q => IsC H C x ∧ Askd H C y ∧ sp [x, y] H (fun z H' => ∃ c, z = .bl c ∧ Q (.bl (!c)) H') E0
theorem op_neO (M : Mt X.prog X.w X.K X.mg X.base k C "__eq__" ps sp) (hm : W.mroIn X.K C (.type "object") = some true) (hne : W.findIn X.K (.ref C) "__ne__" = some (some (.builtin "object.__ne__"))) (hr : Room (k + 1) X.A) : OpR X (compareOp .NotEq) (rNeO C sp) := by
  intro pins s σ H x y v u Q I rx ry h
  obtain ⟨cx, cy, h⟩ := h
  obtain ⟨f, fd, F, hb, hs, hf⟩ := M.ex
  obtain ⟨a, ox, od, rfl, J⟩ := cx.at_ I rx
  obtain ⟨tb, L, nf⟩ := cy.looks I ry
  show wpAny _ _ (richCompare .NotEq _ _) _ _ _
  refine ne_at (by have := hr.un; omega) I.kIn J hm L nf hne hs hf ?_
  refine wpAny_mono (run_at F (Sub.in1 ⟨hr, rfl⟩) hb I (.cons rx (.cons ry .nil)) h) (fun r s' z => ?_) fun _ _ z => z
  obtain ⟨w, H', I', rw', c, rfl, q⟩ := z
  cases rw'
  exact ⟨c, rfl, .bl (!c), H', I', rfl, q⟩
/-! ### bool(x) -/
theorem bool_new {prog : Program} {w : World} {A : Around} {R : Result → Shared → Prop} {v : Value} (h : wpAny (model prog w) A.in1 (truthy v) (fun c s' => R (.ok (.ret (.bool c))) s') (fun e s' => R (.error e) s') s) :
    wpAny (model prog w) A.in1 (Builtin.«bool.__new__» ⟨[.type "bool", v], []⟩) (GQ.FinOf prog w A R) (fun e s' => R (.error e) s') s := by
  have f1 := F.conv_sub_bool
  repeat (any_goals (first | assumption | (with_reducible refine wpAny_mono h (fun c s' z => ?_) fun _ _ z => z) | wp_step))
  all_goals first | exact z | skip
end
end EW
end

section
set_option maxHeartbeats 4000000
namespace EW
open PySem PySem.Spec PyProof.Rows L2
section
variable {X : Cx} {k : Nat} {ps : List Str} {sp : Sp} {f C : Addr} {fd : FuncData} {pins : List (Addr × Obj)} {σ : L2.St} {H : Hp} {s : Shared}
theorem bool_in {prog : Program} {w : World} {v : Value} : MeetsIn prog w (Builtin.«bool.__new__» ⟨[.type "bool", v], []⟩) (fun A R s => wpAny (model prog w) A.in1 (truthy v) (fun c s' => R (.ok (.ret (.bool c))) s') (fun e s' => R (.error e) s') s) :=
  fun A R s h => bool_new h
theorem call_boolV {prog : Program} {w : World} {A : Around} {E : Value → Shared → Prop} {v : Value} {Q : Value → Shared → Prop} (h : wpAny (model prog w) A.in1.in1 (truthy v) (fun c s' => Q (.bool c) s') E s) : wpAny (model prog w) A (call (.type "bool") [v]) Q E s :=
  callType_newIn F.called_bool F.newNe_bool (F.typeCall_bool_1 v) (F.newCall_bool_1 v) (fun o => F.args_object_init_2 o v) F.entry_bool_new bool_in (wpAny_mono h (fun c s' z => ⟨rfl, z⟩) fun _ _ z => z)
theorem call_boolO (M : Mt X.prog X.w X.K X.mg X.base k C "__bool__" ps sp) (hr : Room (k + 2) X.A) : CallR X (.type "bool") (fun xs H Q => ∃ x, xs = [x] ∧ rTru C sp x H (fun c H' => Q (.bl c) H')) := by
  intro pins s σ H xs us Q I r h
  obtain ⟨x, rfl, h⟩ := h
  obtain ⟨u, rfl, ru⟩ := r.one
  refine call_boolV (wpAny_mono (tru_at M (Sub.in1 (Sub.in1 ⟨hr, rfl⟩)) I ru h) (fun c s' z => ?_) fun _ _ z => z)
  obtain ⟨H', I', q⟩ := z
  exact ⟨.bl c, H', I', rfl, q⟩
/-- bool(a tuple) -/
theorem call_boolT : CallR X (.type "bool") (fun xs H Q => ∃ (a : Addr) (zs : List V), xs = [.ref a] ∧ SqT X.K H a zs ∧ Q (.bl (!zs.isEmpty)) H) := by
  intro pins s σ H xs us Q I r h
  obtain ⟨a, zs, rfl, hq, q⟩ := h
  obtain rfl := Vals.ref1 r
  obtain ⟨its, rv, pl, hz⟩ := I.tuple hq
  have hl := line63
  have hlen := rv.length
  refine call_boolV (truthy_tuple pl (by simp only [List.size_toArray]; omega) ?_)
  exact ⟨.bl (!zs.isEmpty), H, I.tok _, by rw [isEmpty_of rv]; rfl, q⟩
end
end EW
end

section
set_option maxHeartbeats 4000000
namespace EW
open PySem PySem.Spec PyProof.Rows L2
/-! ### sorted(l, key=f), f a def of the text that tells two numbers, l a list of references -/
/-- the two numbers at a key -/
def pairAt (h : Heap) (v : Value) : Int × Int := match v with
  | .ref a => match h.get? a with
    | some o => match o.data with
      | .seq xs _ => match xs.toList with
        | [.int x _, .int y _] => (x, y)
        | _ => (0, 0)
      | _ => (0, 0)
    | none => (0, 0)
  | _ => (0, 0)
theorem pairAt_of {h : Heap} {v : Value} {x y : Int} (p : Srt.IsPair h v x y) : pairAt h v = (x, y) := by
  obtain ⟨a, o, t, u, n, rfl, ho, hc, hd⟩ := p
  simp [pairAt, ho, hd]
/-- a list as it stands in the heap, with the number of its changes -/
def LsO (a : Addr) (vs : Array Value) (n : Nat) : HO := .ext fun h => h.get? a = some (seqObj "list" vs n)
theorem lsO_ok {P : Program} {w : World} {H : Hp} {h : Heap} {a : Addr} {vs : Array Value} {n : Nat} (e : h.get? a = some (seqObj "list" vs n)) : ObjOk P w H h a (LsO a vs n) := ⟨e, ⟨_, e⟩, fun _ _ p k => k _ p⟩
/-- a def that tells two numbers of a value -/
structure KeyFn (X : Cx) (k : Nat) (f : Addr) (KeyOf : Hp → V → Int × Int → Prop) : Prop where
  ex : ∃ fd ps sp, FnOk X.prog X.w X.K X.mg X.base CX0 k f fd ps sp ∧ Binds X.K fd ps [] ∧ ∀ v p H Q, KeyOf H v p → New H (fun _ => .tup [.int p.1, .int p.2]) Q → sp [v] H Q E0
  mono : ∀ H H' v p, KeyOf H v p → Same H H' → KeyOf H' v p
section
variable {X : Cx} {k : Nat} {f a kS : Addr} {KeyOf : Hp → V → Int × Int → Prop} {pins : List (Addr × Obj)} {σ : L2.St} {H : Hp} {s : Shared} {A : Around} {E : Value → Shared → Prop}
theorem run_at' {A : Around} {Q : VK} {us : List Value} {vs : List V} {fd : FuncData} {ps : List Str} {sp : Sp} (F : FnOk X.prog X.w X.K X.mg X.base CX0 k f fd ps sp) (sb : Sub X k A) (hb : Binds X.K fd ps []) (I : Inv X pins σ H s) (r : Vals vs us) (h : sp vs H Q E0) :
    wpAny (model X.prog X.w) A (call (.ref f) us) (EP X pins σ Q) E s := by
  have z := F.len _ _ _ _ h
  have e0 : Env0 X.prog X.w X.K X.mg X.base A X.stack s H := ⟨sb.fr.trans I.env0.frames, I.env0.mod, I.env0.bs, I.env0.bsz, I.env0.funs, I.env0.frf, I.env0.hok, I.env0.bare⟩
  have hl : (us ++ []).length = ps.length := by rw [List.append_nil, ← r.length]; exact z
  have hb' := hb s us I.kIn hl
  rw [List.append_nil] at hb'
  refine wpAny_call (codeAny_mono (F.run A X.stack s H ⟨us, []⟩ us vs Q E0 sb.room e0 hb' r h) fun q s' hq => ?_)
  match q, hq with
  | .error e, hq => exact (hq : False).elim
  | .ok (.ret u), hq => exact I.after hq
  | .ok .next, hq => exact (hq : False).elim
  | .ok .brk, hq => exact (hq : False).elim
  | .ok .cont, hq => exact (hq : False).elim
/-- what stands while the keys are told -/
structure Kys (X : Cx) (pins : List (Addr × Obj)) (σ : L2.St) (H : Hp) (a kS : Addr) (e1 : Nat) (kz : List (Int × Int)) (ks : List V) (Hi : Hp) (s' : Shared) : Prop where
  inv : Inv X pins σ Hi s'
  same : Same H Hi
  at_ : Hi a = some (LsO a #[] e1)
  kst : Hi kS = some (.lst ks)
  tell : ∀ (j : Nat) (v : V), ks[j]? = some v → ∃ (q : Addr) (pr : Int × Int), v = .ref q ∧ kz[j]? = some pr ∧ Hi q = some (.tup [.int pr.1, .int pr.2])
theorem vals_snoc {xs : List V} {us : List Value} (r : Vals xs us) {v : V} {u : Value} (q : RelV v u) : Vals (xs ++ [v]) (us ++ [u]) := r.append (.cons q .nil)
theorem keys_turn {e1 : Nat} {kz : List (Int × Int)} {ks : List V} {Hi : Hp} {s' : Shared} {xs : List V} {v : V} {u : Value} {pr : Int × Int} {Q : Shared → Prop} (T : KeyFn X k f KeyOf) (sb : Sub X k A) (hne : a ≠ kS) (h0 : H kS = none)
    (L : Kys X pins σ H a kS e1 kz ks Hi s') (hk : kz[ks.length]? = some pr) (hv : KeyOf H v pr) (r : RelV v u) (hz : ks.length + 1 ≤ sizeLine)
    (q : ∀ (ks' : List V) (Hn : Hp) (s2 : Shared), ks'.length = ks.length + 1 → Kys X pins σ H a kS e1 kz ks' Hn s2 → Q s2) :
    wpAny (model X.prog X.w) A (call (.ref f) [u]) (fun z s2 => wpAny (model X.prog X.w) A (Builtin.List.listUpdate (.ref kS) (·.push z)) (fun _ s3 => Q s3) E s2) (fun _ _ => False) s' := by
  obtain ⟨fd, ps, sp, F, hb, hs⟩ := T.ex
  have hsp : sp [v] Hi (fun z H' => ∃ q, z = .ref q ∧ Same Hi H' ∧ H' q = some (.tup [.int pr.1, .int pr.2])) E0 := hs v pr Hi _ (T.mono _ _ _ _ hv L.same) fun p H' _ sm e => ⟨p, rfl, sm, e⟩
  refine wpAny_mono (run_at' F sb hb L.inv (.cons r .nil) hsp) (fun z s2 hq => ?_) fun _ _ z => z
  obtain ⟨w, H', I', rw', p, rfl, sm, ep⟩ := hq
  cases rw'
  obtain ⟨_, its, n, rv, hl, e⟩ := I'.lstM (sm _ _ L.kst)
  have hsz : its.toArray.size = ks.length := by rw [List.size_toArray]; exact hl.symm
  refine listUpdate_at e rfl ?_ (by rw [hsz]; omega) (by rw [Array.size_push, hsz]; omega)
  have I2 := I'.lset (f := (·.push (.ref p))) (t' := s2.toks) (sm _ _ L.kst) e (its' := its ++ [.ref p]) (by simp) (vals_snoc rv (v := .ref p) (u := .ref p) (show RelV (.ref p) (.ref p) from rfl)) (by rw [List.length_append]; exact hz)
  have pk : ∀ {b : Addr} {ys : List V}, H' b = some (.tup ys) → b ≠ kS := fun {b ys} h z => by
    rw [z, sm _ _ L.kst] at h
    cases h
  refine q (ks ++ [.ref p]) _ _ (by rw [List.length_append]; rfl) ⟨I2, fun b o h => ?_, ?_, upd_same, fun j w hj => ?_⟩
  · rw [upd_ne (fun z => by rw [z, h0] at h; cases h)]
    exact sm _ _ (L.same _ _ h)
  · rw [upd_ne hne]
    exact sm _ _ L.at_
  · rcases Nat.lt_or_ge j ks.length with hlt | hge
    · rw [List.getElem?_append_left hlt] at hj
      obtain ⟨q, pr', h1, h2, h3⟩ := L.tell j w hj
      exact ⟨q, pr', h1, h2, by rw [upd_ne (pk (sm _ _ h3))]; exact sm _ _ h3⟩
    · rw [List.getElem?_append_right hge] at hj
      have ej : j - ks.length = 0 := by
        have := (List.getElem?_eq_some_iff.mp hj).1
        simp at this
        omega
      rw [ej] at hj
      have ej' : j = ks.length := by omega
      subst ej'
      simp at hj
      exact ⟨p, pr, hj.symm, hk, by rw [upd_ne (pk ep)]; exact ep⟩
end
end EW
end

section
set_option maxHeartbeats 4000000
namespace EW
open PySem PySem.Spec PyProof.Rows L2
section
variable {X : Cx} {k : Nat} {f a kS : Addr} {KeyOf : Hp → V → Int × Int → Prop} {pins : List (Addr × Obj)} {σ : L2.St} {H : Hp} {s : Shared} {A : Around} {E : Value → Shared → Prop} {P : PySem.Fin → Shared → Prop}
/-- how the values stand behind the sort -/
def Out (xs : List V) (kz : List (Int × Int)) (ys : List V) : Prop := ∃ ps : List (V × (Int × Int)), ps.Perm (xs.zip kz) ∧ ps.Pairwise (fun x y => SrtO.lexB y.2 x.2 = false) ∧ ys = ps.map (·.1)
theorem keys_pairs {e1 : Nat} {kz : List (Int × Int)} {ks : List V} {Hi : Hp} {s' : Shared} {us : List Value} (L : Kys X pins σ H a kS e1 kz ks Hi s') (rv : Vals ks us) : ∀ (j : Nat) (u : Value), us[j]? = some u → ∃ pr : Int × Int, kz[j]? = some pr ∧ Srt.IsPair s'.heap u pr.1 pr.2 := by
  intro j u hu
  have hj : j < ks.length := by rw [rv.length]; exact (List.getElem?_eq_some_iff.mp hu).1
  obtain ⟨q, pr, h1, h2, h3⟩ := L.tell j _ (List.getElem?_eq_getElem hj)
  obtain ⟨u', hu', ru⟩ := rv.get (List.getElem?_eq_getElem hj)
  rw [hu] at hu'
  obtain rfl := Option.some.inj hu'
  rw [h1] at ru
  cases ru
  obtain ⟨_, its2, r2, o, ho, hc, n, hd⟩ := L.inv.hok _ _ h3
  obtain ⟨u1, u2, rfl, ri, rj⟩ := vals2 r2
  obtain ⟨t1, rfl⟩ := ri
  obtain ⟨t2, rfl⟩ := rj
  exact ⟨pr, h2, q, o, t1, t2, n, rfl, ho, hc, hd⟩
theorem zip_out {h : Heap} : ∀ {us vs : List Value} {kz : List (Int × Int)}, us.length = vs.length → kz.length = vs.length → (∀ (j : Nat) (u : Value), us[j]? = some u → ∃ pr : Int × Int, kz[j]? = some pr ∧ Srt.IsPair h u pr.1 pr.2) →
    (us.zip vs).map (fun p => (backV p.2, pairAt h p.1)) = (vs.map backV).zip kz
  | [], [], [], _, _, _ => rfl
  | u :: us, v :: vs, pr :: kz, h1, h2, hp => by
    obtain ⟨pr', e, hu⟩ := hp 0 u rfl
    cases e
    rw [List.zip_cons_cons, List.map_cons, List.map_cons, List.zip_cons_cons, zip_out (us := us) (vs := vs) (kz := kz) (by simpa using h1) (by simpa using h2) fun j w hw => by simpa using hp (j + 1) w (by simpa using hw)]
    rw [pairAt_of hu]
  | [], _ :: _, _, h1, _, _ => by simp at h1
  | _ :: _, [], _, h1, _, _ => by simp at h1
  | _, [], _ :: _, _, h2, _ => by simp at h2
  | _, _ :: _, [], _, h2, _ => by simp at h2
/-- the end: the keys go, the list is filled again -/
theorem sort_tail {e1 : Nat} {kz : List (Int × Int)} {ks xs : List V} {Hi : Hp} {vs us : List Value} {st : SortSt} (hne : a ≠ kS) (ha : H a = none) (h0 : H kS = none) (L : Kys X pins σ H a kS e1 kz ks Hi s) (rv : Vals ks us) (r : Vals xs vs) (hx : ∀ x ∈ xs, ∃ b, x = V.ref b)
    (hl : us.length = vs.length) (hk : kz.length = vs.length) (hp : (arrOf st).toList.Perm (us.zip vs)) (hs : SrtO.Srtd (SrtO.lt2 fun v u => SrtO.lexB (pairAt s.heap v) (pairAt s.heap u)) (arrOf st).toList) (hf : failedOf st = none) (hz : xs.length ≤ sizeLine)
    (q : ∀ ys Hn s', Out xs kz ys → Inv X pins σ Hn s' → Same H Hn → Hn a = some (.lst ys) → P (.done (.ret .none)) s') : wpAny (model X.prog X.w) A (ksk_tail a false e1 (.ref kS) st) P E s := by
  obtain ⟨ex, hr⟩ := refs_back r hx
  have hlen : (arrOf st).size = vs.length := by
    have h1 := hp.length_eq
    rw [Array.length_toList, List.length_zip, hl, Nat.min_self] at h1
    exact h1
  obtain ⟨zk, its, n, rk, hkl, e⟩ := L.inv.lstM L.kst
  have ea : s.heap.get? a = some (seqObj "list" #[] e1) := (L.inv.hok a _ L.at_).1
  unfold ksk_tail
  try dsimp only
  refine wpAny_bind (listUpdate_at e rfl ?_ (by rw [List.size_toArray, ← hkl]; exact zk) (Nat.zero_le _))
  have I1 := L.inv.lset (f := fun _ => #[]) (ys := []) (t' := s.toks) L.kst e (its' := []) rfl .nil (Nat.zero_le _)
  have ea1 : (s.heap.update kS (Obj.mapSeq fun _ => (#[] : Array Value))).get? a = some (seqObj "list" #[] e1) := (Heap.get?_update_other s.heap _ (Ne.symm hne)).trans ea
  refine wpAny_bind (wpAny_letGo ?_)
  refine wpAny_bind (seqEpoch_at ea1 rfl ?_)
  have hout : ((arrOf st).map (·.2)).size = vs.length := by rw [Array.size_map]; exact hlen
  have hvx : vs.length ≤ sizeLine := by rw [← r.length]; exact hz
  refine wpAny_bind (listUpdate_at ea1 rfl ?_ (Nat.zero_le _) (by simp only [Bool.false_eq_true, if_false]; rw [hout]; omega))
  rw [hf]
  simp only [bne_self_eq_false, Bool.false_eq_true, if_false]
  have en : ((s.heap.update kS (Obj.mapSeq fun _ => (#[] : Array Value))).update a (Obj.mapSeq fun _ => (arrOf st).map (·.2))).get? a = some (seqObj "list" ((arrOf st).map (·.2)) _) := get?_update_seq ea1 fun _ => (arrOf st).map (·.2)
  have hrefs : ∀ u ∈ ((arrOf st).map (·.2)).toList, ∃ b, u = Value.ref b := fun u hu => by
    rw [Array.toList_map, List.mem_map] at hu
    obtain ⟨p, hm, rfl⟩ := hu
    exact hr _ (List.of_mem_zip (hp.mem_iff.mp hm)).2
  have hI : (upd Hi kS (.lst [])) a = some (LsO a #[] e1) := by rw [upd_ne hne]; exact L.at_
  refine wpAny_pure (q (((arrOf st).map (·.2)).toList.map backV) _ _ ?_ (I1.write (o := .lst (((arrOf st).map (·.2)).toList.map backV)) (t' := s.toks) (by rw [hI]; exact True.intro) (.inl rfl) (fun b u hb hu => (Heap.get?_update_other _ _ (Ne.symm hb)).trans hu) ⟨_, en⟩ ⟨?_, _, _, vals_back hrefs, by rw [Array.toArray_toList]; exact en⟩) ?_ upd_same)
  · refine ⟨(arrOf st).toList.map (fun p => (backV p.2, pairAt s.heap p.1)), ?_, ?_, ?_⟩
    · have z := hp.map (fun p : Keyed => (backV p.2, pairAt s.heap p.1))
      rw [zip_out hl hk (keys_pairs L rv), ← ex] at z
      exact z
    · rw [List.pairwise_map]
      exact hs
    · rw [List.map_map, Array.toList_map, List.map_map]
      rfl
  · rw [List.length_map, Array.length_toList, hout]
    exact hvx
  · intro b o h
    rw [upd_ne (fun z => by rw [z, ha] at h; cases h), upd_ne (fun z => by rw [z, h0] at h; cases h)]
    exact L.same _ _ h
end
end EW
end

section
set_option maxHeartbeats 4000000
namespace EW
open PySem PySem.Spec PyProof.Rows L2
section
variable {X : Cx} {k : Nat} {f a kS : Addr} {KeyOf : Hp → V → Int × Int → Prop} {pins : List (Addr × Obj)} {σ : L2.St} {H : Hp} {s : Shared} {A : Around} {E : Value → Shared → Prop} {P : PySem.Fin → Shared → Prop}
theorem sort_end {e1 : Nat} {kz : List (Int × Int)} {ks xs : List V} {Hi : Hp} {vs us : List Value} (hne : a ≠ kS) (ha : H a = none) (h0 : H kS = none) (L : Kys X pins σ H a kS e1 kz ks Hi s) (rv : Vals ks us) (r : Vals xs vs) (hx : ∀ x ∈ xs, ∃ b, x = V.ref b)
    (hl : us.length = vs.length) (hk : kz.length = vs.length) (hz : xs.length ≤ sizeLine)
    (q : ∀ ys Hn s', Out xs kz ys → Inv X pins σ Hn s' → Same H Hn → Hn a = some (.lst ys) → P (.done (.ret .none)) s') : wpAny (model X.prog X.w) A (ksk_end a false vs.toArray e1 (.ref kS) us.toArray) P E s := by
  have ez : (us.toArray.zip vs.toArray).toList = us.zip vs := by simp
  have hsz : vs.toArray.size = vs.length := List.size_toArray
  have hps : ∀ u ∈ us, Srt.IsPair s.heap u (pairAt s.heap u).1 (pairAt s.heap u).2 := fun u hu => by
    obtain ⟨j, hj⟩ := List.getElem?_of_mem hu
    obtain ⟨pr, _, hp⟩ := keys_pairs L rv j u hj
    rw [pairAt_of hp]
    exact hp
  have ea : s.heap.get? a = some (seqObj "list" #[] e1) := (L.inv.hok a _ L.at_).1
  unfold ksk_end
  try dsimp only
  simp only [Bool.false_eq_true, if_false]
  by_cases h2 : vs.toArray.size < 2
  · rw [if_pos h2, if_pos h2]
    refine wpAny_bind (wpAny_pure ?_)
    rw [StateT.run_pure]
    refine wpAny_bind (wpAny_pure ?_)
    try dsimp only
    refine sort_tail (st := SortSt.mk' general' (us.toArray.zip vs.toArray) #[] 7 none) hne ha h0 L rv r hx hl hk (List.Perm.of_eq ez) ?_ rfl hz q
    show SrtO.Srtd _ (us.toArray.zip vs.toArray).toList
    rw [ez]
    match us, vs, hl, h2 with
    | [], [], _, _ => exact List.Pairwise.nil
    | [u], [v], _, _ => exact List.pairwise_singleton _ _
    | _, _ :: _ :: l, _, h2 => exact absurd h2 (by simp)
    | _ :: _ :: _, [], hl, _ => simp at hl
    | _ :: _ :: _, [_], hl, _ => simp at hl
    | [], [_], hl, _ => simp at hl
    | [_], [], hl, _ => simp at hl
  · rw [if_neg h2, if_neg h2]
    have hS := SrtO.pairs_sortableO (prog := X.prog) (w := X.w) (A := A) (s := s) (a := a) (vs := us) (k := pairAt s.heap) (by omega) hps fun o e => by
      rw [ea] at e
      cases e
      intro c
      exact absurd (Value.type.inj c) (by decide)
    obtain ⟨κ, hkind, hT⟩ := hS s.heap fun _ _ _ e => e
    refine wpAny_bind (hkind _ _ ?_)
    have hall : SrtO.AllL (fun p : Keyed => p.1 ∈ us) (us.toArray.zip vs.toArray).toList := fun p hm => by
      rw [ez] at hm
      exact (List.of_mem_zip hm).1
    refine wpAny_bind (wpAny_mono (SrtO.wpS_sortO (st0 := SortSt.mk' κ (us.toArray.zip vs.toArray) #[] 7 none)
      (Q := fun _ st' => SrtO.Srtd (SrtO.lt2 fun v u => SrtO.lexB (pairAt s.heap v) (pairAt s.heap u)) (arrOf st').toList ∧ (arrOf st').toList.Perm (us.zip vs) ∧ failedOf st' = none) (SrtO.swo2 (SrtO.swo_lex (pairAt s.heap))) hT rfl hall rfl rfl fun st' b1 b2 b3 => ⟨b1, by rw [← ez]; exact b2.perm, b3⟩) ?_ fun _ _ z => z)
    rintro ⟨⟨⟩, st'⟩ s' ⟨rfl, b1, b2, b3⟩
    try dsimp only
    exact sort_tail hne ha h0 L rv r hx hl hk b2 b1 b3 hz q
theorem sort_rest {e1 : Nat} {kz : List (Int × Int)} {xs : List V} {Hi : Hp} {vs : List Value} (T : KeyFn X k f KeyOf) (sb : Sub X k A) (hne : a ≠ kS) (ha : H a = none) (h0 : H kS = none) (L : Kys X pins σ H a kS e1 kz [] Hi s) (r : Vals xs vs) (hx : ∀ x ∈ xs, ∃ b, x = V.ref b)
    (hk : kz.length = xs.length) (hz : xs.length ≤ sizeLine) (hK : ∀ (j : Nat) (x : V) (pr : Int × Int), xs[j]? = some x → kz[j]? = some pr → KeyOf H x pr)
    (q : ∀ ys Hn s', Out xs kz ys → Inv X pins σ Hn s' → Same H Hn → Hn a = some (.lst ys) → P (.done (.ret .none)) s') : wpAny (model X.prog X.w) A (ksk_rest a (.ref f) false vs.toArray e1 (.ref kS)) P E s := by
  have hlv := r.length
  unfold ksk_rest
  refine wpAny_bind (wpAny_rule ?_)
  first
    | rw [List.forIn_toArray]
    | (rw [← Array.forIn_toList]; simp only [List.toList_toArray])
    | rw [← Array.forIn_toList]
  refine wpAny_bind (ksk_fold (fun i s' => ∃ ks Hn, ks.length = i ∧ Kys X pins σ H a kS e1 kz ks Hn s') vs 0 s ⟨[], Hi, rfl, L⟩ ?step ?done)
  case step =>
    rintro j x s' hxj ⟨ks, Hn, hj, L'⟩
    simp only [Nat.zero_add] at hj ⊢
    have hjv : j < vs.length := (List.getElem?_eq_some_iff.mp hxj).1
    obtain ⟨v, hv⟩ : ∃ v, xs[j]? = some v := ⟨_, List.getElem?_eq_getElem (by omega)⟩
    obtain ⟨pr, hpr⟩ : ∃ pr, kz[j]? = some pr := ⟨_, List.getElem?_eq_getElem (by omega)⟩
    obtain ⟨u, hu, ru⟩ := r.get hv
    rw [hxj] at hu
    obtain rfl := Option.some.inj hu
    refine wpAny_bind (wpAny_attempt ?_)
    refine wpAny_mono (keys_turn (E := E) (xs := xs) (Q := fun s2 => ∃ ks' Hn', ks'.length = j + 1 ∧ Kys X pins σ H a kS e1 kz ks' Hn' s2) T sb hne h0 L' (by rw [hj]; exact hpr) (hK j v pr hv hpr) ru (by omega) fun ks' Hn' s2 h1 h2 => ⟨ks', Hn', by omega, h2⟩) (fun z s2 hq => ?_) fun _ _ z => z.elim
    try dsimp only
    refine wpAny_bind (wpAny_mono hq (fun _ s3 h3 => ?_) fun _ _ z => z)
    exact wpAny_pure ⟨rfl, h3⟩
  case done =>
    rintro s' ⟨ks, Hn, hj, L'⟩
    simp only [Nat.zero_add] at hj
    obtain ⟨_, us, n, rk, hkl, e⟩ := L'.inv.lstM L'.kst
    try dsimp only
    refine wpAny_bind (listItems_at e rfl ?_)
    exact sort_end hne ha h0 L' rk r hx (by omega) (by omega) hz q
end
end EW
end

section
set_option maxHeartbeats 4000000
namespace EW
open PySem PySem.Spec PyProof.Rows L2
section
variable {X : Cx} {k : Nat} {f a kS : Addr} {KeyOf : Hp → V → Int × Int → Prop} {pins : List (Addr × Obj)} {σ : L2.St} {H : Hp} {s : Shared} {A : Around} {E : Value → Shared → Prop} {P : PySem.Fin → Shared → Prop}
theorem sort_tree {kz : List (Int × Int)} {xs : List V} {vs : List Value} {n : Nat} (T : KeyFn X k f KeyOf) (sb : Sub X k A) (ha : H a = none) (I : Inv X pins σ (upd H a (.lst xs)) s) (ho : s.heap.get? a = some (seqObj "list" vs.toArray n)) (r : Vals xs vs) (hx : ∀ x ∈ xs, ∃ b, x = V.ref b)
    (hk : kz.length = xs.length) (hK : ∀ (j : Nat) (x : V) (pr : Int × Int), xs[j]? = some x → kz[j]? = some pr → KeyOf H x pr)
    (q : ∀ ys Hn s', Out xs kz ys → Inv X pins σ Hn s' → Same H Hn → Hn a = some (.lst ys) → P (.done (.ret .none)) s') : wpAny (model X.prog X.w) A (ksk_tree a (.ref f) false) P E s := by
  have hz : xs.length ≤ sizeLine := (I.lstM upd_same).1
  have hv : vs.length ≤ sizeLine := by rw [← r.length]; exact hz
  obtain ⟨e1, ho1⟩ : ∃ e1, (s.heap.update a (Obj.mapSeq fun _ => (#[] : Array Value))).get? a = some (seqObj "list" #[] e1) := ⟨_, get?_update_seq ho fun _ => #[]⟩
  unfold ksk_tree
  refine wpAny_bind (listItems_at ho rfl ?_)
  refine wpAny_bind (listUpdate_at ho rfl ?_ (by rw [List.size_toArray]; exact hv) (Nat.zero_le _))
  refine wpAny_bind (seqEpoch_at ho1 rfl ?_)
  refine wpAny_bind (wpAny_newTuple ?_ hv)
  refine wpAny_bind (wpAny_newList ?_ (Nat.zero_le _))
  refine wpAny_holding ?_
  have I1 : Inv X pins σ (upd (upd H a (.lst xs)) a (LsO a #[] e1)) { s with heap := s.heap.update a (Obj.mapSeq fun _ => (#[] : Array Value)), toks := s.toks } :=
    I.write (by rw [upd_same]; exact True.intro) (.inl rfl) (fun b u hb hu => (Heap.get?_update_other _ _ (Ne.symm hb)).trans hu) ⟨_, ho1⟩ (lsO_ok ho1)
  have I2 := I1.kept (h' := (s.heap.update a (Obj.mapSeq fun _ => (#[] : Array Value))).push (seqObj "tuple" vs.toArray 0)) (t' := s.toks) fun b u e => Heap.get?_push_of_some _ e
  have I3 := I2.lnew (ys := []) (its := []) (t' := s.toks) .nil (Nat.zero_le _)
  have hf := I2.fresh
  have hne : a ≠ ((s.heap.update a (Obj.mapSeq fun _ => (#[] : Array Value))).push (seqObj "tuple" vs.toArray 0)).objs.size := fun z => by
    rw [← z, upd_same] at hf
    cases hf
  refine sort_rest T sb hne ha ?_ ⟨I3, fun b o h => ?_, ?_, upd_same, fun j v hj => by simp at hj⟩ r hx hk hz hK q
  · rw [upd_ne (Ne.symm hne), upd_ne (Ne.symm hne)] at hf
    exact hf
  · have h1 : b ≠ a := fun z => by rw [z, ha] at h; cases h
    rw [upd_ne (fun z => by rw [← z, upd_ne h1, upd_ne h1, h] at hf; cases hf), upd_ne h1, upd_ne h1]
    exact h
  · rw [upd_ne hne]
    exact upd_same
def rSortBy (K : W.Frag) (f : Addr) (KeyOf : Hp → V → Int × Int → Prop) : List V → List V → Hp → VK → Prop := fun vs zs H Q => ∃ (a : Addr) (xs : List V) (kz : List (Int × Int)), vs = [.ref a] ∧ zs = [.ref f] ∧ SqL K H a xs ∧ (∀ x ∈ xs, ∃ b, x = V.ref b) ∧ kz.length = xs.length ∧
  (∀ (j : Nat) (x : V) (pr : Int × Int), xs[j]? = some x → kz[j]? = some pr → KeyOf H x pr) ∧ ∀ ys, Out xs kz ys → New H (fun _ => .lst ys) Q
/-- sorted(l, key=f) -/
theorem cr_sortedBy (T : KeyFn X k f KeyOf) (hr : Room (k + 2) X.A) : CallRK X (.builtin "sorted") [Str.ofString "key"] (rSortBy X.K f KeyOf) := by
  intro pins s σ H vs zs us ws Q I r rz h
  obtain ⟨l, xs, kz, rfl, rfl, hS, hx, hk, hK, q⟩ := h
  obtain rfl := Vals.ref1 r
  obtain rfl := Vals.ref1 rz
  obtain ⟨its, rv, hl, hz⟩ := I.list hS
  have hz' : its.length ≤ sizeLine := by rw [← rv.length]; exact hz
  show wpAny _ _ (call (.builtin "sorted") [.ref l] [(Str.ofString "key", .ref f)]) _ _ _
  refine call_function_entry_kw kind_sorted plain_sorted entry_sorted (ksk_s1 _ _) ?_
  unfold Builtin.«sorted»
  refine wpAny_bind (m := checkCount "sorted" 1 1 _) (wpAny_pure ?_)
  refine wpAny_bind (collect_list hl.isList ?_ hz')
  refine wpAny_bind (wpAny_newList ?_ hz')
  have hsz : ((s.heap.push (seqObj "list" #[] 0)).update s.heap.objs.size (Obj.mapSeq (· ++ its.toArray))).objs.size = s.heap.objs.size + 1 := by
    rw [Heap.size_update, size_push']
  have hoL : (((s.heap.push (seqObj "list" #[] 0)).update s.heap.objs.size (Obj.mapSeq (· ++ its.toArray))).push (seqObj "list" its.toArray 0)).get? (s.heap.objs.size + 1) = some (seqObj "list" its.toArray 0) := by
    rw [← hsz]; exact Heap.get?_push_size _ rfl
  have keep : ∀ b o, s.heap.get? b = some o → (((s.heap.push (seqObj "list" #[] 0)).update s.heap.objs.size (Obj.mapSeq (· ++ its.toArray))).push (seqObj "list" its.toArray 0)).get? b = some o := fun b o e => by
    refine Heap.get?_push_of_some _ ?_
    rw [Heap.get?_update_ne _ _ _ _ (Nat.ne_of_lt (Heap.lt_size e))]
    exact Heap.get?_push_of_some _ e
  show wpAny _ _ _ _ _ { s with heap := ((s.heap.push (seqObj "list" #[] 0)).update s.heap.objs.size (Obj.mapSeq (· ++ its.toArray))).push (seqObj "list" its.toArray 0) }
  rw [hsz]
  have hfr : H (s.heap.objs.size + 1) = none := I.hok.fresh (Nat.le_succ _)
  have I1 := I.laid (h' := ((s.heap.push (seqObj "list" #[] 0)).update s.heap.objs.size (Obj.mapSeq (· ++ its.toArray))).push (seqObj "list" its.toArray 0)) (a := s.heap.objs.size + 1) (o := .lst xs) (t' := s.toks) keep (Nat.le_succ _) ⟨hz, its, 0, rv, hoL⟩
  refine wpAny_bind (wpAny_holding (wpAny_call_entry_kw slot_list_sort ⟨_, hoL, rfl⟩ entry_list_sort ?_ (ksk_l1 _ _)))
  rw [ksk_t1]
  refine sort_tree T (Sub.in1 (Sub.in1 ⟨hr, rfl⟩)) hfr I1 hoL rv hx hk hK fun ys Hn s' o I' sm ea => ⟨_, rfl, ?_⟩
  exact wpAny_pure ⟨_, rfl, .ref _, Hn, I', rfl, q ys o _ Hn hfr sm ea⟩
end
end EW
end

section
set_option maxHeartbeats 4000000
namespace EW
open PySem PySem.Spec PyProof.Rows L2
/-! ### data that stand while the heap grows; written data -/
mutual
theorem dp_same {K : W.Frag} {H H' : Hp} (s : Same H H') : ∀ (d : PyData) (v : V), Dp K H v d → Dp K H' v d
  | .none, _, h => by
    cases h
    exact .non
  | .bool b, _, h => by
    cases h
    exact .bl b
  | .int i, _, h => by
    cases h
    exact .int i
  | .str x, _, h => by
    cases h
    exact .str x
  | .list ds, _, h => by
    cases h with
    | lst hs ha => exact .lst (s.seq hs) (dpAll_same s ds _ ha)
  | .tuple ds, _, h => by
    cases h with
    | tup hs ha =>
      refine .tup ?_ (dpAll_same s ds _ ha)
      rcases hs with (h | ⟨o, h⟩) | h
      · exact .inl (.inl (s _ _ h))
      · exact .inl (.inr ⟨o, s _ _ h⟩)
      · exact .inr h
  | .dict _, _, h => by cases h
theorem dpAll_same {K : W.Frag} {H H' : Hp} (s : Same H H') : ∀ (ds : List PyData) (vs : List V), DpAll K H vs ds → DpAll K H' vs ds
  | [], _, h => by
    cases h
    exact .nil
  | d :: ds, _, h => by
    cases h with
    | cons h1 h2 => exact .cons (dp_same s d _ h1) (dpAll_same s ds _ h2)
end
theorem dpAll_len {K : W.Frag} {H : Hp} : ∀ (ds : List PyData) (vs : List V), DpAll K H vs ds → vs.length = ds.length
  | [], _, h => by
    cases h
    rfl
  | d :: ds, _, h => by
    cases h with
    | cons h1 h2 => rw [List.length_cons, List.length_cons, dpAll_len ds _ h2]
section
variable {X : Cx} {K : W.Frag} {e : Expr} {es : List Expr} {d : PyData} {ds : List PyData} {pos : Pos}
def tLit (K : W.Frag) (d : PyData) : TE := fun _ H Q => ∀ v H', Same H H' → Dp K H' v d → Q v H'
def tLits (K : W.Frag) (ds : List PyData) : TA := fun _ H Q => ∀ vs H', Same H H' → DpAll K H' vs ds → Q vs H'
theorem PA.imp {t t' : TA} (h : PA X es t) (i : ∀ σ H Q, t' σ H Q → t σ H Q) : PA X es t' := ⟨fun ps pins s σ H Q I q => h.run ps pins s σ H Q I (i _ _ _ q)⟩
theorem pl_int {i : Int} {k} : PE X (.Constant (.int i) k pos) (tLit K (.int i)) := PE.imp pe_int fun σ H Q q => q _ H (Same.refl H) (.int i)
theorem pl_non {k} : PE X (.Constant .none k pos) (tLit K .none) := PE.imp pe_non fun σ H Q q => q _ H (Same.refl H) .non
theorem pl_bl {b : Bool} {k} : PE X (.Constant (.bool b) k pos) (tLit K (.bool b)) := PE.imp pe_bl fun σ H Q q => q _ H (Same.refl H) (.bl b)
theorem pl_str {z : Str} {k} : PE X (.Constant (.str z) k pos) (tLit K (.str z)) := PE.imp pe_str fun σ H Q q => q _ H (Same.refl H) (.str z)
theorem pl_neg {i : Int} (h : PE X e (tLit K (.int i))) : PE X (.UnaryOp .USub e pos) (tLit K (.int (-i))) := PE.imp (pe_un un_neg h) fun σ H Q q v H' s dv => by
  cases dv
  exact ⟨_, rfl, q _ H' s (.int (-i))⟩
theorem pls_nil : PA X [] (tLits K []) := PA.imp pa_nil fun σ H Q q => q [] H (Same.refl H) .nil
theorem pls_cons (h : PE X e (tLit K d)) (t : PA X es (tLits K ds)) (hs : starEach (e :: es) X.env = (false, eval e X.env) :: starEach es X.env := by rfl) : PA X (e :: es) (tLits K (d :: ds)) := PA.imp (pa_cons h t hs) fun σ H Q q v H1 s1 d1 vs H2 s2 d2 => q (v :: vs) H2 (Same.trans s1 s2) (.cons (dp_same s2 _ _ d1) d2)
theorem pl_tup {n : Nat} (hl : ds.length ≤ sizeLine) (t : PA X es (tLits K ds)) : PE X (.Tuple es n pos) (tLit K (.tuple ds)) := PE.imp (pe_tupS t) fun σ H Q q vs H1 s1 d1 => ⟨by rw [dpAll_len _ _ d1]; exact hl, fun p H2 n2 s2 e2 => q _ H2 (Same.trans s1 s2) (.tup (SqT.of e2) (dpAll_same s2 _ _ d1))⟩
theorem pl_lst (hl : ds.length ≤ sizeLine) (t : PA X es (tLits K ds)) : PE X (.List es pos) (tLit K (.list ds)) := PE.imp (pe_lstS t) fun σ H Q q vs H1 s1 d1 => ⟨by rw [dpAll_len _ _ d1]; exact hl, fun p H2 n2 s2 e2 => q _ H2 (Same.trans s1 s2) (.lst (SqL.of e2) (dpAll_same s2 _ _ d1))⟩
end
end EW
end

section
set_option maxHeartbeats 4000000
namespace EW
open PySem PySem.Spec PyProof.Rows L2
/-! ### sorted(l, key=f), f a def of the text that tells data without lists, l a list or a tuple of references -/
mutual
def flatD : PyData → Bool
  | .none => true
  | .bool _ => true
  | .int _ => true
  | .str _ => true
  | .list _ => false
  | .tuple ds => flatAll ds
  | .dict _ => false
def flatAll : List PyData → Bool
  | [] => true
  | d :: ds => flatD d && flatAll ds
end
mutual
theorem dp_keptL {K : W.Frag} {H H' : Hp} {l : Addr} {ys : List V} (hl : H l = some (.lst ys)) (k : Kept l H H') : ∀ (d : PyData) (v : V), flatD d = true → Dp K H v d → Dp K H' v d
  | .none, _, _, h => by
    cases h
    exact .non
  | .bool b, _, _, h => by
    cases h
    exact .bl b
  | .int i, _, _, h => by
    cases h
    exact .int i
  | .str x, _, _, h => by
    cases h
    exact .str x
  | .list ds, _, f, _ => by simp [flatD] at f
  | .tuple ds, _, f, h => by
    cases h with
    | tup hs ha =>
      refine .tup ?_ (dpAll_keptL hl k ds _ (by simpa [flatD] using f) ha)
      rcases hs with (h | ⟨o, h⟩) | h
      · exact .inl (.inl (k _ _ (fun z => by rw [z, hl] at h; cases h) h))
      · exact .inl (.inr ⟨o, k _ _ (fun z => by rw [z, hl] at h; cases h) h⟩)
      · exact .inr h
  | .dict _, _, _, h => by cases h
theorem dpAll_keptL {K : W.Frag} {H H' : Hp} {l : Addr} {ys : List V} (hl : H l = some (.lst ys)) (k : Kept l H H') : ∀ (ds : List PyData) (vs : List V), flatAll ds = true → DpAll K H vs ds → DpAll K H' vs ds
  | [], _, _, h => by
    cases h
    exact .nil
  | d :: ds, _, f, h => by
    have f2 : (flatD d && flatAll ds) = true := by simpa [flatAll] using f
    obtain ⟨f3, f4⟩ := Bool.and_eq_true_iff.mp f2
    cases h with
    | cons h1 h2 => exact .cons (dp_keptL hl k d _ f3 h1) (dpAll_keptL hl k ds _ f4 h2)
end
/-- a def that tells a datum of a value -/
structure KeyFnD (X : Cx) (k : Nat) (f : Addr) (KeyOf : Hp → V → PyData → Prop) : Prop where
  ex : ∃ fd ps sp, FnOk X.prog X.w X.K X.mg X.base CX0 k f fd ps sp ∧ Binds X.K fd ps [] ∧ ∀ v d H Q, KeyOf H v d → (∀ z H', Same H H' → Dp X.K H' z d → Q z H') → sp [v] H Q E0
  mono : ∀ H H' v d, KeyOf H v d → Same H H' → KeyOf H' v d
section
variable {X : Cx} {k : Nat} {f a kS : Addr} {KeyOf : Hp → V → PyData → Prop} {pins : List (Addr × Obj)} {σ : L2.St} {H : Hp} {s : Shared} {A : Around} {E : Value → Shared → Prop}
/-- what stands while the keys are told -/
structure KysD (X : Cx) (pins : List (Addr × Obj)) (σ : L2.St) (H : Hp) (a kS : Addr) (e1 : Nat) (kz : List PyData) (ks : List V) (Hi : Hp) (s' : Shared) : Prop where
  inv : Inv X pins σ Hi s'
  same : Same H Hi
  at_ : Hi a = some (LsO a #[] e1)
  kst : Hi kS = some (.lst ks)
  tell : ∀ (j : Nat) (v : V), ks[j]? = some v → ∃ d : PyData, kz[j]? = some d ∧ Dp X.K Hi v d
theorem dpRel {v : V} {d : PyData} {Hq : Hp} (h : Dp X.K Hq v d) : True := trivial
theorem keysD_turn {e1 : Nat} {kz : List PyData} {ks : List V} {Hi : Hp} {s' : Shared} {v : V} {u : Value} {pr : PyData} {Q : Shared → Prop} (T : KeyFnD X k f KeyOf) (sb : Sub X k A) (hne : a ≠ kS) (h0 : H kS = none) (hfl : ∀ d ∈ kz, flatD d = true)
    (L : KysD X pins σ H a kS e1 kz ks Hi s') (hk : kz[ks.length]? = some pr) (hv : KeyOf H v pr) (r : RelV v u) (hz : ks.length + 1 ≤ sizeLine)
    (q : ∀ (ks' : List V) (Hn : Hp) (s2 : Shared), ks'.length = ks.length + 1 → KysD X pins σ H a kS e1 kz ks' Hn s2 → Q s2) :
    wpAny (model X.prog X.w) A (call (.ref f) [u]) (fun z s2 => wpAny (model X.prog X.w) A (Builtin.List.listUpdate (.ref kS) (·.push z)) (fun _ s3 => Q s3) E s2) (fun _ _ => False) s' := by
  obtain ⟨fd, ps, sp, F, hb, hs⟩ := T.ex
  have hsp : sp [v] Hi (fun z H' => Same Hi H' ∧ Dp X.K H' z pr) E0 := hs v pr Hi _ (T.mono _ _ _ _ hv L.same) fun z H' sm e => ⟨sm, e⟩
  refine wpAny_mono (run_at' F sb hb L.inv (.cons r .nil) hsp) (fun z s2 hq => ?_) fun _ _ z => z
  obtain ⟨w, H', I', rw', sm, ep⟩ := hq
  obtain ⟨_, its, n, rv, hl, e⟩ := I'.lstM (sm _ _ L.kst)
  have hsz : its.toArray.size = ks.length := by rw [List.size_toArray]; exact hl.symm
  refine listUpdate_at e rfl ?_ (by rw [hsz]; omega) (by rw [Array.size_push, hsz]; omega)
  have I2 := I'.lset (f := (·.push z)) (t' := s2.toks) (sm _ _ L.kst) e (its' := its ++ [z]) (by simp) (vals_snoc rv rw') (by rw [List.length_append]; exact hz)
  have kp : Kept kS H' (upd H' kS (.lst (ks ++ [w]))) := Kept.upd
  refine q (ks ++ [w]) _ _ (by rw [List.length_append]; rfl) ⟨I2, fun b o h => ?_, ?_, upd_same, fun j x hj => ?_⟩
  · rw [upd_ne (fun z => by rw [z, h0] at h; cases h)]
    exact sm _ _ (L.same _ _ h)
  · rw [upd_ne hne]
    exact sm _ _ L.at_
  · rcases Nat.lt_or_ge j ks.length with hlt | hge
    · rw [List.getElem?_append_left hlt] at hj
      obtain ⟨d, h1, h2⟩ := L.tell j x hj
      exact ⟨d, h1, dp_keptL (sm _ _ L.kst) kp d _ (hfl d (List.mem_of_getElem? h1)) (dp_same sm d _ h2)⟩
    · rw [List.getElem?_append_right hge] at hj
      have ej : j - ks.length = 0 := by
        have := (List.getElem?_eq_some_iff.mp hj).1
        simp at this
        omega
      rw [ej] at hj
      have ej' : j = ks.length := by omega
      subst ej'
      simp at hj
      subst hj
      exact ⟨pr, hk, dp_keptL (sm _ _ L.kst) kp pr _ (hfl pr (List.mem_of_getElem? hk)) ep⟩
end
end EW
end

section
set_option maxHeartbeats 4000000
namespace EW
open PySem PySem.Spec PyProof.Rows L2
section
variable {X : Cx} {k : Nat} {f a kS : Addr} {KeyOf : Hp → V → PyData → Prop} {pins : List (Addr × Obj)} {σ : L2.St} {H : Hp} {s : Shared} {A : Around} {E : Value → Shared → Prop} {P : PySem.Fin → Shared → Prop}
abbrev Tk : Type := List (Int ⊕ List Nat)
abbrev tkLt (a b : Tk) : Bool := PyProof.Rows.lexLt itemOrd a b
/-- how the values stand behind the sort -/
def OutD (xs : List V) (kz : List PyData) (ys : List V) : Prop := ∃ ps : List (V × Tk), ps.Perm (xs.zip (kz.map W.keyToks)) ∧ ps.Pairwise (fun x y => tkLt y.2 x.2 = false) ∧ ys = ps.map (·.1)
theorem swo_tk (g : Value → Tk) : SrtO.Swo fun v u => tkLt (g v) (g u) := ⟨fun x y h => KeyOrd.klt_asymm (O := listOrd itemOrd) (a := g x) (b := g y) h, fun x y z h1 h2 => KeyOrd.kle_trans (O := listOrd itemOrd) (a := g x) (b := g y) (c := g z) h1 h2⟩
/-- the row of signs of a key -/
noncomputable def tkAt (h : Heap) (kz : List PyData) (v : Value) : Tk := ((W.dataKind h kz).keyOf v).getD []
theorem keysD_reads {e1 : Nat} {kz : List PyData} {ks : List V} {Hi : Hp} {s' : Shared} {us : List Value} (L : KysD X pins σ H a kS e1 kz ks Hi s') (rv : Vals ks us) : ∀ (j : Nat) (u : Value), us[j]? = some u → ∃ d : PyData, kz[j]? = some d ∧ ∃ as, Reads s'.heap u d as := by
  intro j u hu
  have hj : j < ks.length := by rw [rv.length]; exact (List.getElem?_eq_some_iff.mp hu).1
  obtain ⟨d, h1, h2⟩ := L.tell j _ (List.getElem?_eq_getElem hj)
  obtain ⟨u', hu', ru⟩ := rv.get (List.getElem?_eq_getElem hj)
  rw [hu] at hu'
  obtain rfl := Option.some.inj hu'
  exact ⟨d, h1, Dp.reads L.inv d _ _ h2 ru⟩
theorem each_of {h : Heap} : ∀ {us : List Value} {kz : List PyData}, us.length = kz.length → (∀ (j : Nat) (u : Value), us[j]? = some u → ∃ d : PyData, kz[j]? = some d ∧ ∃ as, Reads h u d as) → W.EachIs (fun v d => ∃ as, Reads h v d as) us kz
  | [], [], _, _ => .nil
  | u :: us, d :: kz, hl, hp => by
    obtain ⟨d', e, hr⟩ := hp 0 u rfl
    cases e
    exact .cons hr (each_of (by simpa using hl) fun j w hw => by simpa using hp (j + 1) w (by simpa using hw))
  | [], _ :: _, hl, _ => by simp at hl
  | _ :: _, [], hl, _ => by simp at hl
theorem zip_outD {h : Heap} {kz0 : List PyData} (hal : W.AllAlike kz0) : ∀ {us vs : List Value} {kz : List PyData}, (∀ d ∈ kz, d ∈ kz0) → us.length = vs.length → kz.length = vs.length → (∀ (j : Nat) (u : Value), us[j]? = some u → ∃ d : PyData, kz[j]? = some d ∧ ∃ as, Reads h u d as) →
    (us.zip vs).map (fun p => (backV p.2, tkAt h kz0 p.1)) = (vs.map backV).zip (kz.map W.keyToks)
  | [], [], [], _, _, _, _ => rfl
  | u :: us, v :: vs, pr :: kz, hm, h1, h2, hp => by
    obtain ⟨pr', e, as, hu⟩ := hp 0 u rfl
    cases e
    rw [List.zip_cons_cons, List.map_cons, List.map_cons, List.map_cons, List.zip_cons_cons, zip_outD hal (us := us) (vs := vs) (kz := kz) (fun d hd => hm d (List.mem_cons_of_mem _ hd)) (by simpa using h1) (by simpa using h2) fun j w hw => by simpa using hp (j + 1) w (by simpa using hw)]
    have e : tkAt h kz0 u = W.keyToks pr := by
      unfold tkAt
      rw [W.dataKind_some hal (hm pr List.mem_cons_self) hu]
      rfl
    rw [e]
  | [], _ :: _, _, _, h1, _, _ => by simp at h1
  | _ :: _, [], _, _, h1, _, _ => by simp at h1
  | _, [], _ :: _, _, _, h2, _ => by simp at h2
  | _, _ :: _, [], _, _, h2, _ => by simp at h2
/-- the end: the keys go, the list is filled again -/
theorem sortD_tail {e1 : Nat} {kz : List PyData} {ks xs : List V} {Hi : Hp} {vs us : List Value} {st : SortSt} (hne : a ≠ kS) (ha : H a = none) (h0 : H kS = none) (hal : W.AllAlike kz) (L : KysD X pins σ H a kS e1 kz ks Hi s) (rv : Vals ks us) (r : Vals xs vs) (hx : ∀ x ∈ xs, ∃ b, x = V.ref b)
    (hl : us.length = vs.length) (hk : kz.length = vs.length) (hp : (arrOf st).toList.Perm (us.zip vs)) (hs : SrtO.Srtd (SrtO.lt2 fun v u => tkLt (tkAt s.heap kz v) (tkAt s.heap kz u)) (arrOf st).toList) (hf : failedOf st = none) (hz : xs.length ≤ sizeLine)
    (q : ∀ ys Hn s', OutD xs kz ys → Inv X pins σ Hn s' → Same H Hn → Hn a = some (.lst ys) → P (.done (.ret .none)) s') : wpAny (model X.prog X.w) A (ksk_tail a false e1 (.ref kS) st) P E s := by
  obtain ⟨ex, hr⟩ := refs_back r hx
  have hlen : (arrOf st).size = vs.length := by
    have h1 := hp.length_eq
    rw [Array.length_toList, List.length_zip, hl, Nat.min_self] at h1
    exact h1
  obtain ⟨zk, its, n, rk, hkl, e⟩ := L.inv.lstM L.kst
  have ea : s.heap.get? a = some (seqObj "list" #[] e1) := (L.inv.hok a _ L.at_).1
  unfold ksk_tail
  try dsimp only
  refine wpAny_bind (listUpdate_at e rfl ?_ (by rw [List.size_toArray, ← hkl]; exact zk) (Nat.zero_le _))
  have I1 := L.inv.lset (f := fun _ => #[]) (ys := []) (t' := s.toks) L.kst e (its' := []) rfl .nil (Nat.zero_le _)
  have ea1 : (s.heap.update kS (Obj.mapSeq fun _ => (#[] : Array Value))).get? a = some (seqObj "list" #[] e1) := (Heap.get?_update_other s.heap _ (Ne.symm hne)).trans ea
  refine wpAny_bind (wpAny_letGo ?_)
  refine wpAny_bind (seqEpoch_at ea1 rfl ?_)
  have hout : ((arrOf st).map (·.2)).size = vs.length := by rw [Array.size_map]; exact hlen
  have hvx : vs.length ≤ sizeLine := by rw [← r.length]; exact hz
  refine wpAny_bind (listUpdate_at ea1 rfl ?_ (Nat.zero_le _) (by simp only [Bool.false_eq_true, if_false]; rw [hout]; omega))
  rw [hf]
  simp only [bne_self_eq_false, Bool.false_eq_true, if_false]
  have en : ((s.heap.update kS (Obj.mapSeq fun _ => (#[] : Array Value))).update a (Obj.mapSeq fun _ => (arrOf st).map (·.2))).get? a = some (seqObj "list" ((arrOf st).map (·.2)) _) := get?_update_seq ea1 fun _ => (arrOf st).map (·.2)
  have hrefs : ∀ u ∈ ((arrOf st).map (·.2)).toList, ∃ b, u = Value.ref b := fun u hu => by
    rw [Array.toList_map, List.mem_map] at hu
    obtain ⟨p, hm, rfl⟩ := hu
    exact hr _ (List.of_mem_zip (hp.mem_iff.mp hm)).2
  have hI : (upd Hi kS (.lst [])) a = some (LsO a #[] e1) := by rw [upd_ne hne]; exact L.at_
  refine wpAny_pure (q (((arrOf st).map (·.2)).toList.map backV) _ _ ?_ (I1.write (o := .lst (((arrOf st).map (·.2)).toList.map backV)) (t' := s.toks) (by rw [hI]; exact True.intro) (.inl rfl) (fun b u hb hu => (Heap.get?_update_other _ _ (Ne.symm hb)).trans hu) ⟨_, en⟩ ⟨?_, _, _, vals_back hrefs, by rw [Array.toArray_toList]; exact en⟩) ?_ upd_same)
  · refine ⟨(arrOf st).toList.map (fun p => (backV p.2, tkAt s.heap kz p.1)), ?_, ?_, ?_⟩
    · have z := hp.map (fun p : Keyed => (backV p.2, tkAt s.heap kz p.1))
      rw [zip_outD hal (fun _ h => h) hl hk (keysD_reads L rv), ← ex] at z
      exact z
    · rw [List.pairwise_map]
      exact hs
    · rw [List.map_map, Array.toList_map, List.map_map]
      rfl
  · rw [List.length_map, Array.length_toList, hout]
    exact hvx
  · intro b o h
    rw [upd_ne (fun z => by rw [z, ha] at h; cases h), upd_ne (fun z => by rw [z, h0] at h; cases h)]
    exact L.same _ _ h
end
end EW
end

section
set_option maxHeartbeats 4000000
namespace EW
open PySem PySem.Spec PyProof.Rows L2
/-! ### min(l), sorted(l) of data -/
theorem readsAll_get {h : Heap} : ∀ {us : List Value} {ds : List PyData} {as : List Addr} {i : Nat} {u : Value}, ReadsAll h us ds as → us[i]? = some u → ∃ d bs, ds[i]? = some d ∧ Reads h u d bs
  | _, _, _, _, _, .nil, e => by simp at e
  | _, _, _, 0, u, .cons r t, e => by
    simp at e
    subst e
    exact ⟨_, _, rfl, r⟩
  | _, _, _, i + 1, u, .cons r t, e => by
    obtain ⟨d, bs, h1, h2⟩ := readsAll_get (i := i) (u := u) t (by simpa using e)
    exact ⟨d, bs, by simpa using h1, h2⟩
theorem minD_mem (x : PyData) : ∀ (xs : List PyData), W.minD x xs ∈ x :: xs := by
  intro xs
  unfold W.minD
  induction xs generalizing x with
  | nil => exact List.mem_cons_self
  | cons y ys ih =>
    rw [List.foldl_cons]
    have := ih (if W.dataLt y x then y else x)
    rcases List.mem_cons.mp this with e | e
    · rw [e]
      split
      · exact List.mem_cons_of_mem _ List.mem_cons_self
      · exact List.mem_cons_self
    · exact List.mem_cons_of_mem _ (List.mem_cons_of_mem _ e)
def rMinDt (K : W.Frag) : List V → Hp → VK → Prop := fun vs H Q => ∃ (a : Addr) (xs : List V) (x : PyData) (ds : List PyData), vs = [.ref a] ∧ SqL K H a xs ∧ DpAll K H xs (x :: ds) ∧ W.AlikeAll (x :: ds) ∧ PyData.depthAll (x :: ds) ≤ 8 ∧
  ∀ (i : Nat) (v : V), xs[i]? = some v → (x :: ds)[i]? = some (W.minD x ds) → Q v H
section
variable {X : Cx}
theorem cr_minDt (K : W.Frag) (h : X.K = K) (hc : X.calm = true) (hu : X.A.units + 64 < cLine) : CallR X (.builtin "min") (rMinDt K) := by
  subst h
  intro pins s σ H vs us Q I r h
  obtain ⟨a, xs, x, ds, rfl, hs, hd, ha, hz, q⟩ := h
  obtain ⟨its, rv, hl, _⟩ := I.list hs
  rw [Vals.ref1 r]
  obtain ⟨as, ra⟩ := Dp.readsAll I (x :: ds) xs its hd rv
  refine W.min_list_data (vs := its.toArray) (I.ok.hd hc) hl.isList (by simpa using ra) ha (by omega) fun i u h' tk bs hi hr hk => ?_
  have hi' : its[i]? = some u := by simpa using hi
  have hix : i < xs.length := by rw [rv.length]; exact (List.getElem?_eq_some_iff.mp hi').1
  obtain ⟨u', hu', ru⟩ := rv.get (List.getElem?_eq_getElem hix)
  rw [hi'] at hu'
  obtain rfl := Option.some.inj hu'
  obtain ⟨d, cs, hdi, hrd⟩ := readsAll_get ra hi'
  have e : W.minD x ds = d := W.alike_unique _ _ _ _ _ (ha.1 _ (minD_mem x ds) _ (List.mem_of_getElem? hdi)) hr (PyProof.Rows.Reads.keeps hk hrd)
  exact ⟨xs[i], H, I.kept hk, ru, q i _ (List.getElem?_eq_getElem hix) (by rw [hdi, e])⟩
end
end EW
end

section
set_option maxHeartbeats 4000000
namespace EW
open PySem PySem.Spec PyProof.Rows L2
section
variable {X : Cx} {k : Nat} {f a kS : Addr} {KeyOf : Hp → V → PyData → Prop} {pins : List (Addr × Obj)} {σ : L2.St} {H : Hp} {s : Shared} {A : Around} {E : Value → Shared → Prop} {P : PySem.Fin → Shared → Prop}
theorem sortD_end {e1 : Nat} {kz : List (PyData)} {ks xs : List V} {Hi : Hp} {vs us : List Value} (hne : a ≠ kS) (ha : H a = none) (h0 : H kS = none) (L : KysD X pins σ H a kS e1 kz ks Hi s) (rv : Vals ks us) (r : Vals xs vs) (hx : ∀ x ∈ xs, ∃ b, x = V.ref b)
    (hl : us.length = vs.length) (hk : kz.length = vs.length) (hz : xs.length ≤ sizeLine) (hal : W.AllAlike kz) (hsk : W.Sortable kz) (hu : ∀ d, d ∈ kz → A.units + d.depth < cLine)
    (q : ∀ ys Hn s', OutD xs kz ys → Inv X pins σ Hn s' → Same H Hn → Hn a = some (.lst ys) → P (.done (.ret .none)) s') : wpAny (model X.prog X.w) A (ksk_end a false vs.toArray e1 (.ref kS) us.toArray) P E s := by
  have ez : (us.toArray.zip vs.toArray).toList = us.zip vs := by simp
  have hsz : vs.toArray.size = vs.length := List.size_toArray
  have hS := W.SortsAt.data (prog := X.prog) (w := X.w) (A := A) (s := s) (each_of (by omega) (keysD_reads L rv)) hal hsk hu
  have ea : s.heap.get? a = some (seqObj "list" #[] e1) := (L.inv.hok a _ L.at_).1
  unfold ksk_end
  try dsimp only
  simp only [Bool.false_eq_true, if_false]
  by_cases h2 : vs.toArray.size < 2
  · rw [if_pos h2, if_pos h2]
    refine wpAny_bind (wpAny_pure ?_)
    rw [StateT.run_pure]
    refine wpAny_bind (wpAny_pure ?_)
    try dsimp only
    refine sortD_tail (st := SortSt.mk' general' (us.toArray.zip vs.toArray) #[] 7 none) hne ha h0 hal L rv r hx hl hk (List.Perm.of_eq ez) ?_ rfl hz q
    show SrtO.Srtd _ (us.toArray.zip vs.toArray).toList
    rw [ez]
    match us, vs, hl, h2 with
    | [], [], _, _ => exact List.Pairwise.nil
    | [u], [v], _, _ => exact List.pairwise_singleton _ _
    | _, _ :: _ :: l, _, h2 => exact absurd h2 (by simp)
    | _ :: _ :: _, [], hl, _ => simp at hl
    | _ :: _ :: _, [_], hl, _ => simp at hl
    | [], [_], hl, _ => simp at hl
    | [_], [], hl, _ => simp at hl
  · rw [if_neg h2, if_neg h2]
    obtain ⟨κ, hlt, hkind⟩ := hS.kind
    have hT : SrtO.Cmp X.prog X.w A s κ (fun p => p.1 ∈ us) (SrtO.lt2 fun v u => tkLt (tkAt s.heap kz v) (tkAt s.heap kz u)) := fun p q hp hq => by
      obtain ⟨x, ex⟩ := hS.keys p.1 hp
      obtain ⟨y, ey⟩ := hS.keys q.1 hq
      refine hlt _ p.1 q.1 x y ex ey ⟨rfl, ?_⟩
      show _ = tkLt (tkAt s.heap kz p.1) (tkAt s.heap kz q.1)
      unfold tkAt
      rw [ex, ey]
      rfl
    have hsz2 : 2 ≤ us.length := by omega
    refine wpAny_bind (hkind hsz2 _ ?_)
    have hall : SrtO.AllL (fun p : Keyed => p.1 ∈ us) (us.toArray.zip vs.toArray).toList := fun p hm => by
      rw [ez] at hm
      exact (List.of_mem_zip hm).1
    refine wpAny_bind (wpAny_mono (SrtO.wpS_sortO (st0 := SortSt.mk' κ (us.toArray.zip vs.toArray) #[] 7 none)
      (Q := fun _ st' => SrtO.Srtd (SrtO.lt2 fun v u => tkLt (tkAt s.heap kz v) (tkAt s.heap kz u)) (arrOf st').toList ∧ (arrOf st').toList.Perm (us.zip vs) ∧ failedOf st' = none) (SrtO.swo2 (swo_tk (tkAt s.heap kz))) hT rfl hall rfl rfl fun st' b1 b2 b3 => ⟨b1, by rw [← ez]; exact b2.perm, b3⟩) ?_ fun _ _ z => z)
    rintro ⟨⟨⟩, st'⟩ s' ⟨rfl, b1, b2, b3⟩
    try dsimp only
    exact sortD_tail hne ha h0 hal L rv r hx hl hk b2 b1 b3 hz q
theorem sortD_rest {e1 : Nat} {kz : List (PyData)} {xs : List V} {Hi : Hp} {vs : List Value} (T : KeyFnD X k f KeyOf) (sb : Sub X k A) (hne : a ≠ kS) (ha : H a = none) (h0 : H kS = none) (L : KysD X pins σ H a kS e1 kz [] Hi s) (r : Vals xs vs) (hx : ∀ x ∈ xs, ∃ b, x = V.ref b)
    (hk : kz.length = xs.length) (hz : xs.length ≤ sizeLine) (hal : W.AllAlike kz) (hsk : W.Sortable kz) (hu : ∀ d, d ∈ kz → A.units + d.depth < cLine) (hfl : ∀ d ∈ kz, flatD d = true) (hK : ∀ (j : Nat) (x : V) (pr : PyData), xs[j]? = some x → kz[j]? = some pr → KeyOf H x pr)
    (q : ∀ ys Hn s', OutD xs kz ys → Inv X pins σ Hn s' → Same H Hn → Hn a = some (.lst ys) → P (.done (.ret .none)) s') : wpAny (model X.prog X.w) A (ksk_rest a (.ref f) false vs.toArray e1 (.ref kS)) P E s := by
  have hlv := r.length
  unfold ksk_rest
  refine wpAny_bind (wpAny_rule ?_)
  first
    | rw [List.forIn_toArray]
    | (rw [← Array.forIn_toList]; simp only [List.toList_toArray])
    | rw [← Array.forIn_toList]
  refine wpAny_bind (ksk_fold (fun i s' => ∃ ks Hn, ks.length = i ∧ KysD X pins σ H a kS e1 kz ks Hn s') vs 0 s ⟨[], Hi, rfl, L⟩ ?step ?done)
  case step =>
    rintro j x s' hxj ⟨ks, Hn, hj, L'⟩
    simp only [Nat.zero_add] at hj ⊢
    have hjv : j < vs.length := (List.getElem?_eq_some_iff.mp hxj).1
    obtain ⟨v, hv⟩ : ∃ v, xs[j]? = some v := ⟨_, List.getElem?_eq_getElem (by omega)⟩
    obtain ⟨pr, hpr⟩ : ∃ pr, kz[j]? = some pr := ⟨_, List.getElem?_eq_getElem (by omega)⟩
    obtain ⟨u, hu, ru⟩ := r.get hv
    rw [hxj] at hu
    obtain rfl := Option.some.inj hu
    refine wpAny_bind (wpAny_attempt ?_)
    refine wpAny_mono (keysD_turn (E := E) (Q := fun s2 => ∃ ks' Hn', ks'.length = j + 1 ∧ KysD X pins σ H a kS e1 kz ks' Hn' s2) T sb hne h0 hfl L' (by rw [hj]; exact hpr) (hK j v pr hv hpr) ru (by omega) fun ks' Hn' s2 h1 h2 => ⟨ks', Hn', by omega, h2⟩) (fun z s2 hq => ?_) fun _ _ z => z.elim
    try dsimp only
    refine wpAny_bind (wpAny_mono hq (fun _ s3 h3 => ?_) fun _ _ z => z)
    exact wpAny_pure ⟨rfl, h3⟩
  case done =>
    rintro s' ⟨ks, Hn, hj, L'⟩
    simp only [Nat.zero_add] at hj
    obtain ⟨_, us, n, rk, hkl, e⟩ := L'.inv.lstM L'.kst
    try dsimp only
    refine wpAny_bind (listItems_at e rfl ?_)
    exact sortD_end hne ha h0 L' rk r hx (by omega) (by omega) hz hal hsk hu q
end
end EW
end

section
set_option maxHeartbeats 4000000
namespace EW
open PySem PySem.Spec PyProof.Rows L2
section
variable {X : Cx} {k : Nat} {f a kS : Addr} {KeyOf : Hp → V → PyData → Prop} {pins : List (Addr × Obj)} {σ : L2.St} {H : Hp} {s : Shared} {A : Around} {E : Value → Shared → Prop} {P : PySem.Fin → Shared → Prop}
theorem sortD_tree {kz : List (PyData)} {xs : List V} {vs : List Value} {n : Nat} (T : KeyFnD X k f KeyOf) (sb : Sub X k A) (ha : H a = none) (I : Inv X pins σ (upd H a (.lst xs)) s) (ho : s.heap.get? a = some (seqObj "list" vs.toArray n)) (r : Vals xs vs) (hx : ∀ x ∈ xs, ∃ b, x = V.ref b)
    (hk : kz.length = xs.length) (hal : W.AllAlike kz) (hsk : W.Sortable kz) (hu : ∀ d, d ∈ kz → A.units + d.depth < cLine) (hfl : ∀ d ∈ kz, flatD d = true) (hK : ∀ (j : Nat) (x : V) (pr : PyData), xs[j]? = some x → kz[j]? = some pr → KeyOf H x pr)
    (q : ∀ ys Hn s', OutD xs kz ys → Inv X pins σ Hn s' → Same H Hn → Hn a = some (.lst ys) → P (.done (.ret .none)) s') : wpAny (model X.prog X.w) A (ksk_tree a (.ref f) false) P E s := by
  have hz : xs.length ≤ sizeLine := (I.lstM upd_same).1
  have hv : vs.length ≤ sizeLine := by rw [← r.length]; exact hz
  obtain ⟨e1, ho1⟩ : ∃ e1, (s.heap.update a (Obj.mapSeq fun _ => (#[] : Array Value))).get? a = some (seqObj "list" #[] e1) := ⟨_, get?_update_seq ho fun _ => #[]⟩
  unfold ksk_tree
  refine wpAny_bind (listItems_at ho rfl ?_)
  refine wpAny_bind (listUpdate_at ho rfl ?_ (by rw [List.size_toArray]; exact hv) (Nat.zero_le _))
  refine wpAny_bind (seqEpoch_at ho1 rfl ?_)
  refine wpAny_bind (wpAny_newTuple ?_ hv)
  refine wpAny_bind (wpAny_newList ?_ (Nat.zero_le _))
  refine wpAny_holding ?_
  have I1 : Inv X pins σ (upd (upd H a (.lst xs)) a (LsO a #[] e1)) { s with heap := s.heap.update a (Obj.mapSeq fun _ => (#[] : Array Value)), toks := s.toks } :=
    I.write (by rw [upd_same]; exact True.intro) (.inl rfl) (fun b u hb hu => (Heap.get?_update_other _ _ (Ne.symm hb)).trans hu) ⟨_, ho1⟩ (lsO_ok ho1)
  have I2 := I1.kept (h' := (s.heap.update a (Obj.mapSeq fun _ => (#[] : Array Value))).push (seqObj "tuple" vs.toArray 0)) (t' := s.toks) fun b u e => Heap.get?_push_of_some _ e
  have I3 := I2.lnew (ys := []) (its := []) (t' := s.toks) .nil (Nat.zero_le _)
  have hf := I2.fresh
  have hne : a ≠ ((s.heap.update a (Obj.mapSeq fun _ => (#[] : Array Value))).push (seqObj "tuple" vs.toArray 0)).objs.size := fun z => by
    rw [← z, upd_same] at hf
    cases hf
  refine sortD_rest T sb hne ha ?_ ⟨I3, fun b o h => ?_, ?_, upd_same, fun j v hj => by simp at hj⟩ r hx hk hz hal hsk hu hfl hK q
  · rw [upd_ne (Ne.symm hne), upd_ne (Ne.symm hne)] at hf
    exact hf
  · have h1 : b ≠ a := fun z => by rw [z, ha] at h; cases h
    rw [upd_ne (fun z => by rw [← z, upd_ne h1, upd_ne h1, h] at hf; cases hf), upd_ne h1, upd_ne h1]
    exact h
  · rw [upd_ne hne]
    exact upd_same
def rSortByD (K : W.Frag) (f : Addr) (KeyOf : Hp → V → PyData → Prop) : List V → List V → Hp → VK → Prop := fun vs zs H Q => ∃ (a : Addr) (xs : List V) (kz : List (PyData)), vs = [.ref a] ∧ zs = [.ref f] ∧ SqL K H a xs ∧ (∀ x ∈ xs, ∃ b, x = V.ref b) ∧ kz.length = xs.length ∧ W.AllAlike kz ∧ W.Sortable kz ∧ (∀ d ∈ kz, flatD d = true ∧ d.depth ≤ 8) ∧
  (∀ (j : Nat) (x : V) (pr : PyData), xs[j]? = some x → kz[j]? = some pr → KeyOf H x pr) ∧ ∀ ys, OutD xs kz ys → New H (fun _ => .lst ys) Q
/-- sorted(l, key=f) -/
theorem cr_sortedByD (T : KeyFnD X k f KeyOf) (hr : Room (k + 2) X.A) : CallRK X (.builtin "sorted") [Str.ofString "key"] (rSortByD X.K f KeyOf) := by
  intro pins s σ H vs zs us ws Q I r rz h
  obtain ⟨l, xs, kz, rfl, rfl, hS, hx, hk, hal, hsk, hfl, hK, q⟩ := h
  obtain rfl := Vals.ref1 r
  obtain rfl := Vals.ref1 rz
  obtain ⟨its, rv, hl, hz⟩ := I.list hS
  have hz' : its.length ≤ sizeLine := by rw [← rv.length]; exact hz
  show wpAny _ _ (call (.builtin "sorted") [.ref l] [(Str.ofString "key", .ref f)]) _ _ _
  refine call_function_entry_kw kind_sorted plain_sorted entry_sorted (ksk_s1 _ _) ?_
  unfold Builtin.«sorted»
  refine wpAny_bind (m := checkCount "sorted" 1 1 _) (wpAny_pure ?_)
  refine wpAny_bind (collect_list hl.isList ?_ hz')
  refine wpAny_bind (wpAny_newList ?_ hz')
  have hsz : ((s.heap.push (seqObj "list" #[] 0)).update s.heap.objs.size (Obj.mapSeq (· ++ its.toArray))).objs.size = s.heap.objs.size + 1 := by
    rw [Heap.size_update, size_push']
  have hoL : (((s.heap.push (seqObj "list" #[] 0)).update s.heap.objs.size (Obj.mapSeq (· ++ its.toArray))).push (seqObj "list" its.toArray 0)).get? (s.heap.objs.size + 1) = some (seqObj "list" its.toArray 0) := by
    rw [← hsz]; exact Heap.get?_push_size _ rfl
  have keep : ∀ b o, s.heap.get? b = some o → (((s.heap.push (seqObj "list" #[] 0)).update s.heap.objs.size (Obj.mapSeq (· ++ its.toArray))).push (seqObj "list" its.toArray 0)).get? b = some o := fun b o e => by
    refine Heap.get?_push_of_some _ ?_
    rw [Heap.get?_update_ne _ _ _ _ (Nat.ne_of_lt (Heap.lt_size e))]
    exact Heap.get?_push_of_some _ e
  show wpAny _ _ _ _ _ { s with heap := ((s.heap.push (seqObj "list" #[] 0)).update s.heap.objs.size (Obj.mapSeq (· ++ its.toArray))).push (seqObj "list" its.toArray 0) }
  rw [hsz]
  have hfr : H (s.heap.objs.size + 1) = none := I.hok.fresh (Nat.le_succ _)
  have I1 := I.laid (h' := ((s.heap.push (seqObj "list" #[] 0)).update s.heap.objs.size (Obj.mapSeq (· ++ its.toArray))).push (seqObj "list" its.toArray 0)) (a := s.heap.objs.size + 1) (o := .lst xs) (t' := s.toks) keep (Nat.le_succ _) ⟨hz, its, 0, rv, hoL⟩
  refine wpAny_bind (wpAny_holding (wpAny_call_entry_kw slot_list_sort ⟨_, hoL, rfl⟩ entry_list_sort ?_ (ksk_l1 _ _)))
  rw [ksk_t1]
  refine sortD_tree T (Sub.in1 (Sub.in1 ⟨hr, rfl⟩)) hfr I1 hoL rv hx hk hal hsk (fun d hd => by
    have h1 := (hfl d hd).2
    have h2 := hr.units
    show X.A.units + 1 + 1 + d.depth < cLine
    omega) (fun d hd => (hfl d hd).1) hK fun ys Hn s' o I' sm ea => ⟨_, rfl, ?_⟩
  exact wpAny_pure ⟨_, rfl, .ref _, Hn, I', rfl, q ys o _ Hn hfr sm ea⟩
end
end EW
end

section

/-! Sets of times by runs: the mathematics, no program in sight -/
namespace Rn
/-- a span: residue or none, least, most -/
structure Sp3 where
  res : Option Int
  lo : Option Int
  hi : Option Int
  deriving DecidableEq
/-- a run -/
structure Run where
  r : Int
  lo : Option Int
  hi : Option Int
  deriving DecidableEq
def Run.span (x : Run) : Sp3 := ⟨some x.r, x.lo, x.hi⟩
def geLo (lo : Option Int) (t : Int) : Prop := ∀ l, lo = some l → l ≤ t
def leHi (hi : Option Int) (t : Int) : Prop := ∀ m, hi = some m → t ≤ m
def inRun (p : Int) (x : Run) (t : Int) : Prop := t % p = x.r ∧ geLo x.lo t ∧ leHi x.hi t
def inRuns (p : Int) (xs : List Run) (t : Int) : Prop := ∃ x ∈ xs, inRun p x t
def inSpan (p : Int) (s : Sp3) (t : Int) : Prop := (∀ r, s.res = some r → t % p = r) ∧ geLo s.lo t ∧ leHi s.hi t
def inSpans (p : Int) (ss : List Sp3) (t : Int) : Prop := ∃ s ∈ ss, inSpan p s t
/-- rounded up to the residue, rounded down -/
def upTo (p r l : Int) : Int := l + (r - l) % p
def downTo (p r m : Int) : Int := m - (m - r) % p
def runOf (p r : Int) (lo hi : Option Int) : Option Run :=
  match lo.map (upTo p r), hi.map (downTo p r) with
  | some l, some m => if l > m then none else some ⟨r, some l, some m⟩
  | l, m => some ⟨r, l, m⟩
/-- what a run must be -/
structure Good (p : Int) (x : Run) : Prop where
  r0 : 0 ≤ x.r
  r1 : x.r < p
  lo : ∀ l, x.lo = some l → l % p = x.r
  hi : ∀ m, x.hi = some m → m % p = x.r
  le : ∀ l m, x.lo = some l → x.hi = some m → l ≤ m
section
variable {p r t : Int}
theorem dvd_of_mods {a b : Int} (h : a % p = b % p) : ∃ k, a - b = p * k := by
  have h1 : (a - b) % p = 0 := by
    rw [Int.sub_emod, h, Int.sub_self]
    exact Int.zero_emod _
  exact ⟨(a - b) / p, by
    have := Int.mul_ediv_add_emod (a - b) p
    omega⟩
/-- two numbers of one remainder: less means less by a period at least -/
theorem step_of {a b : Int} (hp : 0 < p) (h : a % p = b % p) (l : a < b) : a + p ≤ b := by
  obtain ⟨k, hk⟩ := dvd_of_mods (p := p) h.symm
  have k0 : 0 < k := by
    rcases Int.lt_or_le 0 k with z | z
    · exact z
    · have : p * k ≤ p * 0 := Int.mul_le_mul_of_nonneg_left z (Int.le_of_lt hp)
      omega
  have : p * 1 ≤ p * k := Int.mul_le_mul_of_nonneg_left (by omega) (Int.le_of_lt hp)
  omega
theorem upTo_mod (h0 : 0 ≤ r) (h1 : r < p) (l : Int) : upTo p r l % p = r := by
  unfold upTo
  rw [Int.add_emod, Int.emod_emod, ← Int.add_emod]
  have : l + (r - l) = r := by omega
  rw [this]
  exact Int.emod_eq_of_lt h0 h1
theorem downTo_mod (h0 : 0 ≤ r) (h1 : r < p) (m : Int) : downTo p r m % p = r := by
  unfold downTo
  rw [Int.sub_emod, Int.emod_emod, ← Int.sub_emod]
  have : m - (m - r) = r := by omega
  rw [this]
  exact Int.emod_eq_of_lt h0 h1
theorem upTo_le (hp : 0 < p) (l : Int) : l ≤ upTo p r l ∧ upTo p r l < l + p := by
  unfold upTo
  have h1 := Int.emod_nonneg (r - l) (Int.ne_of_gt hp)
  have h2 := Int.emod_lt_of_pos (r - l) hp
  omega
theorem downTo_le (hp : 0 < p) (m : Int) : downTo p r m ≤ m ∧ m - p < downTo p r m := by
  unfold downTo
  have h1 := Int.emod_nonneg (m - r) (Int.ne_of_gt hp)
  have h2 := Int.emod_lt_of_pos (m - r) hp
  omega
theorem upTo_iff (h0 : 0 ≤ r) (h1 : r < p) (ht : t % p = r) (l : Int) : upTo p r l ≤ t ↔ l ≤ t := by
  have hp : 0 < p := by omega
  have a := upTo_le (r := r) hp l
  constructor
  · intro h
    omega
  · intro h
    rcases Int.lt_or_le t (upTo p r l) with z | z
    · have := step_of hp (by rw [ht, upTo_mod h0 h1]) z
      omega
    · exact z
theorem downTo_iff (h0 : 0 ≤ r) (h1 : r < p) (ht : t % p = r) (m : Int) : t ≤ downTo p r m ↔ t ≤ m := by
  have hp : 0 < p := by omega
  have a := downTo_le (r := r) hp m
  constructor
  · intro h
    omega
  · intro h
    rcases Int.lt_or_le (downTo p r m) t with z | z
    · have := step_of hp (by rw [ht, downTo_mod h0 h1]) z
      omega
    · exact z
/-- what the run of a residue between bounds has -/
theorem runOf_some {lo hi : Option Int} {x : Run} (h0 : 0 ≤ r) (h1 : r < p) (h : runOf p r lo hi = some x) : Good p x ∧ x.r = r ∧ ∀ t, inRun p x t ↔ (t % p = r ∧ geLo lo t ∧ leHi hi t) := by
  have key : x.r = r ∧ x.lo = lo.map (upTo p r) ∧ x.hi = hi.map (downTo p r) ∧ (∀ l m, x.lo = some l → x.hi = some m → l ≤ m) := by
    unfold runOf at h
    cases lo with
    | none =>
      cases hi with
      | none => cases h; exact ⟨rfl, rfl, rfl, fun l m z _ => nomatch z⟩
      | some m => cases h; exact ⟨rfl, rfl, rfl, fun l m z _ => nomatch z⟩
    | some l =>
      cases hi with
      | none => cases h; exact ⟨rfl, rfl, rfl, fun l m _ z => nomatch z⟩
      | some m =>
        have h' : (if upTo p r l > downTo p r m then none else some (⟨r, some (upTo p r l), some (downTo p r m)⟩ : Run)) = some x := h
        split at h'
        · cases h'
        · rename_i z
          cases h'
          refine ⟨rfl, rfl, rfl, fun a b ha hb => ?_⟩
          cases ha
          cases hb
          omega
  obtain ⟨e1, e2, e3, e4⟩ := key
  refine ⟨⟨by omega, by omega, fun l z => ?_, fun m z => ?_, e4⟩, e1, fun t => ?_⟩
  · rw [e2] at z
    cases lo with
    | none => cases z
    | some l' =>
      cases z
      rw [e1]
      exact upTo_mod h0 h1 l'
  · rw [e3] at z
    cases hi with
    | none => cases z
    | some m' =>
      cases z
      rw [e1]
      exact downTo_mod h0 h1 m'
  · unfold inRun
    rw [e1, e2, e3]
    constructor
    · rintro ⟨a, b, c⟩
      refine ⟨a, fun l z => ?_, fun m z => ?_⟩
      · subst z
        exact (upTo_iff h0 h1 a l).mp (b _ rfl)
      · subst z
        exact (downTo_iff h0 h1 a m).mp (c _ rfl)
    · rintro ⟨a, b, c⟩
      refine ⟨a, fun l z => ?_, fun m z => ?_⟩
      · cases lo with
        | none => cases z
        | some l' =>
          cases z
          exact (upTo_iff h0 h1 a l').mpr (b _ rfl)
      · cases hi with
        | none => cases z
        | some m' =>
          cases z
          exact (downTo_iff h0 h1 a m').mpr (c _ rfl)
theorem runOf_none {lo hi : Option Int} (h0 : 0 ≤ r) (h1 : r < p) (h : runOf p r lo hi = none) (t : Int) : ¬ (t % p = r ∧ geLo lo t ∧ leHi hi t) := by
  rintro ⟨a, b, c⟩
  unfold runOf at h
  cases lo with
  | none => cases hi <;> cases h
  | some l =>
    cases hi with
    | none => cases h
    | some m =>
      have h' : (if upTo p r l > downTo p r m then none else some (⟨r, some (upTo p r l), some (downTo p r m)⟩ : Run)) = none := h
      split at h'
      · have b1 := (upTo_iff h0 h1 a l).mpr (b _ rfl)
        have c1 := (downTo_iff h0 h1 a m).mpr (c _ rfl)
        omega
      · cases h'
end
end Rn
end

section

namespace Rn
/-! ### the one list of runs of a set -/
/-- x comes ahead of y, and they don't touch -/
def Lt (p : Int) (x y : Run) : Prop := x.r < y.r ∨ (x.r = y.r ∧ ∃ h l, x.hi = some h ∧ y.lo = some l ∧ h + p < l)
structure Canon (p : Int) (xs : List Run) : Prop where
  good : ∀ x ∈ xs, Good p x
  pw : xs.Pairwise (Lt p)
section
variable {p : Int}
theorem Canon.tail {x : Run} {xs : List Run} (h : Canon p (x :: xs)) : Canon p xs := ⟨fun y hy => h.good y (List.mem_cons_of_mem _ hy), (List.pairwise_cons.mp h.pw).2⟩
theorem Canon.head {x : Run} {xs : List Run} (h : Canon p (x :: xs)) : Good p x := h.good x List.mem_cons_self
theorem Canon.lt {x : Run} {xs : List Run} (h : Canon p (x :: xs)) : ∀ y ∈ xs, Lt p x y := (List.pairwise_cons.mp h.pw).1
/-- a run has a member: its least one, its greatest one, or its residue -/
theorem Good.some {x : Run} (g : Good p x) : ∃ t, inRun p x t := by
  have hp : 0 < p := by have := g.r0; have := g.r1; omega
  cases el : x.lo with
  | some l =>
    refine ⟨l, g.lo l el, fun l' z => ?_, fun m z => ?_⟩
    · rw [el] at z
      cases z
      exact Int.le_refl _
    · exact g.le l m el z
  | none =>
    cases eh : x.hi with
    | some m =>
      refine ⟨m, g.hi m eh, fun l' z => ?_, fun m' z => ?_⟩
      · rw [el] at z
        cases z
      · rw [eh] at z
        cases z
        exact Int.le_refl _
    | none =>
      refine ⟨x.r, Int.emod_eq_of_lt g.r0 g.r1, fun l' z => ?_, fun m' z => ?_⟩
      · rw [el] at z
        cases z
      · rw [eh] at z
        cases z
/-- runs one ahead of the other have no common member -/
theorem Lt.apart {x y : Run} {t : Int} (hp : 0 < p) (h : Lt p x y) (hx : inRun p x t) (hy : inRun p y t) : False := by
  rcases h with h | ⟨_, a, b, e1, e2, h⟩
  · have := hx.1
    have := hy.1
    omega
  · have := hx.2.2 a e1
    have := hy.2.1 b e2
    omega
theorem tail_iff {x : Run} {xs : List Run} (hp : 0 < p) (h : Canon p (x :: xs)) (t : Int) : inRuns p xs t ↔ inRuns p (x :: xs) t ∧ ¬ inRun p x t := by
  constructor
  · rintro ⟨y, hy, m⟩
    exact ⟨⟨y, List.mem_cons_of_mem _ hy, m⟩, fun hx => (h.lt y hy).apart hp hx m⟩
  · rintro ⟨⟨y, hy, m⟩, n⟩
    rcases List.mem_cons.mp hy with rfl | hy
    · exact absurd m n
    · exact ⟨y, hy, m⟩
/-- of one residue: members of later runs come behind -/
theorem later {x y : Run} {xs : List Run} {t h : Int} (c : Canon p (x :: xs)) (hy : y ∈ xs) (m : inRun p y t) (er : t % p = x.r) (eh : x.hi = some h) : h + p < t := by
  rcases c.lt y hy with z | ⟨_, a, b, e1, e2, z⟩
  · have := m.1
    omega
  · rw [eh] at e1
    cases e1
    have := m.2.1 b e2
    omega
theorem later_none {x y : Run} {xs : List Run} {t : Int} (c : Canon p (x :: xs)) (hy : y ∈ xs) (m : inRun p y t) (er : t % p = x.r) (eh : x.hi = none) : False := by
  rcases c.lt y hy with z | ⟨_, a, b, e1, e2, z⟩
  · have := m.1
    omega
  · rw [eh] at e1
    cases e1
/-- the first run's least time is the least of its residue -/
theorem first_le {x : Run} {xs : List Run} {t l : Int} (hp : 0 < p) (c : Canon p (x :: xs)) (m : inRuns p (x :: xs) t) (er : t % p = x.r) (el : x.lo = some l) : l ≤ t := by
  obtain ⟨y, hy, m⟩ := m
  rcases List.mem_cons.mp hy with rfl | hy
  · exact m.2.1 l el
  · cases eh : x.hi with
    | none => exact (later_none c hy m er eh).elim
    | some h =>
      have := later c hy m er eh
      have := c.head.le l h el eh
      omega
theorem res_le {x : Run} {xs : List Run} {t : Int} (c : Canon p (x :: xs)) (m : inRuns p (x :: xs) t) : x.r ≤ t % p := by
  obtain ⟨y, hy, m⟩ := m
  rcases List.mem_cons.mp hy with rfl | hy
  · rw [m.1]
    exact Int.le_refl _
  · rcases c.lt y hy with z | ⟨z, _⟩
    · have := m.1
      omega
    · have := m.1
      omega
/-- less than any number, with a remainder -/
theorem below (hp : 0 < p) {r : Int} (h0 : 0 ≤ r) (h1 : r < p) (b : Int) : ∃ t, t % p = r ∧ t < b := by
  have h := downTo_le (p := p) (r := r) hp (b - 1)
  exact ⟨downTo p r (b - 1), downTo_mod h0 h1 _, by omega⟩
theorem above (hp : 0 < p) {r : Int} (h0 : 0 ≤ r) (h1 : r < p) (b : Int) : ∃ t, t % p = r ∧ b < t := by
  have h := upTo_le (p := p) (r := r) hp (b + 1)
  exact ⟨upTo p r (b + 1), upTo_mod h0 h1 _, by omega⟩
theorem in_lo {x : Run} (g : Good p x) {l : Int} (el : x.lo = some l) : inRun p x l := by
  refine ⟨g.lo l el, fun l' z => ?_, fun m z => g.le l m el z⟩
  rw [el] at z
  cases z
  exact Int.le_refl _
theorem in_hi {x : Run} (g : Good p x) {m : Int} (eh : x.hi = some m) : inRun p x m := by
  refine ⟨g.hi m eh, fun l z => g.le l m z eh, fun m' z => ?_⟩
  rw [eh] at z
  cases z
  exact Int.le_refl _
theorem res_eq {x y : Run} {xs ys : List Run} (c : Canon p (x :: xs)) (d : Canon p (y :: ys)) (h : ∀ t, inRuns p (x :: xs) t → inRuns p (y :: ys) t) : y.r ≤ x.r := by
  obtain ⟨t, m⟩ := c.head.some
  have := res_le d (h t ⟨x, List.mem_cons_self, m⟩)
  rw [m.1] at this
  exact this
theorem lo_le {x y : Run} {xs ys : List Run} (hp : 0 < p) (c : Canon p (x :: xs)) (d : Canon p (y :: ys)) (h : ∀ t, inRuns p (x :: xs) t → inRuns p (y :: ys) t) (e : x.r = y.r) {l : Int} (el : y.lo = some l) : ∃ l', x.lo = some l' ∧ l ≤ l' := by
  cases ex : x.lo with
  | some l' =>
    have m := in_lo c.head ex
    exact ⟨l', rfl, first_le hp d (h l' ⟨x, List.mem_cons_self, m⟩) (by rw [m.1, e]) el⟩
  | none =>
    exfalso
    have b : ∃ b : Int, b ≤ l ∧ leHi x.hi b := by
      cases eh : x.hi with
      | none => exact ⟨l, Int.le_refl _, fun m z => nomatch z⟩
      | some m =>
        refine ⟨min l m, by omega, fun m' z => ?_⟩
        cases z
        omega
    obtain ⟨b, b1, b2⟩ := b
    obtain ⟨t, t1, t2⟩ := below hp c.head.r0 c.head.r1 b
    have m : inRun p x t := ⟨t1, (fun l' z => by rw [ex] at z; cases z), (fun m z => by have := b2 m z; omega)⟩
    have := first_le hp d (h t ⟨x, List.mem_cons_self, m⟩) (by rw [t1, e]) el
    omega
theorem hi_le {x y : Run} {xs ys : List Run} (hp : 0 < p) (c : Canon p (x :: xs)) (d : Canon p (y :: ys)) (h : ∀ t, inRuns p (x :: xs) t → inRuns p (y :: ys) t) (e : x.r = y.r) (elo : x.lo = y.lo) {m : Int} (eh : y.hi = some m) : ∃ m', x.hi = some m' ∧ m' ≤ m := by
  have out : ∀ t, inRun p x t → t ≤ m + p → t ≤ m := fun t mt lt => by
    obtain ⟨z, hz, mz⟩ := h t ⟨x, List.mem_cons_self, mt⟩
    rcases List.mem_cons.mp hz with rfl | hz
    · exact mz.2.2 m eh
    · have := later d hz mz (by rw [mt.1, e]) eh
      omega
  have my := in_hi d.head eh
  have key : ∀ t, inRun p x t → t ≤ m := fun t mt => by
    rcases Int.lt_or_le m t with z | z
    · exfalso
      have mp : m + p ≤ t := step_of hp (by rw [my.1, mt.1, e]) z
      have m2 : inRun p x (m + p) := by
        refine ⟨by rw [Int.add_emod_right, my.1, e], fun l el => ?_, fun u eu => ?_⟩
        · have := d.head.le l m (by rw [← elo]; exact el) eh
          omega
        · have := mt.2.2 u eu
          omega
      have := out (m + p) m2 (Int.le_refl _)
      omega
    · exact z
  cases ex : x.hi with
  | some m' => exact ⟨m', rfl, key m' (in_hi c.head ex)⟩
  | none =>
    exfalso
    have b : ∃ b : Int, m ≤ b ∧ geLo x.lo b := by
      cases el : x.lo with
      | none => exact ⟨m, Int.le_refl _, fun l z => nomatch z⟩
      | some l =>
        refine ⟨max l m, by omega, fun l' z => ?_⟩
        cases z
        omega
    obtain ⟨b, b1, b2⟩ := b
    obtain ⟨t, t1, t2⟩ := above hp c.head.r0 c.head.r1 b
    have mt : inRun p x t := ⟨t1, (fun l z => by have := b2 l z; omega), (fun u z => by rw [ex] at z; cases z)⟩
    have := key t mt
    omega
/-- THE UNIQUENESS: equal members, equal runs -/
theorem canon_unique (hp : 0 < p) : ∀ {xs ys : List Run}, Canon p xs → Canon p ys → (∀ t, inRuns p xs t ↔ inRuns p ys t) → xs = ys
  | [], [], _, _, _ => rfl
  | [], y :: ys, _, d, h => by
    obtain ⟨t, m⟩ := d.head.some
    obtain ⟨z, hz, _⟩ := (h t).mpr ⟨y, List.mem_cons_self, m⟩
    cases hz
  | x :: xs, [], c, _, h => by
    obtain ⟨t, m⟩ := c.head.some
    obtain ⟨z, hz, _⟩ := (h t).mp ⟨x, List.mem_cons_self, m⟩
    cases hz
  | x :: xs, y :: ys, c, d, h => by
    have h1 : ∀ t, inRuns p (x :: xs) t → inRuns p (y :: ys) t := fun t => (h t).mp
    have h2 : ∀ t, inRuns p (y :: ys) t → inRuns p (x :: xs) t := fun t => (h t).mpr
    have er : x.r = y.r := by
      have := res_eq c d h1
      have := res_eq d c h2
      omega
    have el : x.lo = y.lo := by
      cases e1 : x.lo with
      | none =>
        cases e2 : y.lo with
        | none => rfl
        | some l =>
          obtain ⟨l', z, _⟩ := lo_le hp c d h1 er e2
          rw [e1] at z
          cases z
      | some a =>
        obtain ⟨b, z, q⟩ := lo_le hp d c h2 er.symm e1
        obtain ⟨a', z', q'⟩ := lo_le hp c d h1 er z
        rw [e1] at z'
        cases z'
        rw [z]
        congr 1
        omega
    have eh : x.hi = y.hi := by
      cases e1 : x.hi with
      | none =>
        cases e2 : y.hi with
        | none => rfl
        | some l =>
          obtain ⟨l', z, _⟩ := hi_le hp c d h1 er el e2
          rw [e1] at z
          cases z
      | some a =>
        obtain ⟨b, z, q⟩ := hi_le hp d c h2 er.symm el.symm e1
        obtain ⟨a', z', q'⟩ := hi_le hp c d h1 er el z
        rw [e1] at z'
        cases z'
        rw [z]
        congr 1
        omega
    have exy : x = y := by
      obtain ⟨a, b, c⟩ := x
      obtain ⟨a', b', c'⟩ := y
      cases er
      cases el
      cases eh
      rfl
    subst exy
    have := canon_unique hp c.tail d.tail fun t => by rw [tail_iff hp c, tail_iff hp d, h t]
    rw [this]
end
end Rn
end

section

namespace Rn
/-! ### runs of one residue, put together -/
def goesOn (p : Int) (x y : Run) : Bool := match x.hi, y.lo with
  | some h, some l => decide (l ≤ h + p)
  | _, _ => true
def hiMax (a b : Option Int) : Option Int := match a, b with
  | some u, some v => some (max u v)
  | _, _ => none
def merge (x y : Run) : Run := ⟨x.r, x.lo, hiMax x.hi y.hi⟩
/-- none comes ahead of all bounds -/
def loLe (a b : Option Int) : Prop := match a, b with
  | none, _ => True
  | some _, none => False
  | some u, some v => u ≤ v
theorem loLe.trans {a b c : Option Int} (h : loLe a b) (g : loLe b c) : loLe a c := by
  cases a with
  | none => trivial
  | some u =>
    cases b with
    | none => exact h.elim
    | some v =>
      cases c with
      | none => exact g.elim
      | some w => exact Int.le_trans (show u ≤ v from h) g
/-- what stands of the runs so far: found, of which the last one may still grow -/
structure Grow (p r : Int) (found done : List Run) : Prop where
  good : ∀ z ∈ found, Good p z ∧ z.r = r
  pw : found.Pairwise (Lt p)
  mem : ∀ t, inRuns p found t ↔ inRuns p done t
section
variable {p r : Int}
theorem Grow.nil : Grow p r [] [] := ⟨(fun _ h => nomatch h), List.Pairwise.nil, fun _ => Iff.rfl⟩
theorem inRuns_append {xs ys : List Run} {t : Int} : inRuns p (xs ++ ys) t ↔ inRuns p xs t ∨ inRuns p ys t := by
  constructor
  · rintro ⟨x, hx, m⟩
    rcases List.mem_append.mp hx with h | h
    · exact .inl ⟨x, h, m⟩
    · exact .inr ⟨x, h, m⟩
  · rintro (⟨x, hx, m⟩ | ⟨x, hx, m⟩)
    · exact ⟨x, List.mem_append_left _ hx, m⟩
    · exact ⟨x, List.mem_append_right _ hx, m⟩
theorem inRuns_one {x : Run} {t : Int} : inRuns p [x] t ↔ inRun p x t := by
  constructor
  · rintro ⟨y, hy, m⟩
    rw [List.mem_singleton] at hy
    subst hy
    exact m
  · exact fun m => ⟨x, List.mem_singleton.mpr rfl, m⟩
theorem merge_good {x y : Run} (gx : Good p x) (gy : Good p y) (e : x.r = y.r) : Good p (merge x y) := by
  refine ⟨gx.r0, gx.r1, gx.lo, fun m z => ?_, fun l m zl z => ?_⟩
  · have z' : hiMax x.hi y.hi = some m := z
    cases ex : x.hi with
    | none =>
      rw [ex] at z'
      cases z'
    | some a =>
      cases ey : y.hi with
      | none =>
        rw [ex, ey] at z'
        cases z'
      | some b =>
        rw [ex, ey] at z'
        have z2 : max a b = m := Option.some.inj z'
        have h1 := gx.hi a ex
        have h2 := gy.hi b ey
        show m % p = x.r
        rcases Int.le_total a b with q | q
        · rw [← z2, Int.max_eq_right q, h2, e]
        · rw [← z2, Int.max_eq_left q, h1]
  · have z' : hiMax x.hi y.hi = some m := z
    cases ex : x.hi with
    | none =>
      rw [ex] at z'
      cases z'
    | some a =>
      cases ey : y.hi with
      | none =>
        rw [ex, ey] at z'
        cases z'
      | some b =>
        rw [ex, ey] at z'
        have z2 : max a b = m := Option.some.inj z'
        have := gx.le l a zl ex
        omega
theorem merge_mem {x y : Run} (gx : Good p x) (gy : Good p y) (e : x.r = y.r) (lo : loLe x.lo y.lo) (g : goesOn p x y = true) (t : Int) : inRun p (merge x y) t ↔ inRun p x t ∨ inRun p y t := by
  have hp : 0 < p := by have := gx.r0; have := gx.r1; omega
  constructor
  · rintro ⟨m1, m2, m3⟩
    have m3' : leHi (hiMax x.hi y.hi) t := m3
    have m2' : geLo x.lo t := m2
    have m1' : t % p = x.r := m1
    cases ex : x.hi with
    | none => exact .inl ⟨m1, m2, fun m z => by rw [ex] at z; cases z⟩
    | some a =>
      rcases Int.lt_or_le a t with q | q
      · right
        have ap : a + p ≤ t := step_of hp (by rw [gx.hi a ex, m1']) q
        refine ⟨by rw [m1', e], fun l z => ?_, fun m z => ?_⟩
        · have g' : decide (l ≤ a + p) = true := by
            unfold goesOn at g
            rw [ex, z] at g
            exact g
          have := of_decide_eq_true g'
          omega
        · have h := m3' (max a m) (by rw [ex, z]; rfl)
          omega
      · exact .inl ⟨m1, m2, fun m z => by rw [ex] at z; cases z; exact q⟩
  · rintro (⟨m1, m2, m3⟩ | ⟨m1, m2, m3⟩)
    · refine ⟨m1, m2, fun m z => ?_⟩
      have z' : hiMax x.hi y.hi = some m := z
      cases ex : x.hi with
      | none =>
        rw [ex] at z'
        cases z'
      | some a =>
        cases ey : y.hi with
        | none =>
          rw [ex, ey] at z'
          cases z'
        | some b =>
          rw [ex, ey] at z'
          have z2 : max a b = m := Option.some.inj z'
          have := m3 a ex
          omega
    · refine ⟨by show t % p = x.r; rw [m1, e], fun l z => ?_, fun m z => ?_⟩
      · have z' : x.lo = some l := z
        rw [z'] at lo
        cases ey : y.lo with
        | none =>
          rw [ey] at lo
          exact lo.elim
        | some b =>
          rw [ey] at lo
          have := m2 b ey
          have q : l ≤ b := lo
          omega
      · have z' : hiMax x.hi y.hi = some m := z
        cases ex : x.hi with
        | none =>
          rw [ex] at z'
          cases z'
        | some a =>
          cases ey : y.hi with
          | none =>
            rw [ex, ey] at z'
            cases z'
          | some b =>
            rw [ex, ey] at z'
            have z2 : max a b = m := Option.some.inj z'
            have := m3 b ey
            omega
/-- the next run meets or touches the last one -/
theorem Grow.merge {pre done : List Run} {x y : Run} (h : Grow p r (pre ++ [x]) done) (gy : Good p y) (ey : y.r = r) (lo : loLe x.lo y.lo) (g : goesOn p x y = true) : Grow p r (pre ++ [Rn.merge x y]) (done ++ [y]) := by
  obtain ⟨gx, ex⟩ := h.good x (List.mem_append_right _ (List.mem_singleton.mpr rfl))
  have e : x.r = y.r := by omega
  refine ⟨fun z hz => ?_, ?_, fun t => ?_⟩
  · rcases List.mem_append.mp hz with hz | hz
    · exact h.good z (List.mem_append_left _ hz)
    · rw [List.mem_singleton] at hz
      subst hz
      exact ⟨merge_good gx gy e, ex⟩
  · have hpw := List.pairwise_append.mp h.pw
    refine List.pairwise_append.mpr ⟨hpw.1, List.pairwise_singleton _ _, fun a ha b hb => ?_⟩
    rw [List.mem_singleton] at hb
    subst hb
    exact hpw.2.2 a ha x (List.mem_singleton.mpr rfl)
  · have m := h.mem t
    rw [inRuns_append, inRuns_one] at m
    rw [inRuns_append, inRuns_one, inRuns_append, inRuns_one, merge_mem gx gy e lo g, ← m]
    constructor
    · rintro (q | q | q)
      · exact .inl (.inl q)
      · exact .inl (.inr q)
      · exact .inr q
    · rintro ((q | q) | q)
      · exact .inl q
      · exact .inr (.inl q)
      · exact .inr (.inr q)
/-- .. or comes behind a gap -/
theorem Grow.next {found done : List Run} {y : Run} (h : Grow p r found done) (gy : Good p y) (ey : y.r = r) (g : ∀ x pre, found = pre ++ [x] → goesOn p x y = false) : Grow p r (found ++ [y]) (done ++ [y]) := by
  refine ⟨fun z hz => ?_, ?_, fun t => ?_⟩
  · rcases List.mem_append.mp hz with hz | hz
    · exact h.good z hz
    · rw [List.mem_singleton] at hz
      subst hz
      exact ⟨gy, ey⟩
  · refine List.pairwise_append.mpr ⟨h.pw, List.pairwise_singleton _ _, fun a ha b hb => ?_⟩
    rw [List.mem_singleton] at hb
    subst hb
    rcases List.eq_nil_or_concat found with e | ⟨pre, x, e⟩
    · rw [e] at ha
      cases ha
    · rw [List.concat_eq_append] at e
      have gf := g x pre e
      subst e
      obtain ⟨gx, ex⟩ := h.good x (List.mem_append_right _ (List.mem_singleton.mpr rfl))
      unfold goesOn at gf
      cases exh : x.hi with
      | none =>
        rw [exh] at gf
        cases gf
      | some hx =>
        cases eyl : b.lo with
        | none =>
          rw [exh, eyl] at gf
          cases gf
        | some l =>
          rw [exh, eyl] at gf
          have q : ¬ l ≤ hx + p := of_decide_eq_false gf
          have xb : Lt p x b := .inr ⟨by omega, hx, l, exh, eyl, by omega⟩
          rcases List.mem_append.mp ha with ha | ha
          · have ax := (List.pairwise_append.mp h.pw).2.2 a ha x (List.mem_singleton.mpr rfl)
            obtain ⟨ga, ea⟩ := h.good a (List.mem_append_left _ ha)
            rcases ax with z | ⟨_, h1, l1, e1, e2, z⟩
            · omega
            · have := gx.le l1 hx e2 exh
              have hp : 0 < p := by have := gx.r0; have := gx.r1; omega
              exact .inr ⟨by omega, h1, l, e1, eyl, by omega⟩
          · rw [List.mem_singleton] at ha
            subst ha
            exact xb
  · rw [inRuns_append, inRuns_append, h.mem t]
/-- lists of runs of ascending residues, one behind the other -/
theorem canon_join : ∀ {ps : List (Int × List Run)}, (ps.map (·.1)).Pairwise (· < ·) → (∀ q ∈ ps, Canon p q.2 ∧ ∀ z ∈ q.2, z.r = q.1) → Canon p (ps.flatMap (·.2))
  | [], _, _ => ⟨(fun _ h => nomatch h), List.Pairwise.nil⟩
  | q :: ps, h, c => by
    rw [List.map_cons, List.pairwise_cons] at h
    have ih := canon_join h.2 fun q' hq => c q' (List.mem_cons_of_mem _ hq)
    obtain ⟨cq, rq⟩ := c q List.mem_cons_self
    rw [List.flatMap_cons]
    refine ⟨fun z hz => ?_, List.pairwise_append.mpr ⟨cq.pw, ih.pw, fun a ha b hb => ?_⟩⟩
    · rcases List.mem_append.mp hz with hz | hz
      · exact cq.good z hz
      · exact ih.good z hz
    · obtain ⟨q', hq', hb⟩ := List.mem_flatMap.mp hb
      have e1 := rq a ha
      have e2 := (c q' (List.mem_cons_of_mem _ hq')).2 b hb
      have := h.1 q'.1 (List.mem_map_of_mem hq')
      exact .inl (by omega)
theorem Grow.canon {found done : List Run} (h : Grow p r found done) : Canon p found := ⟨fun z hz => (h.good z hz).1, h.pw⟩
/-! ### the runs of spans -/
def residues (p : Int) (s : Sp3) : List Int := match s.res with
  | none => (List.range p.toNat).map fun (i : Nat) => (i : Int)
  | some r => [r]
def foundOf (p : Int) (s : Sp3) : List Run := (residues p s).filterMap fun one => runOf p one s.lo s.hi
/-- a span by p -/
def SpOk (p : Int) (s : Sp3) : Prop := ∀ r, s.res = some r → 0 ≤ r ∧ r < p
theorem residues_ok (hp : 0 < p) {s : Sp3} (h : SpOk p s) : ∀ one ∈ residues p s, 0 ≤ one ∧ one < p := by
  intro one h1
  unfold residues at h1
  cases e : s.res with
  | none =>
    rw [e] at h1
    obtain ⟨i, hi, rfl⟩ := List.mem_map.mp h1
    have := List.mem_range.mp hi
    omega
  | some r' =>
    rw [e] at h1
    rw [List.mem_singleton] at h1
    subst h1
    exact h _ e
theorem foundOf_good (hp : 0 < p) {s : Sp3} (h : SpOk p s) : ∀ z ∈ foundOf p s, Good p z := by
  intro z hz
  obtain ⟨one, h1, h2⟩ := List.mem_filterMap.mp hz
  obtain ⟨o0, o1⟩ := residues_ok hp h one h1
  exact (runOf_some o0 o1 h2).1
theorem foundOf_mem (hp : 0 < p) {s : Sp3} (h : SpOk p s) (t : Int) : inRuns p (foundOf p s) t ↔ inSpan p s t := by
  constructor
  · rintro ⟨z, hz, m⟩
    obtain ⟨one, h1, h2⟩ := List.mem_filterMap.mp hz
    obtain ⟨o0, o1⟩ := residues_ok hp h one h1
    have m' := ((runOf_some o0 o1 h2).2.2 t).mp m
    refine ⟨fun r' er => ?_, m'.2.1, m'.2.2⟩
    unfold residues at h1
    rw [er] at h1
    rw [List.mem_singleton] at h1
    rw [m'.1, h1]
  · rintro ⟨m1, m2, m3⟩
    have key : t % p ∈ residues p s := by
      unfold residues
      cases e : s.res with
      | none =>
        have h0 := Int.emod_nonneg t (Int.ne_of_gt hp)
        have h1 := Int.emod_lt_of_pos t hp
        exact List.mem_map.mpr ⟨(t % p).toNat, List.mem_range.mpr (by omega), by omega⟩
      | some r' => exact List.mem_singleton.mpr (m1 r' e)
    obtain ⟨o0, o1⟩ := residues_ok hp h _ key
    cases e : runOf p (t % p) s.lo s.hi with
    | none => exact (runOf_none o0 o1 e t ⟨rfl, m2, m3⟩).elim
    | some x => exact ⟨x, List.mem_filterMap.mpr ⟨_, key, e⟩, ((runOf_some o0 o1 e).2.2 t).mpr ⟨rfl, m2, m3⟩⟩
theorem found_all (hp : 0 < p) {ss : List Sp3} (h : ∀ s ∈ ss, SpOk p s) : (∀ z ∈ ss.flatMap (foundOf p), Good p z) ∧ ∀ t, inRuns p (ss.flatMap (foundOf p)) t ↔ inSpans p ss t := by
  refine ⟨fun z hz => ?_, fun t => ?_⟩
  · obtain ⟨s, hs, hz⟩ := List.mem_flatMap.mp hz
    exact foundOf_good hp (h s hs) z hz
  · constructor
    · rintro ⟨z, hz, m⟩
      obtain ⟨s, hs, hz⟩ := List.mem_flatMap.mp hz
      exact ⟨s, hs, (foundOf_mem hp (h s hs) t).mp ⟨z, hz, m⟩⟩
    · rintro ⟨s, hs, m⟩
      obtain ⟨z, hz, m⟩ := (foundOf_mem hp (h s hs) t).mpr m
      exact ⟨z, List.mem_flatMap.mpr ⟨s, hs, hz⟩, m⟩
end
end Rn
end

section
set_option maxHeartbeats 4000000
namespace EW
open PySem PySem.Spec PyProof.Rows L2
/-! ### spans and runs as values -/
def ob : Option Int → V
  | none => .non
  | some i => .int i
/-- a tuple of these -/
def Tp (K : W.Frag) (H : Hp) (v : V) (xs : List V) : Prop := ∃ a, v = .ref a ∧ SqT K H a xs
abbrev Sn (K : W.Frag) (H : Hp) (v : V) (s : Rn.Sp3) : Prop := Tp K H v [ob s.res, ob s.lo, ob s.hi]
abbrev Sns (K : W.Frag) (H : Hp) (vs : List V) (ss : List Rn.Sp3) : Prop := Paired (Sn K H) vs ss
abbrev Rns (K : W.Frag) (H : Hp) (vs : List V) (zs : List Rn.Run) : Prop := Paired (fun v z => Sn K H v z.span) vs zs
section
variable {K : W.Frag} {H H' : Hp} {v : V} {xs vs : List V} {a l : Addr}
theorem Tp.of (h : H a = some (.tup xs)) : Tp K H (.ref a) xs := ⟨a, rfl, SqT.of h⟩
theorem SqT.stay (h : SqT K H a xs) (t : ∀ b ys, H b = some (.tup ys) → H' b = some (.tup ys)) (f : ∀ b o u, H b = some (.frz o u) → H' b = some (.frz o u)) : SqT K H' a xs := by
  rcases h with (h | ⟨o, h⟩) | h
  · exact .inl (.inl (t _ _ h))
  · exact .inl (.inr ⟨o, f _ _ _ h⟩)
  · exact .inr h
theorem SqT.same (h : SqT K H a xs) (s : Same H H') : SqT K H' a xs := SqT.stay h (fun b ys e => s b _ e) fun b o u e => s b _ e
/-- all but lists stands -/
theorem SqT.kept {ys : List V} (h : SqT K H a xs) (hl : H l = some (.lst ys)) (k : Kept l H H') : SqT K H' a xs :=
  SqT.stay h (fun b zs e => k b _ (fun z => by rw [z, hl] at e; cases e) e) fun b o u e => k b _ (fun z => by rw [z, hl] at e; cases e) e
theorem Tp.same (h : Tp K H v xs) (s : Same H H') : Tp K H' v xs := let ⟨a, e, q⟩ := h; ⟨a, e, SqT.same q s⟩
theorem Tp.kept {ys : List V} (h : Tp K H v xs) (hl : H l = some (.lst ys)) (k : Kept l H H') : Tp K H' v xs := let ⟨a, e, q⟩ := h; ⟨a, e, SqT.kept q hl k⟩
theorem Sns.same {ss : List Rn.Sp3} (h : Sns K H vs ss) (s : Same H H') : Sns K H' vs ss := Paired.mono (fun _ _ q => Tp.same q s) h
theorem Sns.kept {ss : List Rn.Sp3} {ys : List V} (h : Sns K H vs ss) (hl : H l = some (.lst ys)) (k : Kept l H H') : Sns K H' vs ss := Paired.mono (fun _ _ q => Tp.kept q hl k) h
theorem Rns.same {zs : List Rn.Run} (h : Rns K H vs zs) (s : Same H H') : Rns K H' vs zs := Paired.mono (fun _ _ q => Tp.same q s) h
theorem Rns.kept {zs : List Rn.Run} {ys : List V} (h : Rns K H vs zs) (hl : H l = some (.lst ys)) (k : Kept l H H') : Rns K H' vs zs := Paired.mono (fun _ _ q => Tp.kept q hl k) h
theorem Rns.spans : ∀ {vs : List V} {zs : List Rn.Run}, Rns K H vs zs → Sns K H vs (zs.map Rn.Run.span)
  | _, _, .nil => .nil
  | _, _, .cons h t => .cons h (Rns.spans t)
theorem pr_append {α β : Type} {F : α → β → Prop} : ∀ {a c : List α} {b d : List β}, Paired F a b → Paired F c d → Paired F (a ++ c) (b ++ d)
  | _, _, _, _, .nil, r => r
  | _, _, _, _, .cons h t, r => .cons h (pr_append t r)
theorem pr_get {α β : Type} {F : α → β → Prop} : ∀ {a : List α} {b : List β} {i : Nat} {x : α}, Paired F a b → a[i]? = some x → ∃ y, b[i]? = some y ∧ F x y
  | _, _, _, _, .nil, e => by simp at e
  | _, _, 0, _, .cons h t, e => by
    simp at e
    subst e
    exact ⟨_, rfl, h⟩
  | _, _, i + 1, x, .cons h t, e => by
    obtain ⟨y, h1, h2⟩ := pr_get (i := i) (x := x) t (by simpa using e)
    exact ⟨y, by simpa using h1, h2⟩
theorem pr_take {α β : Type} {F : α → β → Prop} : ∀ {a : List α} {b : List β} (i : Nat), Paired F a b → Paired F (a.take i) (b.take i)
  | _, _, 0, _ => by
    rw [List.take_zero, List.take_zero]
    exact .nil
  | _, _, _ + 1, .nil => by
    rw [List.take_nil, List.take_nil]
    exact .nil
  | _, _, i + 1, .cons h t => by
    rw [List.take_succ_cons, List.take_succ_cons]
    exact .cons h (pr_take i t)
/-- a list or a tuple -/
def Sq (K : W.Frag) (H : Hp) (a : Addr) (xs : List V) : Prop := SqL K H a xs ∨ SqT K H a xs
theorem Sq.same (h : Sq K H a xs) (s : Same H H') : Sq K H' a xs := h.elim (fun h => .inl (s.seq h)) fun h => .inr (SqT.same h s)
end
/-! ### readings by either of two rules -/
section
variable {X : Cx} {K : W.Frag}
def iSeq (K : W.Frag) (tl : TE) : TI := fun σ H R => iList K tl σ H R ∨ iTup K tl σ H R
theorem pi_seq {tg l : Expr} {tl : TE} (hl : PE X l tl) : PI X tg l (iSeq X.K tl) := ⟨fun pins s σ H R I h => h.elim ((pi_list hl).run pins s σ H R I) ((pi_tup hl).run pins s σ H R I)⟩
theorem pi_seqK (h : X.K = K) {tg l : Expr} {tl : TE} (hl : PE X l tl) : PI X tg l (iSeq K tl) := by
  subst h
  exact pi_seq hl
theorem pi_listK (h : X.K = K) {tg l : Expr} {tl : TE} (hl : PE X l tl) : PI X tg l (iList K tl) := by
  subst h
  exact pi_list hl
theorem pi_tupK (h : X.K = K) {tg l : Expr} {tl : TE} (hl : PE X l tl) : PI X tg l (iTup K tl) := by
  subst h
  exact pi_tup hl
theorem call_isiE (K : W.Frag) (h : X.K = K) : CallR X (.builtin "isinstance") (rIsi K) := by
  subst h
  exact call_isi
theorem ix_tupK (K : W.Frag) (h : X.K = K) : IxR X (rIxT K) := by
  subst h
  exact ix_tup
theorem cr_anyK (K : W.Frag) (h : X.K = K) (hc : X.calm = true) : CallR X (.builtin "any") (rAny K) := by
  subst h
  exact cr_any hc
theorem cr_allK (K : W.Frag) (h : X.K = K) (hc : X.calm = true) : CallR X (.builtin "all") (rAll K) := by
  subst h
  exact cr_all hc
/-- tuple(l), sealed -/
theorem call_tupS (K : W.Frag) (h : X.K = K) : CallR X (.type "tuple") (fun xs H Q => ∃ p ys, xs = [.ref p] ∧ SqL K H p ys ∧ New H (fun _ => .tup ys) Q) := by
  subst h
  intro pins s σ H xs us Q I r h
  obtain ⟨p, ys, e, hq, q⟩ := h
  exact call_tuple_of pins s σ H xs us Q I r ⟨p, ys, e, .inl ⟨hq, fun l hl => q.at hl⟩⟩
end
theorem boot_any : bootBuiltins "any" = some (.builtin "any") := by decide +kernel
theorem boot_all : bootBuiltins "all" = some (.builtin "all") := by decide +kernel
theorem boot_sorted : bootBuiltins "sorted" = some (.builtin "sorted") := by decide +kernel
theorem boot_bool : bootBuiltins "bool" = some (.type "bool") := by decide +kernel
theorem boot_tuple : bootBuiltins "tuple" = some (.type "tuple") := by decide +kernel
theorem boot_set : bootBuiltins "set" = some (.type "set") := by decide +kernel
end EW
end

section
set_option maxHeartbeats 4000000
namespace EW
open PySem PySem.Spec PyProof.Rows L2
/-! ### runs as data -/
def od : Option Int → PyData
  | none => .none
  | some i => .int i
def runD (z : Rn.Run) : PyData := .tuple [.int z.r, od z.lo, od z.hi]
theorem od_dp {K : W.Frag} {H : Hp} (o : Option Int) : Dp K H (ob o) (od o) := by
  cases o with
  | none => exact .non
  | some i => exact .int i
theorem run_dp {K : W.Frag} {H : Hp} {v : V} {z : Rn.Run} (h : Sn K H v z.span) : Dp K H v (runD z) := by
  obtain ⟨a, rfl, q⟩ := h
  exact .tup q (.cons (.int z.r) (.cons (od_dp _) (.cons (od_dp _) .nil)))
theorem runs_dp {K : W.Frag} {H : Hp} : ∀ {vs : List V} {zs : List Rn.Run}, Rns K H vs zs → DpAll K H vs (zs.map runD)
  | _, _, .nil => .nil
  | _, _, .cons h t => .cons (run_dp h) (runs_dp t)
theorem od_lay (o : Option Int) : (od o).canLay0 = true := by cases o <;> rfl
theorem od_depth (o : Option Int) : (od o).depth = 0 := by cases o <;> simp [od, PyData.depth]
theorem run_lay (z : Rn.Run) : (runD z).canLay0 = true := by simp [runD, PyData.canLay0, PyData.canLayAll0, od_lay]
theorem runs_lay : ∀ zs : List Rn.Run, PyData.canLayAll0 (zs.map runD) = true
  | [] => by simp [PyData.canLayAll0]
  | z :: zs => by simp [PyData.canLayAll0, run_lay, runs_lay zs]
theorem run_depth (z : Rn.Run) : (runD z).depth = 1 := by simp [runD, PyData.depth, PyData.depthAll, od_depth]
theorem runs_depth : ∀ zs : List Rn.Run, PyData.depthAll (zs.map runD) ≤ 1
  | [] => by simp [PyData.depthAll]
  | z :: zs => by
    have h := runs_depth zs
    simp [PyData.depthAll, run_depth]
    omega
theorem shaped_list (zs : List Rn.Run) : SeqAt.shaped (.list (zs.map runD)) = true := by
  have h := runs_depth zs
  simp [SeqAt.shaped, PyData.canLay0, PyData.depth, runs_lay]
  omega
theorem shaped_tuple (zs : List Rn.Run) : SeqAt.shaped (.tuple (zs.map runD)) = true := by
  have h := runs_depth zs
  simp [SeqAt.shaped, PyData.canLay0, PyData.depth, runs_lay]
  omega
theorem od_eqv (a b : Option Int) : PyData.eqv (od a) (od b) = decide (a = b) := by
  cases a <;> cases b <;> simp [od, PyData.eqv]
  rfl
theorem run_eqv (x y : Rn.Run) : PyData.eqv (runD x) (runD y) = decide (x = y) := by
  obtain ⟨a, b, c⟩ := x
  obtain ⟨d, e, f⟩ := y
  simp only [runD, PyData.eqv, PyData.eqvAll, od_eqv, Bool.and_true]
  by_cases h : (⟨a, b, c⟩ : Rn.Run) = ⟨d, e, f⟩
  · rw [decide_eq_true h]
    injection h with h1 h2 h3
    simp [h1, h2, h3]
  · rw [decide_eq_false h]
    by_cases h1 : a = d
    · by_cases h2 : b = e
      · have h3 : c ≠ f := fun z => h (by rw [h1, h2, z])
        simp [h1, h2, h3]
      · simp [h2]
    · simp [h1]
theorem runs_eqv : ∀ xs ys : List Rn.Run, PyData.eqvAll (xs.map runD) (ys.map runD) = decide (xs = ys)
  | [], [] => by simp [PyData.eqvAll]
  | [], y :: ys => by simp [PyData.eqvAll]
  | x :: xs, [] => by simp [PyData.eqvAll]
  | x :: xs, y :: ys => by
    rw [List.map_cons, List.map_cons, PyData.eqvAll, run_eqv, runs_eqv xs ys]
    by_cases h1 : x = y
    · by_cases h2 : xs = ys
      · simp [h1, h2]
      · simp [h1, h2]
    · simp [h1]
theorem list_eqv (xs ys : List Rn.Run) : PyData.eqv (.list (xs.map runD)) (.list (ys.map runD)) = decide (xs = ys) := by
  rw [PyData.eqv]
  exact runs_eqv xs ys
theorem tuple_eqv (xs ys : List Rn.Run) : PyData.eqv (.tuple (xs.map runD)) (.tuple (ys.map runD)) = decide (xs = ys) := by
  rw [PyData.eqv]
  exact runs_eqv xs ys
end EW
end

section
set_option maxHeartbeats 4000000
namespace EW
open PySem PySem.Spec PyProof.Rows L2
/-! ### what is in order stays as it stands -/
theorem perm_sorted {α : Type} {lt : α → α → Bool} : ∀ {m l : List α}, l.Perm m → l.Pairwise (fun x y => lt y x = false) → m.Pairwise (fun x y => lt x y = true) → l = m
  | [], l, hp, _, _ => hp.eq_nil
  | b :: m, [], hp, _, _ => by
    have := hp.length_eq
    simp at this
  | b :: m, a :: l, hp, h1, h2 => by
    obtain ⟨h3, h4⟩ := List.pairwise_cons.mp h1
    obtain ⟨h5, h6⟩ := List.pairwise_cons.mp h2
    have e : a = b := by
      rcases List.mem_cons.mp (hp.mem_iff.mp List.mem_cons_self) with e | e
      · exact e
      · rcases List.mem_cons.mp (hp.mem_iff.mpr List.mem_cons_self) with e' | e'
        · exact e'.symm
        · have q1 := h5 a e
          have q2 := h3 b e'
          rw [q1] at q2
          cases q2
    subst e
    rw [perm_sorted (List.perm_cons a |>.mp hp) h4 h6]
theorem outD_id {xs ys : List V} {kz : List PyData} (hl : kz.length = xs.length) (h : (xs.zip (kz.map W.keyToks)).Pairwise fun x y => tkLt x.2 y.2 = true) (o : OutD xs kz ys) : ys = xs := by
  obtain ⟨ps, hp, hs, rfl⟩ := o
  rw [perm_sorted (lt := fun x y => tkLt x.2 y.2) hp hs h, List.map_fst_zip]
  rw [List.length_map]
  omega
theorem tk_cons (a b : Int) (r t : List PyData) : tkLt (W.keyToks (.tuple (.int a :: r))) (W.keyToks (.tuple (.int b :: t))) = (decide (a < b) || (decide (a = b) && tkLt (W.keyToks (.tuple r)) (W.keyToks (.tuple t)))) := by
  have e : ∀ (x : Int) (q : List PyData), W.keyToks (.tuple (.int x :: q)) = Sum.inl 1 :: Sum.inl x :: W.keyToks (.tuple q) := fun x q => by
    simp [W.keyToks, W.keyToksAll]
  rw [e, e]
  unfold tkLt
  rw [lex_self, lex_cons]
  show (decide (a < b) || (!decide (b < a) && _)) = _
  by_cases h1 : a < b
  · simp [h1]
  · by_cases h2 : a = b
    · subst h2
      simp
    · have h3 : b < a := by omega
      simp [h1, h2, h3]
/-- the key of a run: residue, whether it has a least time, that time -/
def keyD (z : Rn.Run) : PyData := .tuple [.int z.r, .int (if z.lo.isSome then 1 else 0), .int (z.lo.getD 0)]
theorem keyD_lt {p : Int} {x y : Rn.Run} (hp : 0 < p) (gx : Rn.Good p x) (h : Rn.Lt p x y) : tkLt (W.keyToks (keyD x)) (W.keyToks (keyD y)) = true := by
  unfold keyD
  rw [tk_cons, tk_cons, tk_cons]
  rcases h with h | ⟨h1, u, l, h2, h3, h4⟩
  · simp [h]
  · rw [h1, h3]
    cases e : x.lo with
    | none => simp
    | some m =>
      have q := gx.le m u e h2
      have q2 : m < l := by omega
      simp [q2]
theorem keyD_alike (zs : List Rn.Run) : W.AllAlike (zs.map keyD) := fun d hd e he => by
  obtain ⟨x, _, rfl⟩ := List.mem_map.mp hd
  obtain ⟨y, _, rfl⟩ := List.mem_map.mp he
  simp [keyD, W.alike, W.alikeAll]
theorem keyD_sortable (zs : List Rn.Run) : W.Sortable (zs.map keyD) := .inl fun d hd => by
  obtain ⟨x, _, rfl⟩ := List.mem_map.mp hd
  exact ⟨_, _, rfl⟩
theorem keyD_flat (zs : List Rn.Run) : ∀ d ∈ zs.map keyD, flatD d = true ∧ d.depth ≤ 8 := fun d hd => by
  obtain ⟨x, _, rfl⟩ := List.mem_map.mp hd
  simp [keyD, flatD, flatAll, PyData.depth, PyData.depthAll]
theorem keyD_sorted {p : Int} (hp : 0 < p) : ∀ {xs : List V} {zs : List Rn.Run}, Rn.Canon p zs → (xs.zip ((zs.map keyD).map W.keyToks)).Pairwise fun x y => tkLt x.2 y.2 = true
  | [], _, _ => by
    rw [List.zip_nil_left]
    exact .nil
  | x :: xs, [], _ => by
    simp
  | x :: xs, z :: zs, c => by
    rw [List.map_cons, List.map_cons, List.zip_cons_cons, List.pairwise_cons]
    refine ⟨fun q hq => ?_, keyD_sorted hp c.tail⟩
    have h := (List.of_mem_zip hq).2
    obtain ⟨d, hd, e⟩ := List.mem_map.mp h
    obtain ⟨y, hy, rfl⟩ := List.mem_map.mp hd
    rw [← e]
    exact keyD_lt hp c.head (c.lt y hy)
end EW
end

section

namespace Rn
variable {p : Int}
theorem join_mem {all : List Run} {gs : List (Int × List Run)} (hk : ∀ z ∈ all, z.r ∈ gs.map (·.1)) (hg : ∀ q ∈ gs, ∀ t, inRuns p q.2 t ↔ inRuns p (all.filter fun z => decide (z.r = q.1)) t) (t : Int) : inRuns p (gs.flatMap (·.2)) t ↔ inRuns p all t := by
  constructor
  · rintro ⟨z, hz, m⟩
    obtain ⟨q, hq, hz⟩ := List.mem_flatMap.mp hz
    obtain ⟨y, hy, m'⟩ := (hg q hq t).mp ⟨z, hz, m⟩
    exact ⟨y, (List.mem_filter.mp hy).1, m'⟩
  · rintro ⟨z, hz, m⟩
    obtain ⟨q, hq, e⟩ := List.mem_map.mp (hk z hz)
    obtain ⟨y, hy, m'⟩ := (hg q hq t).mpr ⟨z, List.mem_filter.mpr ⟨hz, decide_eq_true e.symm⟩, m⟩
    exact ⟨y, List.mem_flatMap.mpr ⟨q, hq, hy⟩, m'⟩
theorem len_parts (f : Run → Bool) : ∀ all : List Run, (all.filter f).length + (all.filter fun z => !f z).length = all.length
  | [] => rfl
  | z :: all => by
    have ih := len_parts f all
    rw [List.filter_cons, List.filter_cons]
    cases f z with
    | true =>
      simp
      omega
    | false =>
      simp
      omega
theorem join_len : ∀ {gs : List (Int × List Run)} {all : List Run}, (gs.map (·.1)).Nodup → (∀ q ∈ gs, q.2.length ≤ (all.filter fun z => decide (z.r = q.1)).length) → (gs.flatMap (·.2)).length ≤ all.length
  | [], _, _, _ => Nat.zero_le _
  | q :: gs, all, nd, h => by
    rw [List.map_cons, List.nodup_cons] at nd
    have h1 := h q List.mem_cons_self
    have ih := join_len (gs := gs) (all := all.filter fun z => !decide (z.r = q.1)) nd.2 fun q' hq' => by
      have h2 := h q' (List.mem_cons_of_mem _ hq')
      have ne : q'.1 ≠ q.1 := fun e => nd.1 (List.mem_map.mpr ⟨q', hq', e⟩)
      have e : (all.filter fun z => !decide (z.r = q.1)).filter (fun z => decide (z.r = q'.1)) = all.filter fun z => decide (z.r = q'.1) := by
        rw [List.filter_filter]
        refine List.filter_congr fun z _ => ?_
        by_cases c : z.r = q'.1
        · have c2 : z.r ≠ q.1 := fun x => ne (c.symm.trans x)
          simp [c, c2, ne]
        · simp [c]
      rw [e]
      exact h2
    have e2 : (all.filter fun z => decide (z.r = q.1)).length + (all.filter fun z => !decide (z.r = q.1)).length = all.length := by
      exact len_parts _ all
    rw [List.flatMap_cons, List.length_append]
    omega
theorem sorted_lt : ∀ {ns : List Int}, ns.Pairwise (· ≤ ·) → ns.Nodup → ns.Pairwise (· < ·)
  | [], _, _ => List.Pairwise.nil
  | n :: ns, h, nd => by
    rw [List.pairwise_cons] at h ⊢
    rw [List.nodup_cons] at nd
    refine ⟨fun m hm => ?_, sorted_lt h.2 nd.2⟩
    have h1 := h.1 m hm
    have h2 : n ≠ m := fun e => nd.1 (e ▸ hm)
    omega
end Rn
end

section

namespace Rn
variable {p r : Int}
/-- what lies between begin and a run's least time -/
def ahead (p r : Int) (b lo : Option Int) : List Sp3 := match lo with
  | none => []
  | some l => match b with
    | none => [⟨some r, none, some (l - p)⟩]
    | some c => if c < l then [⟨some r, some c, some (l - p)⟩] else []
/-- what lies between runs of one residue and behind them, from begin on -/
def outs (p r : Int) : Option Int → List Run → List Sp3
  | b, [] => [⟨some r, b, none⟩]
  | b, x :: xs => ahead p r b x.lo ++ match x.hi with
    | none => []
    | some h => outs p r (some (h + p)) xs
theorem ahead_res {b lo : Option Int} : ∀ s ∈ ahead p r b lo, s.res = some r := by
  intro s hs
  unfold ahead at hs
  cases lo with
  | none => cases hs
  | some l =>
    cases b with
    | none => exact (List.mem_singleton.mp hs) ▸ rfl
    | some c =>
      simp only at hs
      split at hs
      · exact (List.mem_singleton.mp hs) ▸ rfl
      · cases hs
theorem ahead_len {b lo : Option Int} : (ahead p r b lo).length ≤ 1 := by
  unfold ahead
  split
  · exact Nat.zero_le _
  · split
    · exact Nat.le_refl _
    · split
      · exact Nat.le_refl _
      · exact Nat.zero_le _
theorem outs_res : ∀ {xs : List Run} {b : Option Int}, ∀ s ∈ outs p r b xs, s.res = some r
  | [], b => fun s hs => by rw [outs, List.mem_singleton] at hs; rw [hs]
  | x :: xs, b => fun s hs => by
    rw [outs] at hs
    rcases List.mem_append.mp hs with hs | hs
    · exact ahead_res s hs
    · cases hh : x.hi with
      | none => rw [hh] at hs; cases hs
      | some h =>
        rw [hh] at hs
        exact outs_res s hs
theorem outs_len : ∀ {xs : List Run} {b : Option Int}, (outs p r b xs).length ≤ xs.length + 1
  | [], b => by rw [outs]; exact Nat.le_refl _
  | x :: xs, b => by
    rw [outs, List.length_append, List.length_cons]
    have h1 := ahead_len (p := p) (r := r) (b := b) (lo := x.lo)
    have h2 : (match x.hi with
      | none => ([] : List Sp3)
      | some h => outs p r (some (h + p)) xs).length ≤ xs.length + 1 := by
      split
      · exact Nat.zero_le _
      · exact outs_len
    omega
/-- begin fits the runs that follow -/
def Fits (p r : Int) (b : Option Int) (xs : List Run) : Prop := ∀ c, b = some c → c % p = r ∧ ∀ x ∈ xs, ∃ l, x.lo = some l ∧ c < l
theorem outs_mem (hp : 0 < p) (r0 : 0 ≤ r) (r1 : r < p) : ∀ {xs : List Run} {b : Option Int}, Canon p xs → (∀ x ∈ xs, x.r = r) → Fits p r b xs → ∀ t, t % p = r → (inSpans p (outs p r b xs) t ↔ geLo b t ∧ ¬ inRuns p xs t)
  | [], b, c, hr, hf, t, ht => by
    rw [outs]
    constructor
    · rintro ⟨s, hs, h1, h2, h3⟩
      rw [List.mem_singleton] at hs
      subst hs
      exact ⟨h2, fun ⟨x, hx, _⟩ => nomatch hx⟩
    · rintro ⟨h1, _⟩
      exact ⟨_, List.mem_singleton.mpr rfl, fun q e => by cases e; exact ht, h1, fun m e => nomatch e⟩
  | x :: xs, b, c, hr, hf, t, ht => by
    have gx := c.head
    have xr : x.r = r := hr x List.mem_cons_self
    have inx : inRun p x t ↔ geLo x.lo t ∧ leHi x.hi t := ⟨fun h => h.2, fun h => ⟨ht.trans xr.symm, h⟩⟩
    have tl : inRuns p (x :: xs) t ↔ inRun p x t ∨ inRuns p xs t := by
      constructor
      · rintro ⟨y, hy, m⟩
        rcases List.mem_cons.mp hy with rfl | hy
        · exact .inl m
        · exact .inr ⟨y, hy, m⟩
      · rintro (m | ⟨y, hy, m⟩)
        · exact ⟨x, List.mem_cons_self, m⟩
        · exact ⟨y, List.mem_cons_of_mem _ hy, m⟩
    rw [outs]
    -- the part ahead of x
    have hA : inSpans p (ahead p r b x.lo) t ↔ geLo b t ∧ ∃ l, x.lo = some l ∧ t < l := by
      unfold ahead
      cases hl : x.lo with
      | none =>
        constructor
        · rintro ⟨s, hs, _⟩
          cases hs
        · rintro ⟨_, l, e, _⟩
          cases e
      | some l =>
        have lm : l % p = t % p := (gx.lo l hl).trans (xr.trans ht.symm)
        have key : t ≤ l - p ↔ t < l := by
          constructor
          · intro h
            omega
          · intro h
            have := step_of hp lm.symm h
            omega
        cases b with
        | none =>
          constructor
          · rintro ⟨s, hs, h1, h2, h3⟩
            rw [List.mem_singleton] at hs
            subst hs
            exact ⟨h2, l, rfl, key.mp (h3 _ rfl)⟩
          · rintro ⟨h1, l', e, h2⟩
            cases e
            exact ⟨_, List.mem_singleton.mpr rfl, fun q e => by cases e; exact ht, h1, fun m e => by cases e; exact key.mpr h2⟩
        | some d =>
          obtain ⟨l', e, hlt⟩ := (hf d rfl).2 x List.mem_cons_self
          rw [hl] at e
          cases e
          simp only
          rw [if_pos hlt]
          constructor
          · rintro ⟨s, hs, h1, h2, h3⟩
            rw [List.mem_singleton] at hs
            subst hs
            exact ⟨h2, l, rfl, key.mp (h3 _ rfl)⟩
          · rintro ⟨h1, l', e, h2⟩
            cases e
            exact ⟨_, List.mem_singleton.mpr rfl, fun q e => by cases e; exact ht, h1, fun m e => by cases e; exact key.mpr h2⟩
    have app : ∀ {as bs : List Sp3}, inSpans p (as ++ bs) t ↔ inSpans p as t ∨ inSpans p bs t := by
      intro as bs
      constructor
      · rintro ⟨s, hs, m⟩
        rcases List.mem_append.mp hs with hs | hs
        · exact .inl ⟨s, hs, m⟩
        · exact .inr ⟨s, hs, m⟩
      · rintro (⟨s, hs, m⟩ | ⟨s, hs, m⟩)
        · exact ⟨s, List.mem_append_left _ hs, m⟩
        · exact ⟨s, List.mem_append_right _ hs, m⟩
    rw [app, hA, tl, inx]
    -- begin lies at or ahead of x
    have bx : ∀ l, x.lo = some l → l ≤ t → geLo b t := fun l hl h d e => by
      obtain ⟨l', e', hlt⟩ := (hf d e).2 x List.mem_cons_self
      rw [hl] at e'
      cases e'
      omega
    have bn : x.lo = none → b = none := fun hl => by
      cases b with
      | none => rfl
      | some d =>
        obtain ⟨l', e', _⟩ := (hf d rfl).2 x List.mem_cons_self
        rw [hl] at e'
        cases e'
    have notx : ¬ geLo x.lo t ↔ ∃ l, x.lo = some l ∧ t < l := by
      constructor
      · intro h
        cases hl : x.lo with
        | none => exact absurd (fun l e => by rw [hl] at e; cases e) h
        | some l =>
          rcases Int.lt_or_le t l with z | z
          · exact ⟨l, rfl, z⟩
          · exact absurd (fun l' e => by rw [hl] at e; cases e; exact z) h
      · rintro ⟨l, hl, h⟩ g
        have := g l hl
        omega
    cases hh : x.hi with
    | none =>
      have e0 : inSpans p ([] : List Sp3) t ↔ False := ⟨(fun ⟨s, hs, _⟩ => nomatch hs), False.elim⟩
      have nxs : inRuns p xs t → False := fun ⟨y, hy, m⟩ => later_none c hy m (ht.trans xr.symm) hh
      simp only
      rw [e0]
      constructor
      · rintro (⟨h1, l, hl, h2⟩ | h)
        · refine ⟨h1, ?_⟩
          rintro (⟨g, _⟩ | h)
          · have := g l hl
            omega
          · exact nxs h
        · exact h.elim
      · rintro ⟨h1, h2⟩
        refine .inl ⟨h1, notx.mp fun g => h2 (.inl ⟨g, fun m e => nomatch e⟩)⟩
    | some h =>
      have hm : h % p = r := (gx.hi h hh).trans xr
      have hf' : Fits p r (some (h + p)) xs := fun d e => by
        cases e
        refine ⟨by rw [Int.add_emod_right]; exact hm, fun y hy => ?_⟩
        rcases c.lt y hy with z | ⟨_, h', l, e1, e2, e3⟩
        · have := hr y (List.mem_cons_of_mem _ hy)
          omega
        · rw [hh] at e1
          cases e1
          exact ⟨l, e2, e3⟩
      have ih := outs_mem hp r0 r1 c.tail (fun y hy => hr y (List.mem_cons_of_mem _ hy)) hf' t ht
      simp only
      rw [ih]
      have key : h + p ≤ t ↔ h < t := by
        constructor
        · intro z
          omega
        · intro z
          exact step_of hp (hm.trans ht.symm) z
      have gl : geLo (some (h + p)) t ↔ h < t := by
        constructor
        · intro g
          exact key.mp (g _ rfl)
        · intro z d e
          cases e
          exact key.mpr z
      rw [gl]
      have le : leHi (some h) t ↔ t ≤ h := ⟨fun g => g _ rfl, fun z d e => by cases e; exact z⟩
      rw [le]
      have late : inRuns p xs t → h < t := fun ⟨y, hy, m⟩ => by
        have := later c hy m (ht.trans xr.symm) hh
        omega
      have lolh : ∀ l, x.lo = some l → l ≤ h := fun l hl => gx.le l h hl hh
      constructor
      · rintro (⟨h1, l, hl, h2⟩ | ⟨h1, h2⟩)
        · refine ⟨h1, ?_⟩
          rintro (⟨g, _⟩ | z)
          · have := g l hl
            omega
          · have := late z
            have := lolh l hl
            omega
        · refine ⟨?_, ?_⟩
          · cases hl : x.lo with
            | none =>
              rw [bn hl]
              exact fun _ e => nomatch e
            | some l =>
              have := lolh l hl
              exact bx l hl (by omega)
          · rintro (⟨_, z⟩ | z)
            · omega
            · exact h2 z
      · rintro ⟨h1, h2⟩
        rcases Int.lt_or_le h t with z | z
        · exact .inr ⟨z, fun q => h2 (.inr q)⟩
        · exact .inl ⟨h1, notx.mp fun g => h2 (.inl ⟨g, z⟩)⟩
end Rn
end

section

namespace Rn
variable {p : Int}
theorem spans_runs {zs : List Run} {t : Int} : inSpans p (zs.map Run.span) t ↔ inRuns p zs t := by
  constructor
  · rintro ⟨s, hs, h1, h2, h3⟩
    obtain ⟨z, hz, rfl⟩ := List.mem_map.mp hs
    exact ⟨z, hz, h1 _ rfl, h2, h3⟩
  · rintro ⟨z, hz, h1, h2, h3⟩
    exact ⟨z.span, List.mem_map.mpr ⟨z, hz, rfl⟩, fun r e => by cases e; exact h1, h2, h3⟩
theorem spans_append {as bs : List Sp3} {t : Int} : inSpans p (as ++ bs) t ↔ inSpans p as t ∨ inSpans p bs t := by
  constructor
  · rintro ⟨s, hs, m⟩
    rcases List.mem_append.mp hs with hs | hs
    · exact .inl ⟨s, hs, m⟩
    · exact .inr ⟨s, hs, m⟩
  · rintro (⟨s, hs, m⟩ | ⟨s, hs, m⟩)
    · exact ⟨s, List.mem_append_left _ hs, m⟩
    · exact ⟨s, List.mem_append_right _ hs, m⟩
/-- spans with a residue make at most one run each -/
theorem found_le : ∀ {ss : List Sp3}, (∀ s ∈ ss, ∃ r, s.res = some r) → (ss.flatMap (foundOf p)).length ≤ ss.length
  | [], _ => Nat.zero_le _
  | s :: ss, h => by
    have h1 := found_le (ss := ss) fun s' hs' => h s' (List.mem_cons_of_mem _ hs')
    obtain ⟨r, hr⟩ := h s List.mem_cons_self
    have h2 : (foundOf p s).length ≤ 1 := by
      refine Nat.le_trans (List.length_filterMap_le _ _) ?_
      unfold residues
      rw [hr]
      exact Nat.le_refl _
    rw [List.flatMap_cons, List.length_append, List.length_cons]
    omega
theorem runs_res {zs : List Run} : ∀ s ∈ zs.map Run.span, ∃ r, s.res = some r := fun s hs => by
  obtain ⟨z, _, rfl⟩ := List.mem_map.mp hs
  exact ⟨z.r, rfl⟩
theorem runs_spok {zs : List Run} (h : ∀ z ∈ zs, Good p z) : ∀ s ∈ zs.map Run.span, SpOk p s := fun s hs => by
  obtain ⟨z, hz, rfl⟩ := List.mem_map.mp hs
  intro r e
  cases e
  exact ⟨(h z hz).r0, (h z hz).r1⟩
/-- the spans outside, residue by residue -/
def outAll (p : Int) (n : Nat) (zs : List Run) : List Sp3 := (List.range n).flatMap fun (k : Nat) => outs p (k : Int) none (zs.filter fun z => decide (z.r = (k : Int)))
theorem outAll_res {n : Nat} {zs : List Run} : ∀ s ∈ outAll p n zs, ∃ k : Nat, k < n ∧ s.res = some (k : Int) := fun s hs => by
  obtain ⟨k, hk, hs⟩ := List.mem_flatMap.mp hs
  exact ⟨k, List.mem_range.mp hk, outs_res s hs⟩
theorem outAll_succ {n : Nat} {zs : List Run} : outAll p (n + 1) zs = outAll p n zs ++ outs p (n : Int) none (zs.filter fun z => decide (z.r = (n : Int))) := by
  unfold outAll
  rw [List.range_succ, List.flatMap_append, List.flatMap_cons, List.flatMap_nil, List.append_nil]
theorem canon_filter {zs : List Run} (c : Canon p zs) (f : Run → Bool) : Canon p (zs.filter f) := ⟨fun z hz => c.good z (List.mem_filter.mp hz).1, List.Pairwise.sublist List.filter_sublist c.pw⟩
theorem outAll_len : ∀ {n : Nat} {zs : List Run}, (outAll p n zs).length ≤ (zs.filter fun z => decide (z.r < (n : Int) ∧ 0 ≤ z.r)).length + n
  | 0, zs => Nat.zero_le _
  | n + 1, zs => by
    have ih := outAll_len (n := n) (zs := zs)
    have h1 := outs_len (p := p) (r := (n : Int)) (xs := zs.filter fun z => decide (z.r = (n : Int))) (b := none)
    have h2 : (zs.filter fun z => decide (z.r < (n : Int) ∧ 0 ≤ z.r)).length + (zs.filter fun z => decide (z.r = (n : Int))).length ≤ (zs.filter fun z => decide (z.r < ((n + 1 : Nat) : Int) ∧ 0 ≤ z.r)).length := by
      clear ih h1
      induction zs with
      | nil => exact Nat.le_refl _
      | cons z zs ih =>
        simp only [List.filter_cons]
        by_cases c1 : z.r < (n : Int) ∧ 0 ≤ z.r
        · have c2 : ¬ z.r = (n : Int) := by omega
          have c3 : z.r < ((n + 1 : Nat) : Int) ∧ 0 ≤ z.r := by omega
          rw [if_pos (decide_eq_true c1), if_neg (by simpa using c2), if_pos (decide_eq_true c3)]
          simp only [List.length_cons]
          omega
        · by_cases c2 : z.r = (n : Int)
          · have c3 : z.r < ((n + 1 : Nat) : Int) ∧ 0 ≤ z.r := by omega
            rw [if_neg (by simpa using c1), if_pos (decide_eq_true c2), if_pos (decide_eq_true c3)]
            simp only [List.length_cons]
            omega
          · have c3 : ¬ (z.r < ((n + 1 : Nat) : Int) ∧ 0 ≤ z.r) := by omega
            rw [if_neg (by simpa using c1), if_neg (by simpa using c2), if_neg (by simpa using c3)]
            exact ih
    rw [outAll_succ, List.length_append]
    omega
theorem outAll_len' {n : Nat} {zs : List Run} : (outAll p n zs).length ≤ zs.length + n := Nat.le_trans outAll_len (Nat.add_le_add_right (List.length_filter_le _ _) _)
theorem outAll_mem (hp : 0 < p) {zs : List Run} (c : Canon p zs) (t : Int) : inSpans p (outAll p p.toNat zs) t ↔ ¬ inRuns p zs t := by
  have m0 := Int.emod_nonneg t (Int.ne_of_gt hp)
  have m1 := Int.emod_lt_of_pos t hp
  obtain ⟨k, hk⟩ : ∃ k : Nat, t % p = (k : Int) := ⟨(t % p).toNat, by omega⟩
  have hkn : k < p.toNat := by omega
  have key := outs_mem (p := p) (r := (k : Int)) hp (by omega) (by omega) (b := none) (canon_filter c fun z => decide (z.r = (k : Int))) (fun x hx => of_decide_eq_true (List.mem_filter.mp hx).2) (fun d e => by cases e) t hk
  have g0 : geLo none t := fun _ e => nomatch e
  have fl : inRuns p (zs.filter fun z => decide (z.r = (k : Int))) t ↔ inRuns p zs t := by
    constructor
    · rintro ⟨z, hz, m⟩
      exact ⟨z, (List.mem_filter.mp hz).1, m⟩
    · rintro ⟨z, hz, m⟩
      exact ⟨z, List.mem_filter.mpr ⟨hz, decide_eq_true (m.1.symm.trans hk)⟩, m⟩
  rw [fl] at key
  constructor
  · rintro ⟨s, hs, m⟩
    obtain ⟨j, hj, hs⟩ := List.mem_flatMap.mp hs
    have e := outs_res s hs
    have e2 := m.1 _ e
    have ejk : j = k := by omega
    subst ejk
    exact (key.mp ⟨s, hs, m⟩).2
  · intro h
    obtain ⟨s, hs, m⟩ := key.mpr ⟨g0, h⟩
    exact ⟨s, List.mem_flatMap.mpr ⟨k, List.mem_range.mpr hkn, hs⟩, m⟩
end Rn
end

section

namespace Rn
/-! ### written runs -/
def loB (p : Int) (x : Run) : Bool := match x.lo with
  | none => true
  | some l => decide (l % p = x.r)
def hiB (p : Int) (x : Run) : Bool := match x.hi with
  | none => true
  | some l => decide (l % p = x.r)
def lhB (x : Run) : Bool := match x.lo, x.hi with
  | some l, some m => decide (l ≤ m)
  | _, _ => true
def goodB (p : Int) (x : Run) : Bool := decide (0 ≤ x.r) && (decide (x.r < p) && (loB p x && (hiB p x && lhB x)))
theorem goodB_ok {p : Int} {x : Run} (h : goodB p x = true) : Good p x := by
  unfold goodB at h
  simp only [Bool.and_eq_true, decide_eq_true_eq] at h
  obtain ⟨h1, h2, h3, h4, h5⟩ := h
  refine ⟨h1, h2, fun l e => ?_, fun l e => ?_, fun l m e f => ?_⟩
  · unfold loB at h3
    rw [e] at h3
    exact of_decide_eq_true h3
  · unfold hiB at h4
    rw [e] at h4
    exact of_decide_eq_true h4
  · unfold lhB at h5
    rw [e, f] at h5
    exact of_decide_eq_true h5
def ltB (p : Int) (x y : Run) : Bool := decide (x.r < y.r) || (decide (x.r = y.r) && (match x.hi, y.lo with
  | some h, some l => decide (h + p < l)
  | _, _ => false))
theorem ltB_ok {p : Int} {x y : Run} (h : ltB p x y = true) : Lt p x y := by
  unfold ltB at h
  rw [Bool.or_eq_true, Bool.and_eq_true] at h
  rcases h with h | ⟨h1, h2⟩
  · exact .inl (of_decide_eq_true h)
  · refine .inr ⟨of_decide_eq_true h1, ?_⟩
    split at h2
    · rename_i a b e f
      exact ⟨a, b, e, f, of_decide_eq_true h2⟩
    · cases h2
def canonB (p : Int) : List Run → Bool
  | [] => true
  | x :: xs => goodB p x && (xs.all (ltB p x) && canonB p xs)
theorem canonB_ok {p : Int} : ∀ {xs : List Run}, canonB p xs = true → Canon p xs
  | [], _ => ⟨(fun _ h => nomatch h), .nil⟩
  | x :: xs, h => by
    unfold canonB at h
    rw [Bool.and_eq_true, Bool.and_eq_true] at h
    obtain ⟨h1, h2, h3⟩ := h
    have c := canonB_ok h3
    refine ⟨fun y hy => ?_, List.pairwise_cons.mpr ⟨fun y hy => ltB_ok (List.all_eq_true.mp h2 y hy), c.pw⟩⟩
    rcases List.mem_cons.mp hy with rfl | hy
    · exact goodB_ok h1
    · exact c.good y hy
section
variable {p t : Int}
theorem geN : geLo none t ↔ True := ⟨fun _ => trivial, fun _ _ h => nomatch h⟩
theorem geS {l : Int} : geLo (some l) t ↔ l ≤ t := ⟨fun h => h l rfl, fun h m e => by cases e; exact h⟩
theorem leN : leHi none t ↔ True := ⟨fun _ => trivial, fun _ _ h => nomatch h⟩
theorem leS {l : Int} : leHi (some l) t ↔ t ≤ l := ⟨fun h => h l rfl, fun h m e => by cases e; exact h⟩
theorem runs_nil : inRuns p [] t ↔ False := ⟨(fun ⟨_, h, _⟩ => nomatch h), False.elim⟩
theorem runs_cons {x : Run} {xs : List Run} : inRuns p (x :: xs) t ↔ inRun p x t ∨ inRuns p xs t := by
  constructor
  · rintro ⟨y, hy, h⟩
    rcases List.mem_cons.mp hy with rfl | hy
    · exact .inl h
    · exact .inr ⟨y, hy, h⟩
  · rintro (h | ⟨y, hy, h⟩)
    · exact ⟨x, List.mem_cons_self, h⟩
    · exact ⟨y, List.mem_cons_of_mem _ hy, h⟩
theorem spans_nil : inSpans p [] t ↔ False := ⟨(fun ⟨_, h, _⟩ => nomatch h), False.elim⟩
theorem spans_cons {x : Sp3} {xs : List Sp3} : inSpans p (x :: xs) t ↔ inSpan p x t ∨ inSpans p xs t := by
  constructor
  · rintro ⟨y, hy, h⟩
    rcases List.mem_cons.mp hy with rfl | hy
    · exact .inl h
    · exact .inr ⟨y, hy, h⟩
  · rintro (h | ⟨y, hy, h⟩)
    · exact ⟨x, List.mem_cons_self, h⟩
    · exact ⟨y, List.mem_cons_of_mem _ hy, h⟩
theorem run_mk {r : Int} {lo hi : Option Int} : inRun p ⟨r, lo, hi⟩ t ↔ t % p = r ∧ geLo lo t ∧ leHi hi t := Iff.rfl
theorem span_N {lo hi : Option Int} : inSpan p ⟨none, lo, hi⟩ t ↔ geLo lo t ∧ leHi hi t := ⟨fun h => h.2, fun h => ⟨(fun _ e => nomatch e), h⟩⟩
theorem span_S {r : Int} {lo hi : Option Int} : inSpan p ⟨some r, lo, hi⟩ t ↔ t % p = r ∧ geLo lo t ∧ leHi hi t := ⟨fun h => ⟨h.1 r rfl, h.2⟩, fun h => ⟨fun s e => by cases e; exact h.1, h.2⟩⟩
end
end Rn
end

section

namespace Rn
section
variable {p : Int}
/-- of two runs one comes ahead -/
theorem pw_cmp {α : Type} {R : α → α → Prop} : ∀ {xs : List α}, xs.Pairwise R → ∀ x ∈ xs, ∀ y ∈ xs, x = y ∨ R x y ∨ R y x
  | [], _, x, hx, _, _ => nomatch hx
  | z :: zs, h, x, hx, y, hy => by
    obtain ⟨h1, h2⟩ := List.pairwise_cons.mp h
    rcases List.mem_cons.mp hx with ex | hx'
    · rcases List.mem_cons.mp hy with ey | hy'
      · exact .inl (ex.trans ey.symm)
      · exact .inr (.inl (ex ▸ h1 y hy'))
    · rcases List.mem_cons.mp hy with ey | hy'
      · exact .inr (.inr (ey ▸ h1 x hx'))
      · exact pw_cmp h2 x hx' y hy'
theorem Canon.cmp {zs : List Run} (c : Canon p zs) {x y : Run} (hx : x ∈ zs) (hy : y ∈ zs) : x = y ∨ Lt p x y ∨ Lt p y x := pw_cmp c.pw x hx y hy
/-- a time is in one run at most -/
theorem Canon.one {zs : List Run} (hp : 0 < p) (c : Canon p zs) {x y : Run} {t : Int} (hx : x ∈ zs) (hy : y ∈ zs) (mx : inRun p x t) (my : inRun p y t) : x = y := by
  rcases c.cmp hx hy with h | h | h
  · exact h
  · exact (h.apart hp mx my).elim
  · exact (h.apart hp my mx).elim
/-- just ahead of a run there is no member -/
theorem Canon.below {zs : List Run} (hp : 0 < p) (c : Canon p zs) {z : Run} (hz : z ∈ zs) {l : Int} (e : z.lo = some l) : ¬ inRuns p zs (l - p) := by
  rintro ⟨y, hy, m⟩
  have gz := c.good z hz
  have er : (l - p) % p = z.r := by
    rw [Int.sub_emod_right]
    exact gz.lo l e
  have ey : y.r = z.r := by rw [← m.1]; exact er
  rcases c.cmp hz hy with h | h | h
  · subst h
    have := m.2.1 l e
    omega
  · rcases h with h | ⟨_, u, w, h1, h2, h3⟩
    · omega
    · have q1 := m.2.1 w h2
      have q2 := gz.le l u e h1
      omega
  · rcases h with h | ⟨_, u, w, h1, h2, h3⟩
    · omega
    · have q1 := m.2.2 u h1
      rw [e] at h2
      cases h2
      omega
theorem Canon.beyond {zs : List Run} (hp : 0 < p) (c : Canon p zs) {z : Run} (hz : z ∈ zs) {l : Int} (e : z.hi = some l) : ¬ inRuns p zs (l + p) := by
  rintro ⟨y, hy, m⟩
  have gz := c.good z hz
  have er : (l + p) % p = z.r := by
    rw [Int.add_emod_right]
    exact gz.hi l e
  have ey : y.r = z.r := by rw [← m.1]; exact er
  rcases c.cmp hz hy with h | h | h
  · subst h
    have := m.2.2 l e
    omega
  · rcases h with h | ⟨_, u, w, h1, h2, h3⟩
    · omega
    · have q1 := m.2.1 w h2
      rw [e] at h1
      cases h1
      omega
  · rcases h with h | ⟨_, u, w, h1, h2, h3⟩
    · omega
    · have q1 := m.2.2 u h1
      have q2 := gz.le w l h2 e
      omega
/-- how many runs have this time -/
theorem Canon.count {zs : List Run} (hp : 0 < p) (c : Canon p zs) {t : Int} (f : Run → Bool) (hf : ∀ z, f z = true ↔ inRun p z t) : (inRuns p zs t → (zs.filter f).length = 1) ∧ (¬ inRuns p zs t → (zs.filter f).length = 0) := by
  constructor
  · rintro ⟨z, hz, m⟩
    cases e : zs.filter f with
    | nil =>
      have : z ∈ zs.filter f := List.mem_filter.mpr ⟨hz, (hf z).mpr m⟩
      rw [e] at this
      cases this
    | cons x r =>
      cases r with
      | nil => rfl
      | cons y r =>
        have pw : (zs.filter f).Pairwise (Lt p) := List.Pairwise.sublist List.filter_sublist c.pw
        rw [e] at pw
        have h := (List.pairwise_cons.mp pw).1 y List.mem_cons_self
        have mx : x ∈ zs.filter f := by rw [e]; exact List.mem_cons_self
        have my : y ∈ zs.filter f := by rw [e]; exact List.mem_cons_of_mem _ List.mem_cons_self
        exact (h.apart hp ((hf x).mp (List.mem_filter.mp mx).2) ((hf y).mp (List.mem_filter.mp my).2)).elim
  · intro h
    rw [List.length_eq_zero_iff, List.filter_eq_nil_iff]
    exact fun z hz m => h ⟨z, hz, (hf z).mp m⟩
end
end Rn
end

section

namespace Rn
/-! ### next and last members -/
def IsNext (A : Int → Prop) (t : Int) : Option Int → Prop
  | none => ∀ s, t ≤ s → ¬ A s
  | some m => A m ∧ t ≤ m ∧ ∀ s, t ≤ s → A s → m ≤ s
def IsLast (A : Int → Prop) (t : Int) : Option Int → Prop
  | none => ∀ s, s ≤ t → ¬ A s
  | some m => A m ∧ m ≤ t ∧ ∀ s, s ≤ t → A s → s ≤ m
section
variable {A B : Int → Prop} {t m p r : Int} {o o' lo hi : Option Int} {ms : List Int}
theorem IsNext.uniq (h : IsNext A t o) (h' : IsNext A t o') : o = o' := by
  cases o with
  | none =>
    cases o' with
    | none => rfl
    | some m => exact absurd h'.1 (h m h'.2.1)
  | some m =>
    cases o' with
    | none => exact absurd h.1 (h' m h.2.1)
    | some m' =>
      have h1 := h.2.2 m' h'.2.1 h'.1
      have h2 := h'.2.2 m h.2.1 h.1
      have : m = m' := by omega
      rw [this]
theorem IsLast.uniq (h : IsLast A t o) (h' : IsLast A t o') : o = o' := by
  cases o with
  | none =>
    cases o' with
    | none => rfl
    | some m => exact absurd h'.1 (h m h'.2.1)
  | some m =>
    cases o' with
    | none => exact absurd h.1 (h' m h.2.1)
    | some m' =>
      have h1 := h.2.2 m' h'.2.1 h'.1
      have h2 := h'.2.2 m h.2.1 h.1
      have : m = m' := by omega
      rw [this]
theorem IsNext.congr (e : ∀ t, A t ↔ B t) (h : IsNext A t o) : IsNext B t o := by
  have : A = B := funext fun t => propext (e t)
  rw [← this]
  exact h
theorem IsLast.congr (e : ∀ t, A t ↔ B t) (h : IsLast A t o) : IsLast B t o := by
  have : A = B := funext fun t => propext (e t)
  rw [← this]
  exact h
/-- some members at or behind t, among them the least -/
structure Nxs (A : Int → Prop) (t : Int) (ms : List Int) : Prop where
  mem : ∀ m ∈ ms, A m ∧ t ≤ m
  all : ∀ s, t ≤ s → A s → ∃ m ∈ ms, m ≤ s
theorem Nxs.congr (e : ∀ t, A t ↔ B t) (h : Nxs A t ms) : Nxs B t ms := ⟨fun m hm => ⟨(e m).mp (h.mem m hm).1, (h.mem m hm).2⟩, fun s hs hB => h.all s hs ((e s).mpr hB)⟩
theorem Nxs.skip (h : Nxs A t ms) (n : IsNext B t none) : Nxs (fun s => A s ∨ B s) t ms :=
  ⟨fun m hm => ⟨.inl (h.mem m hm).1, (h.mem m hm).2⟩, fun s hs q => q.elim (h.all s hs) fun q => absurd q (n s hs)⟩
theorem Nxs.add (h : Nxs A t ms) (n : IsNext B t (some m)) : Nxs (fun s => A s ∨ B s) t (ms ++ [m]) := by
  refine ⟨fun x hx => ?_, fun s hs q => ?_⟩
  · rcases List.mem_append.mp hx with hx | hx
    · exact ⟨.inl (h.mem x hx).1, (h.mem x hx).2⟩
    · rw [List.mem_singleton.mp hx]
      exact ⟨.inr n.1, n.2.1⟩
  · rcases q with q | q
    · obtain ⟨x, hx, hl⟩ := h.all s hs q
      exact ⟨x, List.mem_append_left _ hx, hl⟩
    · exact ⟨m, List.mem_append_right _ List.mem_cons_self, n.2.2 s hs q⟩
theorem Nxs.least (h : Nxs A t ms) (hm : m ∈ ms) (hl : ∀ y ∈ ms, m ≤ y) : IsNext A t (some m) :=
  ⟨(h.mem m hm).1, (h.mem m hm).2, fun s hs q => let ⟨x, hx, l⟩ := h.all s hs q; Int.le_trans (hl x hx) l⟩
theorem Nxs.empty (h : Nxs A t []) : IsNext A t none := fun s hs q => by
  obtain ⟨_, hx, _⟩ := h.all s hs q
  cases hx
structure Lss (A : Int → Prop) (t : Int) (ms : List Int) : Prop where
  mem : ∀ m ∈ ms, A m ∧ m ≤ t
  all : ∀ s, s ≤ t → A s → ∃ m ∈ ms, s ≤ m
theorem Lss.congr (e : ∀ t, A t ↔ B t) (h : Lss A t ms) : Lss B t ms := ⟨fun m hm => ⟨(e m).mp (h.mem m hm).1, (h.mem m hm).2⟩, fun s hs hB => h.all s hs ((e s).mpr hB)⟩
theorem Lss.skip (h : Lss A t ms) (n : IsLast B t none) : Lss (fun s => A s ∨ B s) t ms :=
  ⟨fun m hm => ⟨.inl (h.mem m hm).1, (h.mem m hm).2⟩, fun s hs q => q.elim (h.all s hs) fun q => absurd q (n s hs)⟩
theorem Lss.add (h : Lss A t ms) (n : IsLast B t (some m)) : Lss (fun s => A s ∨ B s) t (ms ++ [m]) := by
  refine ⟨fun x hx => ?_, fun s hs q => ?_⟩
  · rcases List.mem_append.mp hx with hx | hx
    · exact ⟨.inl (h.mem x hx).1, (h.mem x hx).2⟩
    · rw [List.mem_singleton.mp hx]
      exact ⟨.inr n.1, n.2.1⟩
  · rcases q with q | q
    · obtain ⟨x, hx, hl⟩ := h.all s hs q
      exact ⟨x, List.mem_append_left _ hx, hl⟩
    · exact ⟨m, List.mem_append_right _ List.mem_cons_self, n.2.2 s hs q⟩
theorem Lss.greatest (h : Lss A t ms) (hm : m ∈ ms) (hl : ∀ y ∈ ms, y ≤ m) : IsLast A t (some m) :=
  ⟨(h.mem m hm).1, (h.mem m hm).2, fun s hs q => let ⟨x, hx, l⟩ := h.all s hs q; Int.le_trans l (hl x hx)⟩
theorem Lss.empty (h : Lss A t []) : IsLast A t none := fun s hs q => by
  obtain ⟨_, hx, _⟩ := h.all s hs q
  cases hx
/-! ### of one span -/
/-- the later one -/
def from_ (lo : Option Int) (t : Int) : Int := match lo with
  | none => t
  | some l => if l < t then t else l
theorem from_iff {s : Int} : from_ lo t ≤ s ↔ geLo lo s ∧ t ≤ s := by
  cases lo with
  | none =>
    show t ≤ s ↔ _
    rw [geN]
    simp
  | some l =>
    show (if l < t then t else l) ≤ s ↔ _
    rw [geS]
    split <;> omega
theorem next_res (r0 : 0 ≤ r) (r1 : r < p) (c : leHi hi (upTo p r (from_ lo t))) : IsNext (inSpan p ⟨some r, lo, hi⟩) t (some (upTo p r (from_ lo t))) := by
  have hp : 0 < p := by omega
  have h1 := (upTo_le (r := r) hp (from_ lo t)).1
  obtain ⟨h2, h3⟩ := from_iff.mp h1
  refine ⟨span_S.mpr ⟨upTo_mod r0 r1 _, h2, c⟩, h3, fun s hs q => ?_⟩
  obtain ⟨q1, q2, _⟩ := span_S.mp q
  exact (upTo_iff r0 r1 q1 _).mpr (from_iff.mpr ⟨q2, hs⟩)
theorem next_res_no (r0 : 0 ≤ r) (r1 : r < p) (c : ¬ leHi hi (upTo p r (from_ lo t))) : IsNext (inSpan p ⟨some r, lo, hi⟩) t none := by
  intro s hs q
  obtain ⟨q1, q2, q3⟩ := span_S.mp q
  refine c fun h e => ?_
  have := (upTo_iff r0 r1 q1 (from_ lo t)).mpr (from_iff.mpr ⟨q2, hs⟩)
  have := q3 h e
  omega
theorem next_any (c : leHi hi (from_ lo t)) : IsNext (inSpan p ⟨none, lo, hi⟩) t (some (from_ lo t)) := by
  obtain ⟨h2, h3⟩ := from_iff.mp (Int.le_refl (from_ lo t))
  refine ⟨span_N.mpr ⟨h2, c⟩, h3, fun s hs q => from_iff.mpr ⟨(span_N.mp q).1, hs⟩⟩
theorem next_any_no (c : ¬ leHi hi (from_ lo t)) : IsNext (inSpan p ⟨none, lo, hi⟩) t none := by
  intro s hs q
  obtain ⟨q2, q3⟩ := span_N.mp q
  refine c fun h e => ?_
  have := from_iff.mpr ⟨q2, hs⟩
  have := q3 h e
  omega
/-- by runOf -/
theorem next_run {x : Run} {g : Option Int} (r0 : 0 ≤ r) (r1 : r < p) (hg : ∀ s, geLo g s ↔ geLo lo s ∧ t ≤ s) (e : runOf p r g hi = some x) {l : Int} (el : x.lo = some l) : IsNext (inSpan p ⟨some r, lo, hi⟩) t (some l) := by
  obtain ⟨gx, _, hm⟩ := runOf_some r0 r1 e
  obtain ⟨h1, h2, h3⟩ := (hm l).mp (in_lo gx el)
  obtain ⟨h4, h5⟩ := (hg l).mp h2
  refine ⟨span_S.mpr ⟨h1, h4, h3⟩, h5, fun s hs q => ?_⟩
  obtain ⟨q1, q2, q3⟩ := span_S.mp q
  exact ((hm s).mpr ⟨q1, (hg s).mpr ⟨q2, hs⟩, q3⟩).2.1 l el
theorem next_run_no {g : Option Int} (r0 : 0 ≤ r) (r1 : r < p) (hg : ∀ s, geLo g s ↔ geLo lo s ∧ t ≤ s) (e : runOf p r g hi = none) : IsNext (inSpan p ⟨some r, lo, hi⟩) t none := by
  intro s hs q
  obtain ⟨q1, q2, q3⟩ := span_S.mp q
  exact runOf_none r0 r1 e s ⟨q1, (hg s).mpr ⟨q2, hs⟩, q3⟩
theorem last_run {x : Run} {g : Option Int} (r0 : 0 ≤ r) (r1 : r < p) (hg : ∀ s, leHi g s ↔ leHi hi s ∧ s ≤ t) (e : runOf p r lo g = some x) {l : Int} (el : x.hi = some l) : IsLast (inSpan p ⟨some r, lo, hi⟩) t (some l) := by
  obtain ⟨gx, _, hm⟩ := runOf_some r0 r1 e
  obtain ⟨h1, h2, h3⟩ := (hm l).mp (in_hi gx el)
  obtain ⟨h4, h5⟩ := (hg l).mp h3
  refine ⟨span_S.mpr ⟨h1, h2, h4⟩, h5, fun s hs q => ?_⟩
  obtain ⟨q1, q2, q3⟩ := span_S.mp q
  exact ((hm s).mpr ⟨q1, q2, (hg s).mpr ⟨q3, hs⟩⟩).2.2 l el
theorem last_run_no {g : Option Int} (r0 : 0 ≤ r) (r1 : r < p) (hg : ∀ s, leHi g s ↔ leHi hi s ∧ s ≤ t) (e : runOf p r lo g = none) : IsLast (inSpan p ⟨some r, lo, hi⟩) t none := by
  intro s hs q
  obtain ⟨q1, q2, q3⟩ := span_S.mp q
  exact runOf_none r0 r1 e s ⟨q1, q2, (hg s).mpr ⟨q3, hs⟩⟩
theorem runOf_lo {x : Run} {l : Int} (e : runOf p r (some l) hi = some x) : ∃ m, x.lo = some m := by
  unfold runOf at e
  cases hi with
  | none =>
    simp at e
    rw [← e]
    exact ⟨_, rfl⟩
  | some h =>
    simp only [Option.map_some] at e
    split at e
    · cases e
    · rw [← Option.some.inj e]
      exact ⟨_, rfl⟩
theorem runOf_hi {x : Run} {l : Int} (e : runOf p r lo (some l) = some x) : ∃ m, x.hi = some m := by
  unfold runOf at e
  cases lo with
  | none =>
    simp at e
    rw [← e]
    exact ⟨_, rfl⟩
  | some h =>
    simp only [Option.map_some] at e
    split at e
    · cases e
    · rw [← Option.some.inj e]
      exact ⟨_, rfl⟩
/-! ### turned about -/
theorem IsNext.turn (h : IsNext (fun s => A (-s)) (-t) o) : IsLast A t (o.map fun m => -m) := by
  cases o with
  | none => exact fun s hs q => h (-s) (by omega) (by show A (- -s); rw [Int.neg_neg]; exact q)
  | some m =>
    refine ⟨h.1, ?_, fun s hs q => ?_⟩
    · have := h.2.1
      show -m ≤ t
      omega
    · have := h.2.2 (-s) (by omega) (by show A (- -s); rw [Int.neg_neg]; exact q)
      show s ≤ -m
      omega
/-- a span turned about -/
def turn (p : Int) (s : Sp3) : Sp3 := ⟨s.res.map fun r => (-r) % p, s.hi.map fun m => -m, s.lo.map fun m => -m⟩
theorem turn_mem {s : Sp3} (hp : 0 < p) (ok : SpOk p s) : inSpan p (turn p s) t ↔ inSpan p s (-t) := by
  obtain ⟨res, lo, hi⟩ := s
  unfold inSpan turn
  have h1 : (∀ r, (res.map fun r => (-r) % p) = some r → t % p = r) ↔ ∀ r, res = some r → (-t) % p = r := by
    cases res with
    | none => simp
    | some r =>
      obtain ⟨r0, r1⟩ := ok r rfl
      simp only [Option.map_some, Option.some.injEq, forall_eq']
      constructor
      · intro h
        have e : (-t) % p = r % p := by
          have : (-t - r) % p = 0 := by
            have h2 : (t + r) % p = 0 := by
              have := Int.emod_emod_of_dvd (-r) (Int.dvd_refl p)
              have h3 : t % p = (-r) % p := h
              have h4 := Int.emod_emod_of_dvd t (Int.dvd_refl p)
              rw [Int.add_emod, h3, ← Int.add_emod]
              have : -r + r = 0 := by omega
              rw [this]
              exact Int.zero_emod p
            have e1 : -t - r = -(t + r) := by omega
            rw [e1]
            exact Int.emod_eq_zero_of_dvd (Int.dvd_neg.mpr (Int.dvd_of_emod_eq_zero h2))
          exact Int.emod_eq_emod_iff_emod_sub_eq_zero.mpr this
        rw [e, Int.emod_eq_of_lt r0 r1]
      · intro h
        have e : t % p = (-r) % p := by
          have : (t - -r) % p = 0 := by
            have e1 : t - -r = -(-t - r) := by omega
            rw [e1]
            refine Int.emod_eq_zero_of_dvd (Int.dvd_neg.mpr (Int.dvd_of_emod_eq_zero ?_))
            refine Int.emod_eq_emod_iff_emod_sub_eq_zero.mp ?_
            rw [h, Int.emod_eq_of_lt r0 r1]
          exact Int.emod_eq_emod_iff_emod_sub_eq_zero.mpr this
        exact e
  have h2 : geLo (hi.map fun m => -m) t ↔ leHi hi (-t) := by
    cases hi with
    | none => rw [Option.map_none, geN, leN]
    | some m =>
      rw [Option.map_some, geS, leS]
      omega
  have h3 : leHi (lo.map fun m => -m) t ↔ geLo lo (-t) := by
    cases lo with
    | none => rw [Option.map_none, geN, leN]
    | some m =>
      rw [Option.map_some, geS, leS]
      omega
  rw [h1, h2, h3]
  exact ⟨fun ⟨a, b, c⟩ => ⟨a, c, b⟩, fun ⟨a, b, c⟩ => ⟨a, c, b⟩⟩
theorem turns_mem (hp : 0 < p) {ss : List Sp3} (ok : ∀ s ∈ ss, SpOk p s) : inSpans p (ss.map (turn p)) t ↔ inSpans p ss (-t) := by
  constructor
  · rintro ⟨s, hs, m⟩
    obtain ⟨z, hz, rfl⟩ := List.mem_map.mp hs
    exact ⟨z, hz, (turn_mem hp (ok z hz)).mp m⟩
  · rintro ⟨z, hz, m⟩
    exact ⟨_, List.mem_map.mpr ⟨z, hz, rfl⟩, (turn_mem hp (ok z hz)).mpr m⟩
theorem turn_ok (hp : 0 < p) {s : Sp3} : SpOk p (turn p s) := fun r e => by
  unfold turn at e
  cases h : s.res with
  | none => rw [h] at e; cases e
  | some q =>
    rw [h] at e
    have e := Option.some.inj e
    rw [← e]
    exact ⟨Int.emod_nonneg _ (by omega), Int.emod_lt_of_pos _ hp⟩
/-! ### the first member -/
def Before (m s : Int) : Prop := m.natAbs < s.natAbs ∨ (m.natAbs = s.natAbs ∧ m ≤ s)
def IsFirst (A : Int → Prop) : Option Int → Prop
  | none => ∀ s, ¬ A s
  | some m => A m ∧ ∀ s, A s → Before m s
theorem IsFirst.uniq (h : IsFirst A o) (h' : IsFirst A o') : o = o' := by
  cases o with
  | none =>
    cases o' with
    | none => rfl
    | some m => exact absurd h'.1 (h m)
  | some m =>
    cases o' with
    | none => exact absurd h.1 (h' m)
    | some m' =>
      have h1 := h.2 m' h'.1
      have h2 := h'.2 m h.1
      unfold Before at h1 h2
      have : m = m' := by omega
      rw [this]
theorem IsFirst.congr (e : ∀ t, A t ↔ B t) (h : IsFirst A o) : IsFirst B o := by
  have : A = B := funext fun t => propext (e t)
  rw [← this]
  exact h
theorem first_none (h1 : IsNext A 0 none) (h2 : IsLast A 0 none) : IsFirst A none := fun s q => by
  rcases Int.le_total 0 s with h | h
  · exact h1 s h q
  · exact h2 s h q
theorem first_next {m : Int} (h1 : IsNext A 0 (some m)) (h2 : IsLast A 0 o) (h : ∀ l, o = some l → Before m l) : IsFirst A (some m) := by
  refine ⟨h1.1, fun s q => ?_⟩
  rcases Int.le_total 0 s with c | c
  · have := h1.2.2 s c q
    have := h1.2.1
    unfold Before
    omega
  · cases o with
    | none => exact absurd q (h2 s c)
    | some l =>
      have a := h l rfl
      have b := h2.2.2 s c q
      have d := h2.2.1
      unfold Before at a ⊢
      omega
theorem first_last {m : Int} (h1 : IsNext A 0 o) (h2 : IsLast A 0 (some m)) (h : ∀ l, o = some l → Before m l) : IsFirst A (some m) := by
  refine ⟨h2.1, fun s q => ?_⟩
  rcases Int.le_total 0 s with c | c
  · cases o with
    | none => exact absurd q (h1 s c)
    | some l =>
      have a := h l rfl
      have b := h1.2.2 s c q
      have d := h1.2.1
      unfold Before at a ⊢
      omega
  · have := h2.2.2 s c q
    have := h2.2.1
    unfold Before
    omega
end
end Rn
end

section
set_option maxHeartbeats 4000000
namespace EW
open PySem PySem.Spec PyProof.Rows L2
/-! ### members with their sizes -/
def absD (m : Int) : PyData := .tuple [.int (m.natAbs : Int), .int m]
theorem absD_inj {m l : Int} (h : absD m = absD l) : m = l := by
  unfold absD at h
  injection h with h
  injection h with _ h
  injection h with h _
  injection h
theorem abs_lt {m l : Int} : W.dataLt (absD m) (absD l) = true ↔ m.natAbs < l.natAbs ∨ (m.natAbs = l.natAbs ∧ m < l) := by
  have e : W.dataLt (absD m) (absD l) = tkLt (W.keyToks (absD m)) (W.keyToks (absD l)) := rfl
  rw [e]
  unfold absD
  rw [tk_cons, tk_cons]
  have e2 : tkLt (W.keyToks (.tuple [])) (W.keyToks (.tuple [])) = false := by decide +kernel
  rw [e2]
  simp only [Bool.and_false, Bool.or_false, Bool.or_eq_true, Bool.and_eq_true, decide_eq_true_eq]
  omega
theorem minD_abs : ∀ (mr : List Int) (m0 : Int), ∃ m ∈ m0 :: mr, W.minD (absD m0) (mr.map absD) = absD m ∧ ∀ l ∈ m0 :: mr, Rn.Before m l := by
  intro mr
  induction mr with
  | nil =>
    intro m0
    refine ⟨m0, List.mem_cons_self, rfl, fun l hl => ?_⟩
    rw [List.mem_singleton.mp hl]
    exact .inr ⟨rfl, Int.le_refl _⟩
  | cons y ys ih =>
    intro m0
    have e : W.minD (absD m0) ((y :: ys).map absD) = W.minD (absD (if W.dataLt (absD y) (absD m0) = true then y else m0)) (ys.map absD) := by
      unfold W.minD
      rw [List.map_cons, List.foldl_cons]
      split <;> rfl
    obtain ⟨m, hm, h1, h2⟩ := ih (if W.dataLt (absD y) (absD m0) = true then y else m0)
    rw [e]
    refine ⟨m, ?_, h1, fun l hl => ?_⟩
    · rcases List.mem_cons.mp hm with e | e
      · rw [e]
        split
        · exact List.mem_cons_of_mem _ List.mem_cons_self
        · exact List.mem_cons_self
      · exact List.mem_cons_of_mem _ (List.mem_cons_of_mem _ e)
    · have hb := h2 _ List.mem_cons_self
      have key : Rn.Before m m0 ∧ Rn.Before m y := by
        cases c : W.dataLt (absD y) (absD m0) with
        | true =>
          rw [c, if_pos rfl] at hb
          have q := abs_lt.mp c
          unfold Rn.Before at *
          omega
        | false =>
          rw [c, if_neg (by decide)] at hb
          have q : ¬ (y.natAbs < m0.natAbs ∨ (y.natAbs = m0.natAbs ∧ y < m0)) := fun z => by
            rw [abs_lt.mpr z] at c
            cases c
          unfold Rn.Before at *
          omega
      rcases List.mem_cons.mp hl with e | hl
      · rw [e]
        exact key.1
      · rcases List.mem_cons.mp hl with e | hl
        · rw [e]
          exact key.2
        · exact h2 l (List.mem_cons_of_mem _ hl)
theorem abs_alike (ms : List Int) : W.AlikeAll (ms.map absD) := by
  refine ⟨fun x hx y hy => ?_, fun x hx => ?_⟩
  · obtain ⟨m, _, rfl⟩ := List.mem_map.mp hx
    obtain ⟨l, _, rfl⟩ := List.mem_map.mp hy
    simp [absD, W.alike, W.alikeAll]
  · obtain ⟨m, _, rfl⟩ := List.mem_map.mp hx
    exact fun e => nomatch e
theorem abs_depth : ∀ ms : List Int, PyData.depthAll (ms.map absD) ≤ 1
  | [] => by simp [PyData.depthAll]
  | m :: ms => by
    have := abs_depth ms
    simp [PyData.depthAll, absD, PyData.depth]
    omega
theorem abs_lay : ∀ ms : List Int, PyData.canLayAll0 (ms.map absD) = true
  | [] => by simp [PyData.canLayAll0]
  | m :: ms => by simp [PyData.canLayAll0, absD, PyData.canLay0, abs_lay ms]
theorem abs_shaped (ms : List Int) : SeqAt.shaped (.list (ms.map absD)) = true := by
  have h := abs_depth ms
  simp [SeqAt.shaped, PyData.canLay0, PyData.depth, abs_lay]
  omega
end EW
end

section
set_option maxHeartbeats 4000000
/-! EwLamC: min(l, key=lambda t: (abs(t), t)). -/
namespace EW
open PySem PySem.Spec PyProof.Rows L2 LamX
section
variable {X : Cx} {pins : List (Addr × Obj)} {σ : L2.St} {H Hc : Hp} {s s' : Shared} {h : Heap}
/-- some objects that are not known of are changed -/
theorem inv_moved {ch : List Addr} (I : Inv X pins σ Hc s) (hf : ∀ b ∈ ch, FpOk X pins Hc b) (m : Moved ch (fun a b => b = a) s s') : Inv X pins σ Hc s' := by
  obtain ⟨hp, g, d, tk, os⟩ := s'
  obtain ⟨m1, m2, m3, m4, m5⟩ := m
  dsimp only at m1 m2 m3 m4 m5
  subst m2 m3 m4
  have nch : ∀ b u, Hc b = some u → b ∉ ch := fun b u e z => by
    rw [(hf b z).1] at e
    cases e
  refine I.step (g' := s.gens) (d' := s.drawn) (ch := ch) (fun b hb => ?_) (fun b o _ _ hc e _ => m1 b o hc e) (fun b o _ _ hc e _ => ⟨o.slots, m1 b o hc e⟩) (fun _ _ _ _ n => n)
    (fun b o hc e => ⟨o, m1 b o hc e⟩) (fun _ _ e => e) (fun _ _ _ e => e) (fun b ps e => ⟨#[], by rw [e]; simp⟩) (fun mm hm => ?_) (fun b u e => ?_) I.bare
  · obtain ⟨f0, f1, f2, f3, f4, f5⟩ := hf b hb
    exact ⟨f3, f1, f4, f5⟩
  · obtain ⟨o, es, ep, ho, r⟩ := hm
    exact ⟨o, es, ep, m1 _ o (fun z => (hf _ z).2.1 rfl) ho, r⟩
  · refine (I.hok b u e).stay (fun c v hc q => m1 c v ?_ q) (fun _ q => q) fun _ _ q => q
    rcases hc with z | z
    · rw [z]
      exact nch b u e
    · exact nch c _ z
/-- what stands while min asks for the keys -/
structure Jm (X : Cx) (pins : List (Addr × Obj)) (σ : L2.St) (H : Hp) (it S : Addr) (Hc : Hp) (s : Shared) : Prop where
  inv : Inv X pins σ Hc s
  same : Same H Hc
  new : ∀ b o, H b = none → Hc b = some o → ∃ xs, o = .tup xs
  i0 : FpOk X pins Hc it
  s0 : FpOk X pins Hc S
/-- a pair at a new place -/
def PrAt (X : Cx) (H : Hp) (it S : Addr) (h : Heap) (v : Value) (n : Int) : Prop := ∃ b, v = .ref b ∧ H b = none ∧ b ∉ frs X.stack ∧ b ≠ it ∧ b ≠ S ∧ Srt.IsPair h (.ref b) (n.natAbs : Int) n
theorem pair_reads {v : Value} {n : Int} (p : Srt.IsPair h v (n.natAbs : Int) n) : ∃ as, Reads h v (absD n) as := by
  obtain ⟨a, o, t, u, k, rfl, ho, hc, hd⟩ := p
  exact ⟨_, .tuple ho hc hd (.cons (.int _ _) (.cons (.int _ _) .nil))⟩
theorem fpOk_of {b : Addr} {H1 H2 : Hp} (f : FpOk X pins H1 b) (n : H2 b = none) : FpOk X pins H2 b := ⟨n, f.2⟩
theorem rel_int {v : V} {x : Int} {t : Tok} (r : RelV v (.int x t)) : v = .int x := by
  cases v with
  | int i =>
    obtain ⟨_, e⟩ := r
    cases e
    rfl
  | non => cases r
  | bl b => cases r
  | ref a => cases r
  | ty n => cases r
  | str z =>
    obtain ⟨_, e⟩ := r
    cases e
  | byt z =>
    obtain ⟨_, e⟩ := r
    cases e
  | flt z =>
    obtain ⟨_, e⟩ := r
    cases e
/-- a pair stays over a call -/
theorem pair_stays {P : Program} {w : World} {fs : List Addr} {H1 H2 : Hp} {h1 h2 : Heap} {b : Addr} {x y : Int} (u : Un fs [] H1 H2 h1 h2) (hok : HOk P w H1 h1) (hok2 : HOk P w H2 h2) (hb : b ∉ fs) (nw : ∀ o, H1 b = some o → ∃ xs, o = .tup xs) (p : Srt.IsPair h1 (.ref b) x y) : Srt.IsPair h2 (.ref b) x y := by
  obtain ⟨a, o, t, t', n, e, ho, hc, hd⟩ := p
  cases e
  cases q : H1 b with
  | none => exact ⟨b, o, t, t', n, rfl, u.keep b o ho q hb (by simp), hc, hd⟩
  | some z =>
    obtain ⟨xs, rfl⟩ := nw z q
    have q2 := u.tups b xs q
    obtain ⟨_, its, rv, o1, n1, ho1, hc1, hd1⟩ := hok b _ q
    obtain ⟨_, its2, rv2, o2, n2, ho2, hc2, hd2⟩ := hok2 b _ q2
    have e1 : o1 = o := Option.some.inj (n1.symm.trans ho)
    subst e1
    rw [hd] at hd1
    injection hd1 with e2 e3
    have e4 : its = [.int x t, .int y t'] := by
      have := congrArg Array.toList e2
      simpa using this.symm
    subst e4
    cases rv with
    | cons r1 rv =>
      cases rv with
      | cons r2 rv =>
        cases rv
        cases rel_int r1
        cases rel_int r2
        cases rv2 with
        | cons q1 rv2 =>
          cases rv2 with
          | cons q2 rv2 =>
            cases rv2
            obtain ⟨_, rfl⟩ := q1
            obtain ⟨_, rfl⟩ := q2
            exact ⟨b, o2, _, _, hc2, rfl, n2, ho2, hd2⟩
theorem pair_tup {P : Program} {w : World} {H : Hp} {h : Heap} {p : Addr} {x y : Int} (ok : ObjOk P w H h p (.tup [.int x, .int y])) : Srt.IsPair h (.ref p) x y := by
  obtain ⟨_, its, rv, o, ho, hc, n, hd⟩ := ok
  cases rv with
  | cons q1 rv =>
    cases rv with
    | cons q2 rv =>
      cases rv
      obtain ⟨_, rfl⟩ := q1
      obtain ⟨_, rfl⟩ := q2
      exact ⟨p, o, _, _, n, rfl, ho, hc, hd⟩
/-- min(l, key=f), f a lambda that tells (abs(t), t) -/
def rMinLam (K : W.Frag) (qual : Str) (params : Arguments) (body : Expr) (scope : Scope) : List V → List V → Hp → VK → Prop := fun vs zs H Q => ∃ (a f c' : Addr) (od : Obj) (ns : List Int), vs = [.ref a] ∧ zs = [.ref f] ∧ H a = some (.frz od (.lst (ns.map V.int))) ∧ ns ≠ [] ∧
  H f = some (LamO f qual params body scope c') ∧ H c' = some (CodeO c' qual) ∧ ∀ (m : Int) (H' : Hp), m ∈ ns → (∀ l ∈ ns, Rn.Before m l) → Same H H' → Q (.int m) H'
theorem cr_minLam {k : Nat} {N : List Str} {p0 : Str} {qual : Str} {params : Arguments} {body : Expr} {scope : Scope} {tb : TE} (K : W.Frag) (hK : X.K = K) (hc : X.calm = true) (hu : X.A.units + 64 < cLine) (hr : Room (k + 2) X.A) (S : FnScope N [p0] scope)
    (hb : ∀ (pm cd ct u : Value), bindArgs (W.kla_fn "<lambda>" qual params body scope [] pm cd ct) ⟨[u], []⟩ = pure ([p0].zip [u]))
    (hbody : ∀ (f c' : Addr) (A : Around) (outer : List Env) (s : Shared) (H : Hp), Room k (A.deeper (envOfC qual scope s.heap.objs.size f (.ref c'))) → PE (cxOf CX0 X.prog X.w X.K X.mg X.base N qual scope f (.ref c') A outer s H E0) body tb)
    (ht : ∀ (n : Int) (H : Hp) (Q : VK), (∀ p, H p = none → Q (.ref p) (upd H p (.tup [.int (n.natAbs : Int), .int n]))) → tb (L2.start N [.int n]) H Q) :
    CallRK X (.builtin "min") [Str.ofString "key"] (rMinLam K qual params body scope) := by
  subst hK
  intro pins s σ H vs zs us ws Q I r rz h
  obtain ⟨a, f, c', od, ns, rfl, rfl, ha, hne, hf, hcd, q⟩ := h
  rw [Vals.ref1 r]
  obtain ⟨w1, rfl, e1⟩ := vals1 rz
  obtain rfl : w1 = .ref f := e1
  have hoa := I.hok a _ ha
  obtain ⟨hoa1, _, its, ep, rv, hls⟩ := hoa
  have eod : od = { cls := .type "list", data := .seq its.toArray ep } := Option.some.inj (hoa1.symm.trans hls)
  have hl : s.heap.IsList a its.toArray := ⟨_, hls, rfl, _, rfl⟩
  have hlen : its.length = ns.length := by
    have := rv.length
    rw [List.length_map] at this
    exact this.symm
  have gi : ∀ (i : Nat) (v : Value), its.toArray[i]? = some v → ∃ n t, ns[i]? = some n ∧ v = Value.int n t := fun i v hv => by
    have hv : its[i]? = some v := by simpa using hv
    have hix : i < ns.length := by rw [← hlen]; exact (List.getElem?_eq_some_iff.mp hv).1
    obtain ⟨u, hu, ru⟩ := rv.get (i := i) (x := V.int ns[i]) (by rw [List.getElem?_map, List.getElem?_eq_getElem hix]; rfl)
    rw [hv] at hu
    obtain rfl := Option.some.inj hu
    obtain ⟨t, e⟩ := ru
    exact ⟨_, t, List.getElem?_eq_getElem hix, e⟩
  have gd : ∀ {i : Nat} {n : Int}, ns[i]? = some n → (ns.map absD).getD i .none = absD n := fun {i n} hn => by
    rw [List.getD_eq_getElem?_getD, List.getElem?_map, hn]
    rfl
  refine call_min_walkK (W.iter_listW (A := X.A.in1) (I.ok.hd hc) hl fun s₂ e Wk st hfp hw hk => ?_)
  have I2 : Inv X pins σ H s₂ := by
    rw [e]
    exact I.kept fun b o q => Heap.get?_push_of_some _ q
  have hsz : s₂.heap.objs.size = s.heap.objs.size + 1 := by
    rw [e]
    exact Heap.size_push ..
  have f1 : FpOk X pins H s.heap.objs.size := I.fpOk (Nat.le_refl _) (I.hok.fresh (Nat.le_refl _))
  have f2 : FpOk X pins H s₂.heap.objs.size := I2.fpOk (Nat.le_refl _) (I2.hok.fresh (Nat.le_refl _))
  have sub : Sub X (k + 1) X.A.in1 := Sub.in1 ⟨hr, rfl⟩
  have nfr : ∀ b, FpOk X pins H b → b ∉ frs X.stack := fun b f z => by
    rcases List.mem_cons.mp (I.stkSub b z) with q | q
    · exact f.2.1 q
    · exact f.2.2.1 q
  refine ⟨s.heap.objs.size, _, _, _, _, _, _, fun s' => ∃ Hc, Jm X pins σ H s.heap.objs.size s₂.heap.objs.size Hc s', fun i kv s' => ∃ n, ns[i]? = some n ∧ PrAt X H s.heap.objs.size s₂.heap.objs.size s'.heap kv n, fun i j => W.dataLt ((ns.map absD).getD i .none) ((ns.map absD).getD j .none),
    rfl, Wk, st, hfp, ?_, ⟨?_, ?_, ?_, ?_⟩, ⟨H, I2, Same.refl H, fun b o q1 q2 => (by rw [q1] at q2; cases q2), f1, f2⟩, ?_⟩
  · rw [List.size_toArray, hlen]
    exact List.length_pos_iff.mpr hne
  · rintro s1 s2 ⟨Hc, J⟩ m
    refine ⟨Hc, inv_moved J.inv (fun b hb => ?_) m, J.same, J.new, J.i0, J.s0⟩
    rcases List.mem_cons.mp hb with rfl | hb
    · exact J.s0
    · rw [List.mem_singleton.mp hb]
      exact J.i0
  · rintro i kv s1 s2 ⟨n, hn, b, rfl, g1, g2, g3, g4, a', o, t, u, n', e', ho, hc', hd⟩ m
    cases e'
    exact ⟨n, hn, b, rfl, g1, g2, g3, g4, b, o, t, u, n', rfl, m.heap b o (by simp [g3, g4]) ho, hc', hd⟩
  · rintro i v s' o Q' E' hi hv ⟨Hc, J⟩ hst hS hq
    obtain ⟨n, t, hn, rfl⟩ := gi i v hv
    obtain ⟨⟨pm, ct, of⟩, _, _⟩ := J.inv.hok f _ (J.same _ _ hf)
    obtain ⟨⟨oc, vs, tq, g1, g2, g3⟩, _, _⟩ := J.inv.hok c' _ (J.same _ _ hcd)
    have e0 : Env0 X.prog X.w X.K X.mg X.base X.A.in1 X.stack s' Hc := ⟨sub.fr.trans J.inv.env0.frames, J.inv.env0.mod, J.inv.env0.bs, J.inv.env0.bsz, J.inv.env0.funs, J.inv.env0.frf, J.inv.env0.hok, J.inv.env0.bare⟩
    refine wpAny_call (codeAny_mono (run_lam (us := [Value.int n t]) (vs := [V.int n]) (E := E0) (Q := fun v H' => ∃ p, v = .ref p ∧ Hc p = none ∧ H' = upd Hc p (.tup [.int (n.natAbs : Int), .int n])) S of ⟨c', oc, vs, tq, rfl, g1, g2, g3⟩ sub.room e0 (hb _ _ _ _) (.cons ⟨t, rfl⟩ .nil) rfl (fun R => hbody f c' _ _ _ _ R) (ht n Hc _ fun p hp => ⟨p, rfl, hp, rfl⟩)) fun r2 s2 hr2 => ?_)
    match r2, hr2 with
    | .error e, hr2 => exact (hr2 : False).elim
    | .ok .next, hr2 => exact (hr2 : False).elim
    | .ok .brk, hr2 => exact (hr2 : False).elim
    | .ok .cont, hr2 => exact (hr2 : False).elim
    | .ok (.ret u), hr2 =>
      obtain ⟨v', H', os, bare, un, hok, rvv, p, rfl, np, rfl⟩ := hr2
      obtain rfl : u = .ref p := rvv
      have inv' : Inv X pins σ (upd Hc p (.tup [.int (n.natAbs : Int), .int n])) s2 := J.inv.call' os un hok bare (fun b z => absurd z (by simp))
      obtain ⟨⟨oi, hoi, hci, hdi⟩, _⟩ := hst
      have n1 := un.free _ oi hoi J.i0.1 (by simp)
      have n2 := un.free _ o hS J.s0.1 (by simp)
      have pi1 : p ≠ s.heap.objs.size := fun z => by rw [← z, upd_same] at n1; cases n1
      have pi2 : p ≠ s₂.heap.objs.size := fun z => by rw [← z, upd_same] at n2; cases n2
      have hp0 : H p = none := by
        cases q1 : H p with
        | none => rfl
        | some z =>
          rw [J.same _ _ q1] at np
          cases np
      have pfr : p ∉ frs X.stack := fun z => by
        have := inv'.stkFree p z
        rw [upd_same] at this
        cases this
      have hA := un.frzs a od _ (J.same _ _ ha)
      have hA2 := (inv'.hok a _ hA).1
      have pr : Srt.IsPair s2.heap (.ref p) (n.natAbs : Int) n := pair_tup (hok p _ upd_same)
      refine hq (.ref p) s2 ⟨_, inv', J.same.trans (sameN np), fun b o' q1 q2 => ?_, fpOk_of J.i0 n1, fpOk_of J.s0 n2⟩ ⟨⟨oi, un.keep _ oi hoi J.i0.1 (nfr _ f1) (by simp), hci, hdi⟩, ⟨od, hA2, by rw [eod], ep, by rw [eod]⟩⟩ (un.keep _ o hS J.s0.1 (nfr _ f2) (by simp)) ⟨n, hn, p, rfl, hp0, pfr, pi1, pi2, pr⟩ ?_
      · by_cases z : b = p
        · rw [z, upd_same] at q2
          exact ⟨_, (Option.some.inj q2).symm⟩
        · rw [upd_ne z] at q2
          exact J.new b o' q1 q2
      · rintro j k' ⟨m, hm, b, rfl, g1, g2, g3, g4, pb⟩
        exact ⟨m, hm, b, rfl, g1, g2, g3, g4, pair_stays un J.inv.hok hok g2 (fun o ho => J.new b o g1 ho) pb⟩
  · rintro i j ki kj s' Q' E' ⟨Hc, J⟩ ⟨n, hn, b, rfl, _, _, _, _, pr⟩ ⟨m, hm, b', rfl, _, _, _, _, pr'⟩ hq
    obtain ⟨as, ra⟩ := pair_reads pr
    obtain ⟨bs, rb⟩ := pair_reads pr'
    rw [gd hn, gd hm] at hq
    refine W.rcLt_alike _ _ X.A.in1 s' _ _ _ _ ra rb ((abs_alike [n, m]).1 _ (by simp) _ (by simp)) ((abs_alike [n]).2 _ (by simp)) ?_ X.prog X.w E' Q' hq
    show X.A.units + 1 + _ < _
    have h1 : (absD n).depth = 1 := by simp [absD, PyData.depth, PyData.depthAll]
    have := Nat.min_le_left (absD n).depth (absD m).depth
    omega
  · rintro v s' hv ⟨Hc, J⟩
    obtain ⟨n, t, hn, rfl⟩ := gi _ v hv
    obtain ⟨n0, nr, e0⟩ : ∃ n0 nr, ns = n0 :: nr := by
      cases ns with
      | nil => exact absurd rfl hne
      | cons n0 nr => exact ⟨n0, nr, rfl⟩
    obtain ⟨m, hm, h1, h2⟩ := minD_abs nr n0
    obtain ⟨_, g2⟩ := W.argBest_fold W.dataLt PyData.none (absD n0) (nr.map absD) nr.length (by rw [List.length_map]; exact Nat.le_refl _)
    rw [List.take_of_length_le (by rw [List.length_map]; exact Nat.le_refl _)] at g2
    have hz : its.toArray.size - 1 = nr.length := by
      rw [List.size_toArray, hlen, e0]
      rfl
    rw [hz] at hn
    have e1 := gd hn
    rw [e0] at e1 hn
    have e2 : absD n = absD m := e1.symm.trans (g2.trans h1)
    have e3 := absD_inj e2
    subst e3
    exact ⟨.int n, Hc, J.inv, ⟨t, rfl⟩, q n Hc (by rw [e0]; exact hm) (by rw [e0]; exact h2) J.same⟩
end
end EW
end

section
set_option maxHeartbeats 4000000
namespace EW
open PySem PySem.Spec PyProof.Rows L2
theorem _root_.L2.Room.u1 {k : Nat} {A : Around} (r : Room k A) : A.units + 1 < cLine := by
  have := r.un
  omega
section
variable {X : Cx} {K : W.Frag} {H H' : Hp} {a d : Addr} {o : HO} {xs vs : List V} {v : V}
theorem SqT.keptO (h : SqT K H a xs) (hd : H d = some o) (n1 : ∀ ys, o ≠ .tup ys) (n2 : ∀ b u, o ≠ .frz b u) (k : Kept d H H') : SqT K H' a xs :=
  SqT.stay h (fun b zs e => k b _ (fun z => by rw [z, hd] at e; exact n1 _ (Option.some.inj e)) e) fun b p u e => k b _ (fun z => by rw [z, hd] at e; exact n2 _ _ (Option.some.inj e)) e
theorem SqT.keptD {kvs : List (Key × V)} (h : SqT K H a xs) (hd : H d = some (.dK kvs)) (k : Kept d H H') : SqT K H' a xs := SqT.keptO h hd (fun _ z => nomatch z) (fun _ _ z => nomatch z) k
theorem Rns.keptD {zs : List Rn.Run} {kvs : List (Key × V)} (h : Rns K H vs zs) (hd : H d = some (.dK kvs)) (k : Kept d H H') : Rns K H' vs zs :=
  Paired.mono (fun _ _ q => let ⟨a, e, t⟩ := q; ⟨a, e, SqT.keptD t hd k⟩) h
/-- {} -/
theorem pe_dnewS {pos : Pos} : PE X (.Dict [] [] pos) (fun σ H Q => New H (fun _ => .dK []) Q) :=
  PE.imp pe_dnewK fun σ H Q q p hp => q.at hp
/-- runs by their residues -/
structure Grp (K : W.Frag) (H : Hp) (kvs : List (Key × V)) (zs : List Rn.Run) : Prop where
  itg : ∀ q ∈ kvs, ∃ r : Int, q.1 = Sum.inl r
  nd : (kvs.map (·.1)).Nodup
  len : kvs.length ≤ zs.length
  no : ∀ r : Int, valV kvs (Sum.inl r : Key) = none → ∀ z ∈ zs, z.r ≠ r
  yes : ∀ (r : Int) (v : V), valV kvs (Sum.inl r : Key) = some v → (∃ (l : Addr) (ys : List V), v = .ref l ∧ H l = some (.lst ys) ∧ Rns K H ys (zs.filter fun z => decide (z.r = r))) ∧ ∃ z ∈ zs, z.r = r
theorem Grp.nil : Grp K H [] [] := ⟨(fun _ h => nomatch h), List.nodup_nil, Nat.le_refl _, (fun _ _ _ h => nomatch h), fun r v h => by cases h⟩
theorem Grp.same {kvs : List (Key × V)} {zs : List Rn.Run} (g : Grp K H kvs zs) (s : Same H H') : Grp K H' kvs zs := ⟨g.itg, g.nd, g.len, g.no, fun r v h => by
  obtain ⟨⟨l, ys, e, hl, R⟩, z⟩ := g.yes r v h
  exact ⟨⟨l, ys, e, s _ _ hl, Rns.same R s⟩, z⟩⟩
theorem Grp.keptD {kvs kvs' : List (Key × V)} {zs : List Rn.Run} (g : Grp K H kvs zs) (hd : H d = some (.dK kvs')) (k : Kept d H H') : Grp K H' kvs zs := ⟨g.itg, g.nd, g.len, g.no, fun r v h => by
  obtain ⟨⟨l, ys, e, hl, R⟩, z⟩ := g.yes r v h
  exact ⟨⟨l, ys, e, k _ _ (fun z => by rw [z, hd] at hl; cases hl) hl, Rns.keptD R hd k⟩, z⟩⟩
theorem put_keys {kvs : List (Key × V)} {k : Key} {v : V} (nd : (kvs.map (·.1)).Nodup) : ((putK kvs k v).map (·.1)).Nodup ∧ (putK kvs k v).length ≤ kvs.length + 1 ∧ ∀ q ∈ putK kvs k v, q.1 = k ∨ ∃ q' ∈ kvs, q'.1 = q.1 := by
  cases h : valV kvs k with
  | none =>
    rw [putK_new v h]
    refine ⟨?_, by rw [List.length_append]; exact Nat.le_refl _, fun q hq => ?_⟩
    · rw [List.map_append, List.nodup_append]
      refine ⟨nd, by simp, ?_⟩
      intro x hx y hy e
      have hy' : y = k := by simpa using hy
      rw [hy'] at e
      obtain ⟨q, hq, rfl⟩ := List.mem_map.mp hx
      have z := valV_any k kvs
      rw [h] at z
      have z2 := List.any_eq_false.mp z q hq
      exact z2 (decide_eq_true e)
    · rcases List.mem_append.mp hq with hq | hq
      · exact .inr ⟨q, hq, rfl⟩
      · exact .inl (by rw [List.mem_singleton.mp hq])
  | some u =>
    have z := valV_any k kvs
    rw [h] at z
    have e : putK kvs k v = kvs.map (fun kv => if kv.1 = k then (kv.1, v) else kv) := by
      unfold putK
      exact if_pos z
    have em : (putK kvs k v).map (·.1) = kvs.map (·.1) := by
      rw [e, List.map_map]
      refine List.map_congr_left fun q _ => ?_
      show (if q.1 = k then (q.1, v) else q).1 = q.1
      split <;> rfl
    refine ⟨by rw [em]; exact nd, by rw [e, List.length_map]; exact Nat.le_succ _, fun q hq => ?_⟩
    have hm : q.1 ∈ (putK kvs k v).map (·.1) := List.mem_map.mpr ⟨q, hq, rfl⟩
    rw [em] at hm
    obtain ⟨q', h1, h2⟩ := List.mem_map.mp hm
    exact .inr ⟨q', h1, h2⟩
theorem Grp.put {kvs : List (Key × V)} {zs : List Rn.Run} {y : Rn.Run} {l : Addr} {ys : List V} (g : Grp K H kvs zs) (hl : H l = some (.lst ys)) (R : Rns K H ys ((zs ++ [y]).filter fun z => decide (z.r = y.r))) : Grp K H (putK kvs (Sum.inl y.r) (.ref l)) (zs ++ [y]) := by
  obtain ⟨p1, p2, p3⟩ := put_keys (k := (Sum.inl y.r : Key)) (v := .ref l) g.nd
  have gl := g.len
  refine ⟨fun q hq => ?_, p1, by rw [List.length_append]; exact Nat.le_trans p2 (Nat.succ_le_succ gl), fun r hn z hz => ?_, fun r v hv => ?_⟩
  · rcases p3 q hq with e | ⟨q', h1, h2⟩
    · exact ⟨_, e⟩
    · rw [← h2]
      exact g.itg q' h1
  · rw [valV_put] at hn
    by_cases e : (Sum.inl r : Key) = Sum.inl y.r
    · rw [if_pos e] at hn
      cases hn
    · rw [if_neg e] at hn
      rcases List.mem_append.mp hz with hz | hz
      · exact g.no r hn z hz
      · rw [List.mem_singleton.mp hz]
        exact fun c => e (by rw [c])
  · rw [valV_put] at hv
    by_cases e : (Sum.inl r : Key) = Sum.inl y.r
    · rw [if_pos e] at hv
      cases hv
      obtain rfl : r = y.r := Sum.inl.inj e
      exact ⟨⟨l, ys, rfl, hl, R⟩, y, List.mem_append_right _ List.mem_cons_self, rfl⟩
    · rw [if_neg e] at hv
      obtain ⟨⟨l', ys', e1, e2, R'⟩, z, hz, ez⟩ := g.yes r v hv
      refine ⟨⟨l', ys', e1, e2, ?_⟩, z, List.mem_append_left _ hz, ez⟩
      have e3 : [y].filter (fun z => decide (z.r = r)) = [] := by
        rw [List.filter_cons, if_neg (by simpa using fun c => e (by rw [c]))]
        rfl
      rw [List.filter_append, e3, List.append_nil]
      exact R'
end
end EW
end

section
set_option maxHeartbeats 4000000
namespace EW
open PySem PySem.Spec PyProof.Rows L2
/-- a walk over a list, what is done at an item said as it is -/
theorem loop_list {K : W.Frag} {a : Addr} {xs : List V} {H0 : Hp} {Qd : Hp → Prop} {B : V → Hp → (Hp → Prop) → Prop} (Pv : Nat → Hp → Prop) (h0 : Pv 0 H0) (hl : ∀ i H, i ≤ xs.length → Pv i H → SqL K H a xs)
    (hs : ∀ i x H, xs[i]? = some x → Pv i H → B x H (Pv (i + 1))) (hd : ∀ H, Pv xs.length H → Qd H) :
    ∃ W : Nat → Nat → Hp → Prop, (∃ m, W 0 m H0) ∧ ∀ i m H, W i m H → ((Itl K a).stop i H ∧ Qd H) ∨ ((Itl K a).go i H ∧ ∃ Nx : Hp → Prop, (∀ H', Nx H' → ∃ m', m' < m ∧ W (i + 1) m' H') ∧ ∀ x H', (Itl K a).yld i H x H' → B x H' Nx) := by
  refine ⟨fun i m H => m = xs.length - i ∧ i ≤ xs.length ∧ Pv i H, ⟨xs.length, rfl, Nat.zero_le _, h0⟩, ?_⟩
  rintro i m H ⟨rfl, hi, p⟩
  have q := hl i H hi p
  rcases Nat.lt_or_ge i xs.length with hlt | hge
  · refine .inr ⟨⟨xs, xs[i], q, List.getElem?_eq_getElem hlt⟩, Pv (i + 1), fun H' p' => ⟨xs.length - (i + 1), by omega, rfl, hlt, p'⟩, fun x H' y => ?_⟩
    obtain ⟨rfl, y⟩ := y
    exact hs i x _ (y xs q) p
  · obtain rfl : i = xs.length := by omega
    exact .inl ⟨⟨xs, q, Nat.le_refl _⟩, hd H p⟩
theorem loop_tup {K : W.Frag} {a : Addr} {xs : List V} {H0 : Hp} {Qd : Hp → Prop} {B : V → Hp → (Hp → Prop) → Prop} (Pv : Nat → Hp → Prop) (h0 : Pv 0 H0) (hl : ∀ i H, i ≤ xs.length → Pv i H → SqT K H a xs)
    (hs : ∀ i x H, xs[i]? = some x → Pv i H → B x H (Pv (i + 1))) (hd : ∀ H, Pv xs.length H → Qd H) :
    ∃ W : Nat → Nat → Hp → Prop, (∃ m, W 0 m H0) ∧ ∀ i m H, W i m H → ((Itt K a).stop i H ∧ Qd H) ∨ ((Itt K a).go i H ∧ ∃ Nx : Hp → Prop, (∀ H', Nx H' → ∃ m', m' < m ∧ W (i + 1) m' H') ∧ ∀ x H', (Itt K a).yld i H x H' → B x H' Nx) := by
  refine ⟨fun i m H => m = xs.length - i ∧ i ≤ xs.length ∧ Pv i H, ⟨xs.length, rfl, Nat.zero_le _, h0⟩, ?_⟩
  rintro i m H ⟨rfl, hi, p⟩
  have q := hl i H hi p
  rcases Nat.lt_or_ge i xs.length with hlt | hge
  · refine .inr ⟨⟨xs, xs[i], q, List.getElem?_eq_getElem hlt⟩, Pv (i + 1), fun H' p' => ⟨xs.length - (i + 1), by omega, rfl, hlt, p'⟩, fun x H' y => ?_⟩
    obtain ⟨rfl, y⟩ := y
    exact hs i x _ (y xs q) p
  · obtain rfl : i = xs.length := by omega
    exact .inl ⟨⟨xs, q, Nat.le_refl _⟩, hd H p⟩
theorem loop_rg {lo : Int} {n : Nat} {H0 : Hp} {Qd : Hp → Prop} {B : V → Hp → (Hp → Prop) → Prop} (Pv : Nat → Hp → Prop) (h0 : Pv 0 H0)
    (hs : ∀ i H, i < n → Pv i H → B (.int (lo + i)) H (Pv (i + 1))) (hd : ∀ H, Pv n H → Qd H) :
    ∃ W : Nat → Nat → Hp → Prop, (∃ m, W 0 m H0) ∧ ∀ i m H, W i m H → ((Itr lo n).stop i H ∧ Qd H) ∨ ((Itr lo n).go i H ∧ ∃ Nx : Hp → Prop, (∀ H', Nx H' → ∃ m', m' < m ∧ W (i + 1) m' H') ∧ ∀ x H', (Itr lo n).yld i H x H' → B x H' Nx) := by
  refine ⟨fun i m H => m = n - i ∧ i ≤ n ∧ Pv i H, ⟨n, rfl, Nat.zero_le _, h0⟩, ?_⟩
  rintro i m H ⟨rfl, hi, p⟩
  rcases Nat.lt_or_ge i n with hlt | hge
  · refine .inr ⟨hlt, Pv (i + 1), fun H' p' => ⟨n - (i + 1), by omega, rfl, hlt, p'⟩, fun x H' y => ?_⟩
    obtain ⟨rfl, rfl⟩ := y
    exact hs i _ hlt p
  · obtain rfl : i = n := by omega
    exact .inl ⟨Nat.le_refl _, hd H p⟩
section
variable {X : Cx}
theorem boot_list : bootBuiltins "list" = some (.type "list") := by decide +kernel
/-- list(range(..)), sealed -/
theorem pe_listRg1S {a : Expr} {ta : TE} {p pos p' pos' : Pos} (hc : X.calm = true) (hg : Gl X "list") (hm : X.mg "list" = none) (hg' : Gl X "range") (hm' : X.mg "range" = none) (ha : PE X a ta) (na' : starEach [a] X.env = (false, eval a X.env) :: starEach [] X.env := by rfl)
    (na : starEach [.Call (.Name "range" p') [a] [] pos'] X.env = (false, eval (.Call (.Name "range" p') [a] [] pos') X.env) :: starEach [] X.env := by rfl) :
    PE X (.Call (.Name "list" p) [.Call (.Name "range" p') [a] [] pos'] [] pos) (fun σ H Q => ta σ H fun x H1 => ∃ n, x = .int n ∧ RgOk 0 n ∧ New H1 (fun _ => .lst (rgV 0 n)) Q) := by
  refine PE.imp (pe_listRg hc hg hm (prg_1 hg' hm' (PE.cl ha) na') na) fun σ H Q q => ⟨_, q, fun v H1 z => ?_⟩
  obtain ⟨n, e, ok, nw⟩ := z
  exact ⟨n, e, ok, fun q hq => nw.at hq⟩
theorem pe_listRg2S {a b : Expr} {ta tb : TE} {p pos p' pos' : Pos} (hc : X.calm = true) (hg : Gl X "list") (hm : X.mg "list" = none) (hg' : Gl X "range") (hm' : X.mg "range" = none) (ha : PE X a ta) (hb : PE X b tb) (na1 : starEach [a, b] X.env = (false, eval a X.env) :: starEach [b] X.env := by rfl) (nb : starEach [b] X.env = (false, eval b X.env) :: starEach [] X.env := by rfl) (hp : (backTo pos' (starEach [b] X.env)).any (·.1) = false := by rfl)
    (na : starEach [.Call (.Name "range" p') [a, b] [] pos'] X.env = (false, eval (.Call (.Name "range" p') [a, b] [] pos') X.env) :: starEach [] X.env := by rfl) :
    PE X (.Call (.Name "list" p) [.Call (.Name "range" p') [a, b] [] pos'] [] pos) (fun σ H Q => ta σ H fun x H1 => tb σ H1 fun y H2 => ∃ i j, x = .int i ∧ y = .int j ∧ RgOk i j ∧ New H2 (fun _ => .lst (rgV i j)) Q) := by
  refine PE.imp (pe_listRg hc hg hm (prg_2 hg' hm' (PE.cl ha) (PE.cl hb) na1 nb hp) na) fun σ H Q q => ⟨_, q, fun v H1 z => ⟨_, z, fun y H2 z => ?_⟩⟩
  obtain ⟨i, j, e, e', ok, nw⟩ := z
  exact ⟨i, j, e, e', ok, fun q hq => nw.at hq⟩
theorem cr_sortedIS (K : W.Frag) (h : X.K = K) : CallR X (.builtin "sorted") (fun vs H Q => ∃ (a : Addr) (ns : List Int), vs = [V.ref a] ∧ SqL K H a (ns.map V.int) ∧ ∀ ns' : List Int, ns'.Perm ns → ns'.Pairwise (· ≤ ·) → New H (fun _ => .lst (ns'.map V.int)) Q) := by
  subst h
  intro pins s σ H xs us Q I r h
  obtain ⟨a, ns, e, hS, q⟩ := h
  exact cr_sortedI pins s σ H xs us Q I r ⟨a, ns, e, hS, fun ns' p h1 h2 hp => (q ns' h1 h2).at hp⟩
theorem call_listDS (hc : X.calm = true) : CallR X (.type "list") (fun xs H Q => ∃ (a : Addr) (kvs : List (Key × V)), xs = [.ref a] ∧ H a = some (.dK kvs) ∧ New H (fun _ => .lst (kvs.map fun kv => kV kv.1)) Q) := by
  intro pins s σ H xs us Q I r h
  obtain ⟨a, kvs, e, hd, q⟩ := h
  exact call_listD hc pins s σ H xs us Q I r ⟨a, kvs, e, .inl hd, fun p hp => q.at hp⟩
theorem call_listS (K : W.Frag) (h : X.K = K) : CallR X (.type "list") (fun xs H Q => ∃ (p : Addr) (ys : List V), xs = [.ref p] ∧ Sq K H p ys ∧ New H (fun _ => .lst ys) Q) := by
  subst h
  intro pins s σ H xs us Q I r h
  obtain ⟨p, ys, e, hS, q⟩ := h
  exact call_list_of pins s σ H xs us Q I r ⟨p, ys, e, hS, fun l hl => q.at hl⟩
end
end EW
end

section
set_option maxHeartbeats 4000000
namespace EW
open PySem PySem.Spec PyProof.Rows L2
/-! ### name = {k: v for ..}; walks over the keys of a dict -/
section
variable {X : Cx}
theorem ps_setDc {i : Nat} {y : Str} {py : Pos} {kx vx tg iter : Expr} {ifs : List Expr} {scope : Scope} {own : List (Str × Nat)} {pos spos : Pos} {wi : TI} {g : TG} {tt : TT} {tk tv : TE} (hc : X.calm = true) (hN : X.N.Nodup) (hy : X.N[i]? = some y) (hyl : X.env.scope.names.lookup y = some .local)
    (hsw : swapsWith (.DictComp kx vx [⟨tg, iter, ifs, 0⟩] scope pos) (some (.Name y py)) spos.line X.env = pure true) (hi : PI X tg iter wi) (ok : BlkOk X.N X.env.scope scope own)
    (hg : ∀ (s : Shared) (H : Hp) (C : Addr) (cl : List (Str × Addr)) (fp : List Addr), PG (X.blk s H scope (compEnvC scope cl C X.env) fp) tg g) (ht : ∀ (s : Shared) (H : Hp) (C : Addr) (cl : List (Str × Addr)) (fp : List Addr), PTs (X.blk s H scope (compEnvC scope cl C X.env) fp) ifs tt)
    (hk : ∀ (s : Shared) (H : Hp) (C : Addr) (cl : List (Str × Addr)) (fp : List Addr), PE (X.blk s H scope (compEnvC scope cl C X.env) fp) kx tk)
    (he : ∀ (s : Shared) (H : Hp) (C : Addr) (cl : List (Str × Addr)) (fp : List Addr), PE (X.blk s H scope (compEnvC scope cl C X.env) fp) vx tv) (hs : ∀ x, foldedSetIterable iter X.env x = pure x := by intro _; rfl) :
    PS X (.Assign [.Name y py] (.DictComp kx vx [⟨tg, iter, ifs, 0⟩] scope pos) spos) (tAsg (tDc wi g tt tk tv (own.map (·.2))) (gName i)) := by
  refine ⟨fun pins s σ H D I h => ?_⟩
  rw [exec_Assign_Name_used _ _ _ _ hsw]
  refine wpAny_bind (wpAny_standAt (wpAny_bind ?_))
  show wpAny _ X.A (do let _ ← comprehension (.DictComp kx vx [⟨tg, iter, ifs, 0⟩] scope pos) scope X.env (firstIterPos [⟨tg, iter, ifs, 0⟩] pos) newDict false (eval iter X.env) (some (assign (.Name y py) X.env))) _ _ s
  have h : tDc wi g tt tk tv (own.map (·.2)) σ H (fun x H1 => gName i x σ H1 D.nx) := h
  refine wpAny_bind (thn (dc_core (Qf := fun _ s' => SP X pins D .next s') hc hN I hi ok hg ht hk he hs h fun L C s' m H' I' q hn f => ?_) fun _ s' hq => wpAny_pure (wpAny_pure hq))
  show wpAny _ _ (assign (.Name y py) X.env (.ref L)) _ _ _
  refine wpAny_assign_Name (store_ok2 (v := V.ref L) I' hN hy (.inl hyl) rfl (fun s2 I2 ⟨a, sb, ha⟩ => ?_) (.inr hyl))
  obtain ⟨f0, f1, f2, f3, f4, f5⟩ := f
  have haC : C ≠ a := by
    rcases ha with z | z
    · rw [z]; exact f1
    · exact fun e => f4 y a z e.symm
  refine ⟨m, hn.sameBut sb haC, fun h3 sb3 => ?_⟩
  exact ⟨_, H', I2.turned (t' := s2.toks) (fun b o hb e => (sb3.2 b hb).trans e) f0 f1 f3 f4 f5, q⟩
theorem sw_trueD {kx vx : Expr} {gs : List Comprehension} {scope : Scope} {pos py : Pos} {y : Str} {l : Nat} {env : Env} (hk : env.scope.kind = .function) (hy : env.scope.names.lookup y = some .local) (hl : (py.line == pos.line) = true)
    (ha : (scope.names.any fun (n, k) => n == y && (k == .local || k == .cell)) = false) : swapsWith (.DictComp kx vx gs scope pos) (some (.Name y py)) l env = pure true := by
  have ky : env.kindOf y = some .local := hy
  have hb : env.blockKind = .function := by unfold Env.blockKind; rw [hk]; rfl
  unfold swapsWith
  simp only [hb, ky, ha, Expr.pos, hl]
  rfl
end
theorem loop_keys {d : Addr} {o : Obj} {kvs : List (Key × V)} {H0 : Hp} {Qd : Hp → Prop} {B : V → Hp → (Hp → Prop) → Prop} (Pv : Nat → Hp → Prop) (h0 : Pv 0 H0) (hl : ∀ i H, i ≤ kvs.length → Pv i H → H d = some (.frz o (.dK kvs)))
    (hs : ∀ i k v H, kvs[i]? = some (k, v) → Pv i H → B (kV k) H (Pv (i + 1))) (hd : ∀ H, Pv kvs.length H → Qd H) :
    ∃ W : Nat → Nat → Hp → Prop, (∃ m, W 0 m H0) ∧ ∀ i m H, W i m H → ((Itk d o kvs).stop i H ∧ Qd H) ∨ ((Itk d o kvs).go i H ∧ ∃ Nx : Hp → Prop, (∀ H', Nx H' → ∃ m', m' < m ∧ W (i + 1) m' H') ∧ ∀ x H', (Itk d o kvs).yld i H x H' → B x H' Nx) := by
  refine ⟨fun i m H => m = kvs.length - i ∧ i ≤ kvs.length ∧ Pv i H, ⟨kvs.length, rfl, Nat.zero_le _, h0⟩, ?_⟩
  rintro i m H ⟨rfl, hi, p⟩
  have q := hl i H hi p
  rcases Nat.lt_or_ge i kvs.length with hlt | hge
  · refine .inr ⟨⟨q, hlt⟩, Pv (i + 1), fun H' p' => ⟨kvs.length - (i + 1), by omega, rfl, hlt, p'⟩, fun x H' y => ?_⟩
    obtain ⟨rfl, k, v, hk, rfl⟩ := y
    exact hs i k v _ hk p
  · have e : i = kvs.length := by omega
    subst e
    exact .inl ⟨⟨q, Nat.le_refl _⟩, hd H p⟩
/-- the keys are the ints of S -/
structure KeysOf (kvs : List (Key × V)) (S : Int → Prop) : Prop where
  int : ∀ q ∈ kvs, ∃ r : Int, q.1 = Sum.inl r ∧ S r
  all : ∀ r : Int, S r ↔ (valV kvs (Sum.inl r : Key)).isSome = true
theorem keys_nil {S : Int → Prop} (h : ∀ r, ¬ S r) : KeysOf [] S := ⟨(fun q hq => nomatch hq), fun r => ⟨fun q => absurd q (h r), fun q => nomatch q⟩⟩
theorem KeysOf.congr {kvs : List (Key × V)} {S U : Int → Prop} (h : KeysOf kvs S) (e : ∀ r, S r ↔ U r) : KeysOf kvs U :=
  ⟨fun q hq => let ⟨r, h1, h2⟩ := h.int q hq; ⟨r, h1, (e r).mp h2⟩, fun r => (e r).symm.trans (h.all r)⟩
theorem KeysOf.put {kvs : List (Key × V)} {S : Int → Prop} {r : Int} {v : V} (h : KeysOf kvs S) : KeysOf (putK kvs (Sum.inl r) v) (fun x => S x ∨ x = r) := by
  refine ⟨fun q hq => ?_, fun x => ?_⟩
  · cases e : valV kvs (Sum.inl r : Key) with
    | none =>
      rw [putK_new v e] at hq
      rcases List.mem_append.mp hq with hq | hq
      · obtain ⟨y, h1, h2⟩ := h.int q hq
        exact ⟨y, h1, .inl h2⟩
      · rw [List.mem_singleton.mp hq]
        exact ⟨r, rfl, .inr rfl⟩
    | some w =>
      have ep : putK kvs (Sum.inl r : Key) v = kvs.map (fun kv => if kv.1 = Sum.inl r then (kv.1, v) else kv) := by
        unfold putK
        rw [valV_any, e]
        rfl
      rw [ep] at hq
      obtain ⟨q', hq', rfl⟩ := List.mem_map.mp hq
      obtain ⟨y, h1, h2⟩ := h.int q' hq'
      refine ⟨y, ?_, .inl h2⟩
      split
      · exact h1
      · exact h1
  · rw [valV_put]
    by_cases c : (Sum.inl x : Key) = Sum.inl r
    · rw [if_pos c]
      have e : x = r := by injection c
      exact ⟨fun _ => rfl, fun _ => .inr e⟩
    · rw [if_neg c, ← h.all]
      exact ⟨fun q => q.elim (fun q => q) fun e => absurd (congrArg Sum.inl e) c, .inl⟩
theorem putK_le (kvs : List (Key × V)) (k : Key) (v : V) : (putK kvs k v).length ≤ kvs.length + 1 := by
  have := length_putK kvs k v
  omega
end EW
end

section
set_option maxHeartbeats 4000000
namespace EW
open PySem PySem.Spec PyProof.Rows L2
/-! ### spans as data -/
def spanD (s : Rn.Sp3) : PyData := .tuple [od s.res, od s.lo, od s.hi]
section
variable {K : W.Frag} {H H' : Hp} {v : V} {Q : VK} {X : Cx}
theorem span_dp {s : Rn.Sp3} (h : Sn K H v s) : Dp K H v (spanD s) := by
  obtain ⟨a, rfl, q⟩ := h
  exact .tup q (.cons (od_dp _) (.cons (od_dp _) (.cons (od_dp _) .nil)))
theorem spans_dp : ∀ {vs : List V} {ss : List Rn.Sp3}, Sns K H vs ss → DpAll K H vs (ss.map spanD)
  | _, _, .nil => .nil
  | _, _, .cons h t => .cons (span_dp h) (spans_dp t)
theorem span_lay (s : Rn.Sp3) : (spanD s).canLay0 = true := by simp [spanD, PyData.canLay0, PyData.canLayAll0, od_lay]
theorem spans_lay : ∀ ss : List Rn.Sp3, PyData.canLayAll0 (ss.map spanD) = true
  | [] => by simp [PyData.canLayAll0]
  | z :: zs => by simp [PyData.canLayAll0, span_lay, spans_lay zs]
theorem span_depth (z : Rn.Sp3) : (spanD z).depth = 1 := by simp [spanD, PyData.depth, PyData.depthAll, od_depth]
theorem spans_depth : ∀ zs : List Rn.Sp3, PyData.depthAll (zs.map spanD) ≤ 1
  | [] => by simp [PyData.depthAll]
  | z :: zs => by
    have h := spans_depth zs
    simp [PyData.depthAll, span_depth]
    omega
theorem spans_shaped (zs : List Rn.Sp3) : SeqAt.shaped (.list (zs.map spanD)) = true := by
  have h := spans_depth zs
  simp [SeqAt.shaped, PyData.canLay0, PyData.depth, spans_lay]
  omega
theorem sn_of_dp (s : Rn.Sp3) (h : Dp K H v (.tuple [od s.res, od s.lo, od s.hi])) : Sn K H v s := by
  have ob_of : ∀ {w : V} {o : Option Int}, Dp K H w (od o) → w = ob o := fun {w o} h => by
    cases o with
    | none => cases h; rfl
    | some i => cases h; rfl
  cases h with
  | tup hs ha =>
    cases ha with
    | cons h1 ha =>
      cases ha with
      | cons h2 ha =>
        cases ha with
        | cons h3 ha =>
          cases ha
          rw [ob_of h1, ob_of h2, ob_of h3] at hs
          exact ⟨_, rfl, hs⟩
theorem ints_dp : ∀ ns : List Int, DpAll K H (ns.map V.int) (ns.map PyData.int)
  | [] => .nil
  | b :: bs => .cons (.int b) (ints_dp bs)
theorem ints_lay : ∀ bs : List Int, PyData.canLayAll0 (bs.map PyData.int) = true
  | [] => by simp [PyData.canLayAll0]
  | b :: bs => by simp [PyData.canLayAll0, PyData.canLay0, ints_lay bs]
theorem ints_depth : ∀ bs : List Int, PyData.depthAll (bs.map PyData.int) = 0
  | [] => by simp [PyData.depthAll]
  | b :: bs => by simp [PyData.depthAll, PyData.depth, ints_depth bs]
theorem shaped_ints (bs : List Int) : SeqAt.shaped (.list (bs.map PyData.int)) = true := by
  simp [SeqAt.shaped, PyData.canLay0, PyData.depth, ints_lay, ints_depth]
theorem cr_minK {X : Cx} (K : W.Frag) (h : X.K = K) (hc : X.calm = true) : CallR X (.builtin "min") (rMin K) := by
  subst h
  exact cr_min hc
theorem nil_shaped : SeqAt.shaped (.list []) = true := by simp [SeqAt.shaped, PyData.canLay0, PyData.canLayAll0, PyData.depth, PyData.depthAll]
theorem list_nil_eqv (ds : List PyData) : PyData.eqv (.list ds) (.list []) = ds.isEmpty := by
  rw [PyData.eqv]
  cases ds <;> simp [PyData.eqvAll]
/-- a list against [] -/
theorem neNil {x y : V} {ds : List PyData} (hx : Dp K H x (.list ds)) (hs : SeqAt.shaped (.list ds) = true) (hy : Dp K H y (.list [])) (k : Q (.bl (!ds.isEmpty)) H) : rNeD K x y H Q :=
  ⟨_, _, hx, hy, hs, nil_shaped, by rw [list_nil_eqv]; exact k⟩
theorem eqNil {x y : V} {ds : List PyData} (hx : Dp K H x (.list ds)) (hs : SeqAt.shaped (.list ds) = true) (hy : Dp K H y (.list [])) (k : Q (.bl ds.isEmpty) H) : rEqD K x y H Q :=
  ⟨_, _, hx, hy, hs, nil_shaped, by rw [list_nil_eqv]; exact k⟩
theorem seqIx {j n : Nat} (h : j < n) : seqIndex? (j : Int) n = some j := by
  unfold seqIndex?
  have h1 : ¬ ((j : Int) < 0) := by omega
  have h2 : ¬ ((j : Int) ≥ (n : Int)) := by omega
  simp [h1, h]
end
end EW
end

section
set_option maxHeartbeats 4000000
/-! EwShp: texts in order; kinds, shapes as dicts. -/
namespace EW
open PySem PySem.Spec PyProof.Rows L2
theorem loop_str {z : Str} {H0 : Hp} {Qd : Hp → Prop} {B : V → Hp → (Hp → Prop) → Prop} (Pv : Nat → Hp → Prop) (h0 : Pv 0 H0)
    (hs : ∀ i c H, z.cps.toList[i]? = some c → Pv i H → B (.str ⟨#[c]⟩) H (Pv (i + 1))) (hd : ∀ H, Pv z.cps.toList.length H → Qd H) :
    ∃ W : Nat → Nat → Hp → Prop, (∃ m, W 0 m H0) ∧ ∀ i m H, W i m H → ((Its z).stop i H ∧ Qd H) ∨ ((Its z).go i H ∧ ∃ Nx : Hp → Prop, (∀ H', Nx H' → ∃ m', m' < m ∧ W (i + 1) m' H') ∧ ∀ x H', (Its z).yld i H x H' → B x H' Nx) := by
  have el : z.cps.toList.length = z.cps.size := by simp
  refine ⟨fun i m H => m = z.cps.size - i ∧ i ≤ z.cps.size ∧ Pv i H, ⟨z.cps.size, rfl, Nat.zero_le _, h0⟩, ?_⟩
  rintro i m H ⟨rfl, hi, p⟩
  rcases Nat.lt_or_ge i z.cps.size with hlt | hge
  · refine .inr ⟨hlt, Pv (i + 1), fun H' p' => ⟨z.cps.size - (i + 1), by omega, rfl, hlt, p'⟩, fun x H' y => ?_⟩
    obtain ⟨rfl, c, hc, rfl⟩ := y
    exact hs i c _ (by rw [Array.getElem?_toList]; exact hc) p
  · obtain rfl : i = z.cps.size := by omega
    exact .inl ⟨Nat.le_refl _, hd H (by rw [el]; exact p)⟩
/-! ### texts in order -/
def leS (a b : Str) : Prop := ¬ b.cps.toList < a.cps.toList
theorem leS_anti {a b : Str} (h : leS a b) (h' : leS b a) : a = b := by
  have e : a.cps.toList = b.cps.toList := List.le_antisymm (Std.not_lt.mp h) (Std.not_lt.mp h')
  obtain ⟨⟨x⟩⟩ := a
  obtain ⟨⟨y⟩⟩ := b
  have e : x = y := e
  rw [e]
theorem leS_trans {a b c : Str} (h : leS a b) (h' : leS b c) : leS a c := Std.not_lt.mpr (List.le_trans (Std.not_lt.mp h) (Std.not_lt.mp h'))
theorem pw_rising : ∀ (l : List Str) (p : Str), risingS p l = true → (p :: l).Pairwise leS
  | [], p, _ => List.pairwise_singleton ..
  | x :: r, p, h => by
    have h : (!PySem.Spec.ltCps x.cps.toList p.cps.toList && risingS x r) = true := h
    rw [Bool.and_eq_true] at h
    have ih := pw_rising r x h.2
    have px : leS p x := fun z => by
      have q := h.1
      rw [ltCps_eq, decide_eq_true z] at q
      cases q
    refine List.pairwise_cons.mpr ⟨fun y hy => ?_, ih⟩
    rcases List.mem_cons.mp hy with rfl | hy
    · exact px
    · exact leS_trans px ((List.pairwise_cons.mp ih).1 y hy)
theorem pw_sortedS {l : List Str} (h : sortedS l = true) : l.Pairwise leS := by
  cases l with
  | nil => exact .nil
  | cons x r => exact pw_rising r x h
theorem sorted_uniq {l m : List Str} (p : l.Perm m) (h : sortedS l = true) (h' : sortedS m = true) : l = m :=
  List.Perm.eq_of_pairwise (fun a b _ _ h h' => leS_anti h h') (pw_sortedS h) (pw_sortedS h') p
end EW
end

section
set_option maxHeartbeats 4000000
/-! EwPrs: lists of pairs (lo, hi) of bounds, as values and as data. -/
namespace EW
open PySem PySem.Spec PyProof.Rows L2
abbrev OO := Option Int × Option Int
abbrev Prs (K : W.Frag) (H : Hp) (vs : List V) (ys : List OO) : Prop := Paired (fun v y => Tp K H v [ob y.1, ob y.2]) vs ys
def pairD (y : OO) : PyData := .tuple [od y.1, od y.2]
section
variable {K : W.Frag} {H H' : Hp} {v : V} {vs xs : List V} {l : Addr}
theorem Prs.same {ys : List OO} (h : Prs K H vs ys) (s : Same H H') : Prs K H' vs ys := Paired.mono (fun _ _ q => Tp.same q s) h
theorem Prs.kept {ys : List OO} (h : Prs K H vs ys) (hl : H l = some (.lst xs)) (k : Kept l H H') : Prs K H' vs ys := Paired.mono (fun _ _ q => Tp.kept q hl k) h
theorem prs_dp : ∀ {vs : List V} {ys : List OO}, Prs K H vs ys → DpAll K H vs (ys.map pairD)
  | _, _, .nil => .nil
  | _, _, .cons ⟨_, e, q⟩ t => .cons (e ▸ .tup q (.cons (od_dp _) (.cons (od_dp _) .nil))) (prs_dp t)
end
theorem pair_lay (y : OO) : (pairD y).canLay0 = true := by simp [pairD, PyData.canLay0, PyData.canLayAll0, od_lay]
theorem pairs_lay : ∀ ys : List OO, PyData.canLayAll0 (ys.map pairD) = true
  | [] => by simp [PyData.canLayAll0]
  | z :: zs => by simp [PyData.canLayAll0, pair_lay, pairs_lay zs]
theorem pair_depth (y : OO) : (pairD y).depth = 1 := by simp [pairD, PyData.depth, PyData.depthAll, od_depth]
theorem pairs_depth : ∀ ys : List OO, PyData.depthAll (ys.map pairD) ≤ 1
  | [] => by simp [PyData.depthAll]
  | z :: zs => by
    have h := pairs_depth zs
    simp [PyData.depthAll, pair_depth]
    omega
theorem pair_shaped (y : OO) : SeqAt.shaped (pairD y) = true := by
  simp [SeqAt.shaped, pair_lay, pair_depth]
theorem pairs_shaped (ys : List OO) : SeqAt.shaped (.list (ys.map pairD)) = true := by
  have h := pairs_depth ys
  simp [SeqAt.shaped, PyData.canLay0, PyData.depth, pairs_lay]
  omega
theorem pair_eqv (x y : OO) : PyData.eqv (pairD x) (pairD y) = decide (x = y) := by
  obtain ⟨a, b⟩ := x
  obtain ⟨c, d⟩ := y
  simp only [pairD, PyData.eqv, PyData.eqvAll, od_eqv, Bool.and_true]
  by_cases h1 : a = c <;> by_cases h2 : b = d <;> simp [h1, h2]
theorem pairs_eqvAll : ∀ xs ys : List OO, PyData.eqvAll (xs.map pairD) (ys.map pairD) = decide (xs = ys)
  | [], [] => by simp [PyData.eqvAll]
  | [], y :: ys => by simp [PyData.eqvAll]
  | x :: xs, [] => by simp [PyData.eqvAll]
  | x :: xs, y :: ys => by
    rw [List.map_cons, List.map_cons, PyData.eqvAll, pair_eqv, pairs_eqvAll xs ys]
    by_cases h1 : x = y
    · by_cases h2 : xs = ys
      · simp [h1, h2]
      · simp [h1, h2]
    · simp [h1]
theorem pairs_eqv (xs ys : List OO) : PyData.eqv (.list (xs.map pairD)) (.list (ys.map pairD)) = decide (xs = ys) := by
  rw [PyData.eqv]
  exact pairs_eqvAll xs ys
end EW
end

section
set_option maxHeartbeats 4000000
/-! EwZone: zones; what the zone functions compute; moved zones. -/
namespace Zn
open EW (OO)
structure Z where
  vs : List PySem.Str
  ss : List Rn.Sp3
  g : OO
abbrev Q3 := OO × OO × OO
def grt (a b : Option Int) : Option Int := match a, b with
  | none, b => b
  | some u, none => some u
  | some u, some v => some (if v > u then v else u)
def lst (a b : Option Int) : Option Int := match a, b with
  | none, b => b
  | some u, none => some u
  | some u, some v => some (if v < u then v else u)
def pls (a b : Option Int) : Option Int := match a, b with
  | some u, some v => some (u + v)
  | _, _ => none
def mns (a b : Option Int) : Option Int := match a, b with
  | some u, some v => some (u - v)
  | _, _ => none
def rnd (p : Int) (r : Option Int) (q : OO) : OO := match r with
  | none => q
  | some r => (q.1.map (Rn.upTo p r), q.2.map (Rn.downTo p r))
def emp : OO → Bool
  | (some a, some b) => decide (b < a)
  | _ => false
def gres (p : Int) (a b : Option Int) : Option Int := match a, b with
  | some u, some v => some ((v - u) % p)
  | _, _ => none
def closed (f s g : OO) : Q3 :=
  ((grt f.1 (mns s.1 g.2), lst f.2 (mns s.2 g.1)), (grt s.1 (pls f.1 g.1), lst s.2 (pls f.2 g.2)), (grt g.1 (mns s.1 f.2), lst g.2 (mns s.2 f.1)))
def anyE (q : Q3) : Bool := emp q.1 || emp q.2.1 || emp q.2.2
def rnd3 (p : Int) (r : Option Int × Option Int × Option Int) (q : Q3) : Q3 := (rnd p r.1 q.1, rnd p r.2.1 q.2.1, rnd p r.2.2 q.2.2)
def step (p : Int) (r : Option Int × Option Int × Option Int) (q : Q3) : Option Q3 :=
  let a := rnd3 p r q
  if anyE a = true then none else
    let b := closed a.1 a.2.1 a.2.2
    if anyE b = true then none else some b
def tight (p : Int) (s t : Rn.Sp3) (g : OO) : Option (Rn.Sp3 × Rn.Sp3 × OO) :=
  ((step p (s.res, t.res, gres p s.res t.res) ((s.lo, s.hi), (t.lo, t.hi), g)).bind (step p (s.res, t.res, gres p s.res t.res))).map fun q => (⟨s.res, q.1.1, q.1.2⟩, ⟨t.res, q.2.1.1, q.2.1.2⟩, q.2.2)
def rndS (p : Int) (s : Rn.Sp3) : Rn.Sp3 := ⟨s.res, (rnd p s.res (s.lo, s.hi)).1, (rnd p s.res (s.lo, s.hi)).2⟩
def empS (s : Rn.Sp3) : Bool := emp (s.lo, s.hi)
def norm (p : Int) (z : Z) : Option Z := match z.ss with
  | [s, t] => (tight p s t z.g).map fun q => ⟨z.vs, [q.1, q.2.1], q.2.2⟩
  | ss => if (ss.map (rndS p)).any empS = true then none else some ⟨z.vs, ss.map (rndS p), (none, none)⟩
/-! ### moved -/
def sh (m : Int) (o : Option Int) : Option Int := o.map (· + m)
def shP (m : Int) (q : OO) : OO := (sh m q.1, sh m q.2)
def shS (p m : Int) (s : Rn.Sp3) : Rn.Sp3 := ⟨s.res.map fun r => (r + m) % p, sh m s.lo, sh m s.hi⟩
def moved (p : Int) (z : Z) (i : Nat) (m : Int) : Z := ⟨z.vs, match z.ss[i]? with
  | some s => z.ss.set i (shS p m s)
  | none => z.ss, shP (if i = 1 then m else -m) z.g⟩
section
variable {p m a b : Int} {q f s g : OO} {r r' : Option Int}
theorem sh_zero (o : Option Int) : sh 0 o = o := by cases o <;> simp [sh]
theorem shP_zero (q : OO) : shP 0 q = q := by
  obtain ⟨x, y⟩ := q
  simp [shP, sh_zero]
theorem grt_sh (x y : Option Int) : grt (sh m x) (sh m y) = sh m (grt x y) := by
  cases x <;> cases y <;> simp [grt, sh]
  split <;> rfl
theorem lst_sh (x y : Option Int) : lst (sh m x) (sh m y) = sh m (lst x y) := by
  cases x <;> cases y <;> simp [lst, sh]
  split <;> rfl
theorem pls_sh (x y : Option Int) : pls (sh a x) (sh b y) = sh (a + b) (pls x y) := by
  cases x <;> cases y <;> simp [pls, sh]
  omega
theorem mns_sh (x y : Option Int) : mns (sh a x) (sh b y) = sh (a - b) (mns x y) := by
  cases x <;> cases y <;> simp [mns, sh]
  omega
theorem closed_sh : closed (shP a f) (shP b s) (shP (b - a) g) = (shP a (closed f s g).1, shP b (closed f s g).2.1, shP (b - a) (closed f s g).2.2) := by
  unfold closed shP
  simp only [mns_sh, pls_sh, show b - (b - a) = a by omega, show a + (b - a) = b by omega, grt_sh, lst_sh]
theorem emp_sh : emp (shP m q) = emp q := by
  obtain ⟨x, y⟩ := q
  cases x <;> cases y <;> simp [emp, shP, sh]
/-- a residue moved along -/
def Mv (p m : Int) : Option Int → Option Int → Prop
  | none, none => True
  | some r, some r' => r' % p = (r + m) % p
  | _, _ => False
theorem mod_sub (x y p : Int) : (x % p - y) % p = (x - y) % p := by rw [Int.sub_emod, Int.emod_emod, ← Int.sub_emod]
theorem sub_mod (x y p : Int) : (x - y % p) % p = (x - y) % p := by rw [Int.sub_emod, Int.emod_emod, ← Int.sub_emod]
theorem rnd_sh (h : Mv p m r r') : rnd p r' (shP m q) = shP m (rnd p r q) := by
  obtain ⟨x, y⟩ := q
  cases r with
  | none =>
    cases r' with
    | none => rfl
    | some _ => exact h.elim
  | some r =>
    cases r' with
    | none => exact h.elim
    | some r' =>
      have h : r' % p = (r + m) % p := h
      have u : ∀ l : Int, Rn.upTo p r' (l + m) = Rn.upTo p r l + m := fun l => by
        unfold Rn.upTo
        rw [← mod_sub, h, mod_sub, show r + m - (l + m) = r - l by omega]
        omega
      have d : ∀ l : Int, Rn.downTo p r' (l + m) = Rn.downTo p r l + m := fun l => by
        unfold Rn.downTo
        rw [← sub_mod, h, sub_mod, show l + m - (r + m) = l - r by omega]
        omega
      cases x <;> cases y <;> simp [rnd, shP, sh, u, d]
theorem anyE_sh {f s g : OO} : anyE (shP a f, shP b s, shP m g) = anyE (f, s, g) := by simp only [anyE, emp_sh]
theorem step_sh {r1 r2 r3 q1 q2 q3 : Option Int} {x : Q3} (h1 : Mv p a r1 q1) (h2 : Mv p b r2 q2) (h3 : Mv p (b - a) r3 q3) :
    step p (q1, q2, q3) (shP a x.1, shP b x.2.1, shP (b - a) x.2.2) = (step p (r1, r2, r3) x).map fun y => (shP a y.1, shP b y.2.1, shP (b - a) y.2.2) := by
  unfold step rnd3
  dsimp only
  rw [rnd_sh h1, rnd_sh h2, rnd_sh h3, anyE_sh, closed_sh, anyE_sh]
  by_cases c : anyE (rnd p r1 x.1, rnd p r2 x.2.1, rnd p r3 x.2.2) = true
  · rw [if_pos c, if_pos c]
    rfl
  · rw [if_neg c, if_neg c]
    by_cases d : anyE (closed (rnd p r1 x.1) (rnd p r2 x.2.1) (rnd p r3 x.2.2)) = true
    · rw [if_pos d, if_pos d]
      rfl
    · rw [if_neg d, if_neg d]
      rfl
theorem gres_mv {r1 r2 q1 q2 : Option Int} (h1 : Mv p a r1 q1) (h2 : Mv p b r2 q2) : Mv p (b - a) (gres p r1 r2) (gres p q1 q2) := by
  cases r1 <;> cases q1 <;> cases r2 <;> cases q2 <;> try exact h1.elim
  all_goals try exact h2.elim
  all_goals try trivial
  rename_i x y z w
  have h1 : y % p = (x + a) % p := h1
  have h2 : w % p = (z + b) % p := h2
  show (w - y) % p % p = ((z - x) % p + (b - a)) % p
  rw [Int.emod_emod, Int.emod_add_emod, ← sub_mod, h1, sub_mod, ← mod_sub, h2, mod_sub]
  congr 1
  omega
theorem tight_sh {s t s' t' : Rn.Sp3} (h1 : Mv p a s.res s'.res) (h2 : Mv p b t.res t'.res) (l1 : s'.lo = sh a s.lo) (l2 : s'.hi = sh a s.hi) (l3 : t'.lo = sh b t.lo) (l4 : t'.hi = sh b t.hi) :
    tight p s' t' (shP (b - a) g) = (tight p s t g).map fun q => (⟨s'.res, sh a q.1.lo, sh a q.1.hi⟩, ⟨t'.res, sh b q.2.1.lo, sh b q.2.1.hi⟩, shP (b - a) q.2.2) := by
  have h3 := gres_mv h1 h2
  have e1 := step_sh (x := ((s.lo, s.hi), (t.lo, t.hi), g)) h1 h2 h3
  unfold tight
  rw [l1, l2, l3, l4]
  have e1 : step p (s'.res, t'.res, gres p s'.res t'.res) ((sh a s.lo, sh a s.hi), (sh b t.lo, sh b t.hi), shP (b - a) g) = _ := e1
  rw [e1]
  cases step p (s.res, t.res, gres p s.res t.res) ((s.lo, s.hi), (t.lo, t.hi), g) with
  | none => rfl
  | some y =>
    show Option.map _ (step p (s'.res, t'.res, gres p s'.res t'.res) (shP a y.1, shP b y.2.1, shP (b - a) y.2.2)) = _
    rw [step_sh (x := y) h1 h2 h3]
    show _ = Option.map _ (Option.map _ (step p (s.res, t.res, gres p s.res t.res) y))
    cases step p (s.res, t.res, gres p s.res t.res) y with
    | none => rfl
    | some w => rfl
theorem mv_self : Mv p 0 r r := by
  cases r with
  | none => trivial
  | some r => show r % p = (r + 0) % p; rw [Int.add_zero]
theorem mv_sh : Mv p m r (r.map fun r => (r + m) % p) := by
  cases r with
  | none => trivial
  | some r => show (r + m) % p % p = _; rw [Int.emod_emod]
theorem rndS_sh {s : Rn.Sp3} : rndS p (shS p m s) = shS p m (rndS p s) := by
  obtain ⟨r, l, h⟩ := s
  have e := rnd_sh (q := (l, h)) (mv_sh (p := p) (m := m) (r := r))
  unfold rndS shS
  dsimp only
  have e : rnd p (r.map fun r => (r + m) % p) (sh m l, sh m h) = _ := e
  rw [e]
  rfl
theorem empS_sh {s : Rn.Sp3} : empS (shS p m s) = empS s := emp_sh (q := (s.lo, s.hi))
end
/-- the normal zone moves along -/
theorem norm_moved {p m : Int} {z : Z} {i : Nat} (hz : z.ss.length ≤ 2) (hi : i < z.ss.length) : norm p (moved p z i m) = (norm p z).map fun y => moved p y i m := by
  obtain ⟨vs, ss, g⟩ := z
  match ss, hz, hi with
  | [s], _, hi =>
    have hi : i < 1 := hi
    obtain rfl : i = 0 := by omega
    show (if ([rndS p (shS p m s)].any empS) = true then none else some (⟨vs, [rndS p (shS p m s)], (none, none)⟩ : Z)) = Option.map _ (if ([rndS p s].any empS) = true then none else some (⟨vs, [rndS p s], (none, none)⟩ : Z))
    rw [rndS_sh]
    simp only [List.any_cons, List.any_nil, Bool.or_false, empS_sh]
    split
    · rfl
    · rfl
  | [s, t], _, hi =>
    have hi : i < 2 := hi
    by_cases c : i = 0
    · subst c
      have q := tight_sh (p := p) (a := m) (b := 0) (g := g) (s := s) (t := t) (s' := shS p m s) (t' := t) mv_sh mv_self rfl rfl (sh_zero _).symm (sh_zero _).symm
      rw [show (0 : Int) - m = -m by omega] at q
      show Option.map _ (tight p (shS p m s) t (shP (-m) g)) = Option.map _ (Option.map _ (tight p s t g))
      rw [q]
      cases e : tight p s t g with
      | none => rfl
      | some w =>
        have r1 : w.1.res = s.res ∧ w.2.1.res = t.res := by
          unfold tight at e
          obtain ⟨y, _, rfl⟩ := Option.map_eq_some_iff.mp e
          exact ⟨rfl, rfl⟩
        obtain ⟨⟨a1, a2, a3⟩, ⟨b1, b2, b3⟩, c⟩ := w
        obtain ⟨rfl, rfl⟩ := r1
        show some (⟨vs, [_, ⟨_, sh 0 b2, sh 0 b3⟩], _⟩ : Z) = _
        rw [sh_zero, sh_zero]
        rfl
    · obtain rfl : i = 1 := by omega
      have q := tight_sh (p := p) (a := 0) (b := m) (g := g) (s := s) (t := t) (s' := s) (t' := shS p m t) mv_self mv_sh (sh_zero _).symm (sh_zero _).symm rfl rfl
      rw [show m - (0 : Int) = m by omega] at q
      show Option.map _ (tight p s (shS p m t) (shP m g)) = Option.map _ (Option.map _ (tight p s t g))
      rw [q]
      cases e : tight p s t g with
      | none => rfl
      | some w =>
        have r1 : w.1.res = s.res ∧ w.2.1.res = t.res := by
          unfold tight at e
          obtain ⟨y, _, rfl⟩ := Option.map_eq_some_iff.mp e
          exact ⟨rfl, rfl⟩
        obtain ⟨⟨a1, a2, a3⟩, ⟨b1, b2, b3⟩, c⟩ := w
        obtain ⟨rfl, rfl⟩ := r1
        show some (⟨vs, [⟨_, sh 0 a2, sh 0 a3⟩, _], _⟩ : Z) = _
        rw [sh_zero, sh_zero]
        rfl
end Zn
end

section
set_option maxHeartbeats 2000000
/-! EwZipX: zip(l, t), l a list and t a tuple; walks over zips in comprehensions. -/
namespace EW
open PySem PySem.Spec PyProof.Rows L2
/-- the list at a and the tuple at b, as they stand at each turn -/
def ItzX (K : W.Frag) (a b : Addr) : It :=
  ⟨fun n H => ∃ (us vs : List V) (u v : V), SqL K H a us ∧ SqT K H b vs ∧ us[n]? = some u ∧ vs[n]? = some v,
    fun n H z H' => ∃ c u v, z = .ref c ∧ H c = none ∧ H' = upd H c (.tup [u, v]) ∧ (∀ us, SqL K H a us → us[n]? = some u) ∧ ∀ vs, SqT K H b vs → vs[n]? = some v,
    fun n H => ∃ us vs : List V, SqL K H a us ∧ SqT K H b vs ∧ ((n = us.length ∧ n ≤ vs.length) ∨ (n = vs.length ∧ n ≤ us.length))⟩
theorem zx_sep {z TI TO i1 i2 a b : Addr} (D : ZipApart z TI TO i1 i2 a b) : ZipSep2 z TI TO i1 i2 [i1, a] [i2, b] where
  TIz := D.TIz
  TOz := D.TOz
  TITO := D.TITO
  TIi1 := D.TIi1
  mem1 := by simp
  zf1 := by simp [D.i1z.symm, D.l1z.symm]
  Tf1 := by simp [D.TOi1, D.l1TO.symm]
  TIi2 := D.TIi2
  mem2 := by simp
  zf2 := by simp [D.i2z.symm, D.l2z.symm]
  Tf2 := by simp [D.TOi2, D.l2TO.symm]
  sep1_2 := by simp [D.i12, D.l2i1.symm]
  sep2_1 := by simp [D.i12.symm, D.l1i2.symm]
def ZxSt (z TI TO i1 i2 a b : Addr) (n : Nat) (h : Heap) : Prop := IsZip h z TI TO .none ∧ IsPair h TI (.ref i1) (.ref i2) ∧ (∃ u v, IsPair h TO u v) ∧ h.IsListIter i1 a n ∧ h.IsTupleIter i2 b n
theorem turn_zx {P : Program} {w : World} {K : W.Frag} {es : List Expr} {k : Nat} {tp : Pos} {a b z TI TO i1 i2 : Addr} (D : ZipApart z TI TO i1 i2 a b) :
    Turn P w K (.Tuple es k tp) (ItzX K a b) [z, TI, TO, i1, i2] z (ZxSt z TI TO i1 i2 a b) where
  mem := by simp
  obj := fun n h st c hc => by
    obtain ⟨hz, hI, ⟨u, v, hO⟩, ⟨o1, e1, _, d1⟩, ⟨o2, e2, _, d2⟩⟩ := st
    simp only [List.mem_cons, List.not_mem_nil, or_false] at hc
    rcases hc with rfl | rfl | rfl | rfl | rfl
    · exact ⟨_, hz, fun v q => nomatch q⟩
    · exact ⟨_, hI, fun v q => nomatch q⟩
    · exact ⟨_, hO, fun v q => nomatch q⟩
    · exact ⟨o1, e1, fun v q => by rw [d1] at q; cases q⟩
    · exact ⟨o2, e2, fun v q => by rw [d2] at q; cases q⟩
  keep := fun n h h' st k => by
    obtain ⟨hz, hI, ⟨u, v, hO⟩, s1, s2⟩ := st
    exact ⟨k z (by simp) _ hz, k TI (by simp) _ hI, ⟨u, v, k TO (by simp) _ hO⟩, s1.at fun o q => k i1 (by simp) o q, s2.at fun o q => k i2 (by simp) o q⟩
  item := by
    intro X hP hw hK hc n pins s σ H E I hf st hg
    subst hP hw hK
    obtain ⟨hz, hI, ⟨u0, v0, hO⟩, s1, s2⟩ := st
    obtain ⟨us, vs, u, v, qa, qb, hu, hv⟩ := hg
    obtain ⟨is1, r1, p1, _⟩ := I.list qa
    obtain ⟨is2, r2, p2, _⟩ := I.tuple qb
    have n1 : n < is1.toArray.size := by
      have := (List.getElem?_eq_some_iff.mp hu).1
      rw [r1.length] at this
      simpa using this
    have n2 : n < is2.toArray.size := by
      have := (List.getElem?_eq_some_iff.mp hv).1
      rw [r2.length] at this
      simpa using this
    have zl : z < s.heap.objs.size := Heap.lt_size hz
    have hh : X.A.in1.handled = none := I.ok.hd hc
    refine wpAny_pyNext_zipD2_item (zx_sep D) (Draws.list hh i1 a D.l1i1 is1.toArray) (Draws.tuple hh i2 b D.l2i2 is2.toArray) hz hI hO ⟨s1, p1.isList⟩ ⟨s2, p2⟩ n1 n2 fun x1 x2 h' tk g1 g2 z' O' t1 t2 hT sz hk => ?_
    obtain ⟨w1, hw1, rw1⟩ := r1.get hu
    obtain ⟨w2, hw2, rw2⟩ := r2.get hv
    have e1 : x1 = w1 := by
      have g1 : is1.toArray[n]? = some x1 := g1
      rw [List.getElem?_toArray, hw1] at g1
      exact (Option.some.inj g1).symm
    have e2 : x2 = w2 := by
      have g2 : is2.toArray[n]? = some x2 := g2
      rw [List.getElem?_toArray, hw2] at g2
      exact (Option.some.inj g2).symm
    subst e1 e2
    refine ⟨_, rfl, wpAny_letOwnedTupleGo_zip (s := { s with heap := h', toks := tk }) z' fun h2 z2 sb => ?_⟩
    have hT2 : IsPair h2 s.heap.objs.size x1 x2 := (sb.2 _ (Nat.ne_of_gt zl)).trans hT
    have new : ObjOk X.prog X.w (upd H s.heap.objs.size (.tup [u, v])) h2 s.heap.objs.size (.tup [u, v]) := ⟨by show 2 ≤ sizeLine; decide, [x1, x2], .cons rw1 (.cons rw2 .nil), ⟨_, hT2, rfl, _, rfl⟩⟩
    have I1 : Inv X pins σ (upd H s.heap.objs.size (.tup [u, v])) { s with heap := h2, toks := tk } :=
      I.turnedNew (t' := tk) (ch := [z, TI, TO, i1, i2]) (fun c o hb q => by
        simp only [List.mem_cons, List.not_mem_nil, or_false, not_or] at hb
        exact (sb.2 c hb.1).trans (hk c o hb.1 hb.2.2.1 hb.2.2.2.1 hb.2.2.2.2 q)) hf (Nat.le_refl _) new
    refine ⟨.ref s.heap.objs.size, _, I1, rfl, ⟨_, u, v, rfl, I.hok.fresh (Nat.le_refl _), rfl, fun l hl => by rw [I.list_inj hl qa]; exact hu, fun l hl => by rw [I.tuple_inj hl qb]; exact hv⟩, ⟨z2, ?_, ⟨x1, x2, ?_⟩, ?_, ?_⟩, fun c hcm => ?_⟩
    · exact (sb.2 _ D.TIz).trans (hk _ _ D.TIz D.TITO D.TIi1 D.TIi2 hI)
    · exact (sb.2 _ D.TOz).trans O'
    · exact t1.1.at fun o q => (sb.2 _ D.i1z).trans q
    · exact t2.1.at fun o q => (sb.2 _ D.i2z).trans q
    · have lt : c < s.heap.objs.size := by
        simp only [List.mem_cons, List.not_mem_nil, or_false] at hcm
        rcases hcm with rfl | rfl | rfl | rfl | rfl
        · exact zl
        · exact Heap.lt_size hI
        · exact Heap.lt_size hO
        · obtain ⟨_, q, _⟩ := s1
          exact Heap.lt_size q
        · obtain ⟨_, q, _⟩ := s2
          exact Heap.lt_size q
      rw [upd_ne (Nat.ne_of_lt lt)]
      exact (hf c hcm).1
  done := by
    intro X hP hw hK hc n pins s σ H E I hf st hg
    subst hP hw hK
    obtain ⟨hz, hI, ⟨u0, v0, hO⟩, s1, s2⟩ := st
    obtain ⟨us, vs, qa, qb, he⟩ := hg
    obtain ⟨is1, r1, p1, _⟩ := I.list qa
    obtain ⟨is2, r2, p2, _⟩ := I.tuple qb
    have l1 : us.length = is1.toArray.size := by rw [r1.length]; simp
    have l2 : vs.length = is2.toArray.size := by rw [r2.length]; simp
    have hh : X.A.in1.handled = none := I.ok.hd hc
    exact wpAny_pyNext_zipD2_end (zx_sep D) (Draws.list hh i1 a D.l1i1 is1.toArray) (Draws.tuple hh i2 b D.l2i2 is2.toArray) hz hI hO ⟨s1, p1.isList⟩ ⟨s2, p2⟩ (by omega) (by omega) (by omega) fun h' tk hk =>
      ⟨rfl, I.turnedL (t' := tk) (ch := [z, TI, TO, i1, i2]) (fun c o hb q => by
        simp only [List.mem_cons, List.not_mem_nil, or_false, not_or] at hb
        exact hk c o hb.1 hb.2.2.1 hb.2.2.2.1 hb.2.2.2.2 q) hf⟩
  self := fun A n s Q E st h => wpAny_pyIter_zip st.1 h
/-! ### the call -/
abbrev zx1 (h : Heap) (a : Addr) : Heap := h.push { cls := .type "list_iterator", data := .fields #[.ref a, .int 0 0] }
abbrev zx2 (h : Heap) (a b : Addr) : Heap := (zx1 h a).push { cls := .type "tuple_iterator", data := .fields #[.ref b, .int 0 0] }
abbrev zx3 (h : Heap) (a b : Addr) : Heap := (zx2 h a b).push { cls := .type "tuple", data := .seq #[.ref h.objs.size, .ref (zx1 h a).objs.size] }
abbrev zx4 (h : Heap) (a b : Addr) : Heap := (zx3 h a b).push { cls := .type "tuple", data := .seq #[.none, .none] }
abbrev zx5 (h : Heap) (a b : Addr) : Heap := (zx4 h a b).push { cls := .type "zip", data := .fields #[.none, .bool false, .bool false, .ref (zx2 h a b).objs.size, .ref (zx3 h a b).objs.size] }
theorem meets_zx (a b : Addr) (us vs : Array Value) :
    Meets (Builtin.«zip.__new__» ⟨[.type "zip", .ref a, .ref b], []⟩) (fun _ R s => s.heap.IsList a us ∧ s.heap.IsTuple b vs ∧ R (.ok (.ret (.ref (zx4 s.heap a b).objs.size))) { s with heap := zx5 s.heap a b }) :=
  .of_wp fun prog w A R s h => by
    obtain ⟨hp, g, d, tk, os⟩ := s
    obtain ⟨ha, hb, h⟩ := h
    have hsub := sub_zip
    have hA : Heap.IsList (Shared.heap ⟨hp, g, d, tk, os⟩) a us := ha
    have hB : Heap.IsTuple (Shared.heap ⟨hp.push { cls := .type "list_iterator", data := .fields #[.ref a, .int 0 0] }, g, d, tk, os⟩) b vs := Heap.IsTuple.push hb _
    wp_walk using wpAny_pyIter_list hA, wpAny_pyIter_tuple hB
    exact ⟨_, rfl, h⟩
theorem call_zx {prog : Program} {w : World} {A : Around} {E : Value → Shared → Prop} {s : Shared} {a b : Addr} {us vs : Array Value} {Q : Value → Shared → Prop} (ha : s.heap.IsList a us) (hb : s.heap.IsTuple b vs)
    (h : ∀ h', ZxSt (s.heap.objs.size + 4) (s.heap.objs.size + 2) (s.heap.objs.size + 3) s.heap.objs.size (s.heap.objs.size + 1) a b 0 h' → (∀ c o, s.heap.get? c = some o → h'.get? c = some o) → Q (.ref (s.heap.objs.size + 4)) { s with heap := h' }) :
    wpAny (model prog w) A (call (.type "zip") [.ref a, .ref b]) Q E s := by
  refine callType_new F.called_zip (by decide) (F.typeCall_zip_2 _ _) (F.newCall_zip_2 _ _) (fun o => F.args_object_init_3 o _ _) F.entry_zip_new (meets_zx a b us vs) ⟨ha, hb, ?_⟩
  have z1 : (zx1 s.heap a).objs.size = s.heap.objs.size + 1 := Heap.size_push ..
  have z2 : (zx2 s.heap a b).objs.size = s.heap.objs.size + 2 := by rw [Heap.size_push, z1]
  have z3 : (zx3 s.heap a b).objs.size = s.heap.objs.size + 3 := by rw [Heap.size_push, z2]
  have z4 : (zx4 s.heap a b).objs.size = s.heap.objs.size + 4 := by rw [Heap.size_push, z3]
  have g5 : (zx5 s.heap a b).get? (zx4 s.heap a b).objs.size = some _ := Heap.get?_push_size _ rfl
  have g4 : (zx5 s.heap a b).get? (zx3 s.heap a b).objs.size = some _ := Heap.get?_push_of_some _ (Heap.get?_push_size _ rfl)
  have g3 : (zx5 s.heap a b).get? (zx2 s.heap a b).objs.size = some _ := Heap.get?_push_of_some _ (Heap.get?_push_of_some _ (Heap.get?_push_size _ rfl))
  have g2 : (zx5 s.heap a b).get? (zx1 s.heap a).objs.size = some _ := Heap.get?_push_of_some _ (Heap.get?_push_of_some _ (Heap.get?_push_of_some _ (Heap.get?_push_size _ rfl)))
  have g1 : (zx5 s.heap a b).get? s.heap.objs.size = some _ := Heap.get?_push_of_some _ (Heap.get?_push_of_some _ (Heap.get?_push_of_some _ (Heap.get?_push_of_some _ (Heap.get?_push_size _ rfl))))
  show _ ∧ _
  rw [z2, z3, z4] at g5
  rw [z1, z2] at g3
  rw [z3] at g4
  rw [z1] at g2
  rw [z4]
  exact ⟨⟨_, g5, rfl⟩, h _ ⟨g5, g3, ⟨_, _, g4⟩, ⟨_, g1, rfl, rfl⟩, ⟨_, g2, rfl, rfl⟩⟩ fun c o x => Heap.get?_push_of_some _ (Heap.get?_push_of_some _ (Heap.get?_push_of_some _ (Heap.get?_push_of_some _ (Heap.get?_push_of_some _ x))))⟩
def iZipX (K : W.Frag) (ta : TA) : TI := fun σ H R => ta σ H fun xs H1 => ∃ a b us vs, xs = [.ref a, .ref b] ∧ SqL K H1 a us ∧ SqT K H1 b vs ∧ R (ItzX K a b) H1
theorem pi_zipX {X : Cx} {e e2 : Expr} {ta : TA} {p pos tpos : Pos} {elts : List Expr} {kk : Nat} (hg : Gl X "zip") (hm : X.mg "zip" = none) (ha : PA X [e, e2] ta)
    (hs : starEach [e, e2] X.env = (false, eval e X.env) :: starEach [e2] X.env := by rfl) (hpl : (backTo pos (starEach [e2] X.env)).any (·.1) = false := by rfl) :
    PI X (.Tuple elts kk tpos) (.Call (.Name "zip" p) [e, e2] [] pos) (iZipX X.K ta) := by
  refine ⟨fun pins s σ H R I h => ?_⟩
  refine Call_ (ld_blt I hg hm PyProof.Rows.boot_zip (PyProof.Rows.callWith_type1 (thn (ha.run pos pins s σ H _ I h) fun xs s1 ⟨ys, H1, I1, r1, q1⟩ => ?_) hs hpl))
  obtain ⟨a, b, us, vs, ex, qa, qb, q⟩ := q1
  subst ex
  obtain ⟨w1, w2, rfl, rr1, rr2⟩ : ∃ w1 w2, xs = [w1, w2] ∧ RelV (.ref a) w1 ∧ RelV (.ref b) w2 := by
    cases r1 with
    | cons y t =>
      cases t with
      | cons y' t =>
        cases t
        exact ⟨_, _, rfl, y, y'⟩
  obtain rfl : w1 = Value.ref a := rr1
  obtain rfl : w2 = Value.ref b := rr2
  obtain ⟨is1, m1, p1, _⟩ := I1.list qa
  obtain ⟨is2, m2, p2, _⟩ := I1.tuple qb
  obtain ⟨o2, e2, _⟩ := id p2
  refine call_zx p1.isList (show s1.heap.IsTuple b is2.toArray from p2) fun h' st hk => wpAny_pyIter_zip st.1 ?_
  have I2 : Inv X pins σ H1 { s1 with heap := h' } := I1.kept (t' := s1.toks) hk
  refine ⟨s1.heap.objs.size + 4, [s1.heap.objs.size + 4, s1.heap.objs.size + 2, s1.heap.objs.size + 3, s1.heap.objs.size, s1.heap.objs.size + 1], _, _, H1, rfl, I2, turn_zx (PySem.W.ktu_apart s1.heap.objs.size a b p1.lt (Heap.lt_size e2)), st, fun c hc => ?_, q⟩
  have le : s1.heap.objs.size ≤ c := by
    simp only [List.mem_cons, List.not_mem_nil, or_false] at hc
    rcases hc with rfl | rfl | rfl | rfl | rfl <;> simp
  exact I1.fpOk le (I1.hok.fresh le)
/-! ### walks over zips -/
section
variable {K : W.Frag} {a b : Addr} {us vs : List V} {H0 : Hp} {Qd : Hp → Prop} {B : V → Hp → (Hp → Prop) → Prop}
theorem loop_zipX (hn : us.length = vs.length) (Pv : Nat → Hp → Prop) (h0 : Pv 0 H0) (hl : ∀ i H, i ≤ us.length → Pv i H → SqL K H a us ∧ SqT K H b vs)
    (hs : ∀ i u v c H H', us[i]? = some u → vs[i]? = some v → Pv i H → Same H H' → H' c = some (.tup [u, v]) → B (.ref c) H' (Pv (i + 1))) (hd : ∀ H, Pv us.length H → Qd H) :
    ∃ W : Nat → Nat → Hp → Prop, (∃ m, W 0 m H0) ∧ ∀ i m H, W i m H → ((ItzX K a b).stop i H ∧ Qd H) ∨ ((ItzX K a b).go i H ∧ ∃ Nx : Hp → Prop, (∀ H', Nx H' → ∃ m', m' < m ∧ W (i + 1) m' H') ∧ ∀ x H', (ItzX K a b).yld i H x H' → B x H' Nx) := by
  refine ⟨fun i m H => m = us.length - i ∧ i ≤ us.length ∧ Pv i H, ⟨us.length, rfl, Nat.zero_le _, h0⟩, ?_⟩
  rintro i m H ⟨rfl, hi, p⟩
  obtain ⟨q, q'⟩ := hl i H hi p
  rcases Nat.lt_or_ge i us.length with lt | ge
  · have e1 := List.getElem?_eq_getElem lt
    have e2 := List.getElem?_eq_getElem (hn ▸ lt)
    refine .inr ⟨⟨us, vs, _, _, q, q', e1, e2⟩, Pv (i + 1), fun H' p' => ⟨us.length - (i + 1), by omega, rfl, lt, p'⟩, fun x H' y => ?_⟩
    obtain ⟨c, u, v, rfl, hc, rfl, f1, f2⟩ := y
    exact hs i u v c H _ (f1 us q) (f2 vs q') p (fun r o e => by rw [upd_ne (fun z => by rw [z, hc] at e; cases e)]; exact e) (upd_same ..)
  · obtain rfl : i = us.length := by omega
    exact .inl ⟨⟨us, vs, q, q', .inl ⟨rfl, Nat.le_of_eq hn⟩⟩, hd H p⟩
theorem loop_zipT {n : Nat} (hn : (n = us.length ∧ n ≤ vs.length) ∨ (n = vs.length ∧ n ≤ us.length)) (Pv : Nat → Hp → Prop) (h0 : Pv 0 H0) (hl : ∀ i H, i ≤ n → Pv i H → SqT K H a us ∧ SqT K H b vs)
    (hs : ∀ i u v c H H', us[i]? = some u → vs[i]? = some v → Pv i H → Same H H' → H' c = some (.tup [u, v]) → B (.ref c) H' (Pv (i + 1))) (hd : ∀ H, Pv n H → Qd H) :
    ∃ W : Nat → Nat → Hp → Prop, (∃ m, W 0 m H0) ∧ ∀ i m H, W i m H → ((RZ.ItzT K a b).stop i H ∧ Qd H) ∨ ((RZ.ItzT K a b).go i H ∧ ∃ Nx : Hp → Prop, (∀ H', Nx H' → ∃ m', m' < m ∧ W (i + 1) m' H') ∧ ∀ x H', (RZ.ItzT K a b).yld i H x H' → B x H' Nx) := by
  refine ⟨fun i m H => m = n - i ∧ i ≤ n ∧ Pv i H, ⟨n, rfl, Nat.zero_le _, h0⟩, ?_⟩
  rintro i m H ⟨rfl, hi, p⟩
  obtain ⟨q, q'⟩ := hl i H hi p
  rcases Nat.lt_or_ge i n with lt | ge
  · have e1 := List.getElem?_eq_getElem (show i < us.length by omega)
    have e2 := List.getElem?_eq_getElem (show i < vs.length by omega)
    refine .inr ⟨⟨us, vs, _, _, q, q', e1, e2⟩, Pv (i + 1), fun H' p' => ⟨n - (i + 1), by omega, rfl, lt, p'⟩, fun x H' y => ?_⟩
    obtain ⟨c, u, v, rfl, hc, rfl, f1, f2⟩ := y
    exact hs i u v c H _ (f1 us q) (f2 vs q') p (fun r o e => by rw [upd_ne (fun z => by rw [z, hc] at e; cases e)]; exact e) (upd_same ..)
  · obtain rfl : i = n := by omega
    exact .inl ⟨⟨us, vs, q, q', by omega⟩, hd H p⟩
/-- for u, v in zip(list, tuple) -/
theorem for_zipX {g : TG} {tb : TS} {D : Ends} {σ : L2.St} {H : Hp} (hn : us.length = vs.length) (Pv : Nat → L2.St → Hp → Prop) (h0 : Pv 0 σ H) (hl : ∀ i σ H, i ≤ us.length → Pv i σ H → SqL K H a us ∧ SqT K H b vs)
    (hs : ∀ i u v c σ H H', us[i]? = some u → vs[i]? = some v → Pv i σ H → Same H H' → H' c = some (.tup [u, v]) → g (.ref c) σ H' fun σ2 H2 => tb { D with nx := Pv (i + 1), ct := Pv (i + 1), bk := D.nx } σ2 H2) (hd : ∀ σ H, Pv us.length σ H → D.nx σ H) :
    ∃ W : Nat → Nat → L2.St → Hp → Prop, (∃ m, W 0 m σ H) ∧ ∀ i m σ H, W i m σ H →
      ((ItzX K a b).stop i H ∧ D.nx σ H) ∨ ((ItzX K a b).go i H ∧ ∃ N : L2.St → Hp → Prop, (∀ σ' H', N σ' H' → ∃ m', m' < m ∧ W (i + 1) m' σ' H') ∧ ∀ x H', (ItzX K a b).yld i H x H' → g x σ H' fun σ2 H2 => tb { D with nx := N, ct := N, bk := D.nx } σ2 H2) := by
  refine ⟨fun i m σ H => m = us.length - i ∧ i ≤ us.length ∧ Pv i σ H, ⟨us.length, rfl, Nat.zero_le _, h0⟩, ?_⟩
  rintro i m σ H ⟨rfl, hi, p⟩
  obtain ⟨q, q'⟩ := hl i σ H hi p
  rcases Nat.lt_or_ge i us.length with lt | ge
  · have e1 := List.getElem?_eq_getElem lt
    have e2 := List.getElem?_eq_getElem (hn ▸ lt)
    refine .inr ⟨⟨us, vs, _, _, q, q', e1, e2⟩, Pv (i + 1), fun σ' H' p' => ⟨us.length - (i + 1), by omega, rfl, lt, p'⟩, fun x H' y => ?_⟩
    obtain ⟨c, u, v, rfl, hc, rfl, f1, f2⟩ := y
    exact hs i u v c σ H _ (f1 us q) (f2 vs q') p (fun r o e => by rw [upd_ne (fun z => by rw [z, hc] at e; cases e)]; exact e) (upd_same ..)
  · obtain rfl : i = us.length := by omega
    exact .inl ⟨⟨us, vs, q, q', .inl ⟨rfl, Nat.le_of_eq hn⟩⟩, hd σ H p⟩
end
end EW
end

section
set_option maxHeartbeats 4000000
namespace EW
open PySem PySem.Spec PyProof.Rows L2
/-! ### set(l), sorted(s): ints, some thousands of them -/
section
variable {P : Program} {w : World} {A : Around} {E : Value → Shared → Prop} {s : Shared}
/-- an empty set as it is made -/
abbrev eset (w : World) : Obj := { cls := .type "set", dict := none, data := .set #[] 0 (.fresh 0 0 (!w.params.followText "set-order")) }
/-- what set.__init__ leaves behind -/
def Full (w : World) (s : Shared) (ns : List Int) (r : Value) (s₂ : Shared) : Prop := r = .none ∧ ∃ h' tk c, s₂ = { s with heap := h', toks := tk } ∧ SetR w h' s.heap.objs.size (fun j => decide (j ∈ ns)) c ∧ c ≤ ns.length ∧ ∀ b o, s.heap.get? b = some o → h'.get? b = some o
theorem ints_get {items : Array Value} {ns : List Int} (hit : IntsAre items.toList ns) (i : Nat) (v : Value) (hv : items[i]? = some v) : ∃ k t, ns[i]? = some k ∧ v = .int k t := by
  have hl := IntsAre.length hit
  rw [Array.length_toList] at hl
  have hi : i < ns.length := by rw [← hl]; exact (Array.getElem?_eq_some_iff.mp hv).1
  obtain ⟨t, e⟩ := IntsAre.int_at hit i v (by rw [Array.getElem?_toList]; exact hv)
  rw [List.getD_eq_getElem?_getD, List.getElem?_eq_getElem hi] at e
  exact ⟨ns[i], t, List.getElem?_eq_getElem hi, e⟩
theorem init_list {l : Addr} {items : Array Value} {ns : List Int} (hh : A.handled = none) (hl : s.heap.IsList l items) (hit : IntsAre items.toList ns) (hb : ns.length + 1 < scanBound) :
    codeAny (model P w) A (.call (.builtin "set.__init__") ⟨[.ref s.heap.objs.size, .ref l], []⟩) (wants (Full w s ns) E) { s with heap := s.heap.push (eset w) } := by
  have hsz : items.size = ns.length := by
    have q := IntsAre.length hit
    rw [Array.length_toList] at q
    exact q
  have hS : (s.heap.push (eset w)).get? s.heap.objs.size = some (eset w) := Heap.get?_push_size _ rfl
  refine codeAny_call_builtin F.called_set.init.plain F.entry_set_init (check_set_init_1 ⟨_, hS, rfl⟩ ?_)
  obtain ⟨o, ho, hc, n, hd⟩ := id hl
  obtain ⟨oc, od, dt, osl⟩ := o
  simp only at hc hd
  subst hc hd
  have ho' : (s.heap.push (eset w)).get? l = some { cls := .type "list", dict := od, data := .seq items n, slots := osl } := Heap.get?_push_of_some _ ho
  have hl' : (s.heap.push (eset w)).IsList l items := ⟨_, ho', rfl, n, rfl⟩
  have f1 := F.sub_list_set
  have f2 := F.sub_list_frozenset
  have f3 : (Value.type "list" == Value.type "dict") = false := by decide
  unfold Builtin.«set.__init__» noKeywords Builtin.Frozenset.updateFrom
  generalize hPI : pyIter = PI
  wp_walk
  subst hPI
  refine wpAny_pyIter_list hl' ?_
  refine wpAny_bind (wpAny_runValue ?_)
  have hlt : l < s.heap.objs.size := Heap.lt_size ho
  have h3 : A.in1.in1.handled = none := by simp [hh]
  have hz : (s.heap.push (eset w)).objs.size = s.heap.objs.size + 1 := Heap.size_push ..
  have ne1 : l ≠ (s.heap.push (eset w)).objs.size := by rw [hz]; exact Nat.ne_of_lt (Nat.lt_succ_of_lt hlt)
  have ne2 : s.heap.objs.size ∉ [(s.heap.push (eset w)).objs.size, l] := by
    rw [hz]
    simp only [List.mem_cons, List.not_mem_nil, or_false, not_or]
    exact ⟨Nat.ne_of_lt (Nat.lt_succ_self _), Nat.ne_of_gt hlt⟩
  refine set_update_ints ((Walks.list h3 _ l ne1 items).toS) s.heap.objs.size ne2 ns hsz hb (ints_get hit) (items.size - 0) 0 _ (by omega) (Nat.zero_le _) ?_ ?_ ?_
  · exact ⟨⟨_, Heap.get?_push_size _ rfl, rfl, rfl⟩, (hl'.push _)⟩
  · exact ⟨0, Nat.le_refl 0, setR_new_at (w := w) (Heap.get?_push_of_some _ hS)⟩
  intro s' c' hm hc' hS'
  obtain ⟨h', g2, d', tk', os'⟩ := s'
  obtain rfl : g2 = s.gens := hm.gens
  obtain rfl : d' = s.drawn := hm.drawn
  obtain rfl : os' = s.os := hm.os
  rw [hsz] at hc'
  refine wpAny_pure (wpAny_pure ⟨rfl, h', tk', c', rfl, hS', hc', fun b o e => ?_⟩)
  have hb0 : b < s.heap.objs.size := Heap.lt_size e
  refine hm.heap b o ?_ (Heap.get?_push_of_some _ (Heap.get?_push_of_some _ e))
  simp only [List.mem_cons, List.not_mem_nil, or_false, not_or]
  rw [hz]
  exact ⟨Nat.ne_of_lt hb0, Nat.ne_of_lt (Nat.lt_succ_of_lt hb0)⟩
theorem call_setL {l : Addr} {items : Array Value} {ns : List Int} {Q : Value → Shared → Prop} (hh : A.handled = none) (hl : s.heap.IsList l items) (hit : IntsAre items.toList ns) (hb : ns.length + 1 < scanBound)
    (h : ∀ (h' : Heap) (tk c : Nat), SetR w h' s.heap.objs.size (fun j => decide (j ∈ ns)) c → c ≤ ns.length → (∀ b o, s.heap.get? b = some o → h'.get? b = some o) → Q (.ref s.heap.objs.size) { s with heap := h', toks := tk }) :
    wpAny (model P w) A (call (.type "set") [.ref l]) Q E s := by
  have hct := F.typeCall_set_1 (.ref l)
  have h1 := F.called_set.notType
  have h2 := F.called_set.canCreate
  have h3 := F.called_set.made
  have h4 := F.called_set.sub
  obtain ⟨c0, tl, h5⟩ := F.called_set.mro
  refine wpAny_call (codeAny_of_tree ?_)
  show wpAny _ _ (callAny (.type "set") _) _ _ _
  refine wpAny_pure ⟨Code.quiet_builtin _ (by decide +kernel), codeAny_builtin F.entry_type_call ?_⟩
  rw [Around.under_plain (weight_type_call_type "set" [.ref l] []) rfl]
  repeat (any_goals (first | assumption | wp_step))
  refine codeAny_mono (code_set_led1 (.ref l) (E := E) (Q₁ := fun obj s₁ => obj = .ref s.heap.objs.size ∧ s₁ = { s with heap := s.heap.push (eset w) }) ⟨rfl, rfl⟩) fun r s₁ hr => ?_
  match r, hr with
  | .error e, hr => exact hr
  | .ok (.ret obj), hr =>
    obtain ⟨rfl, rfl⟩ := hr
    have hT : Shared.TypeIs { s with heap := s.heap.push (eset w) } (.ref s.heap.objs.size) "set" := ⟨_, Heap.get?_push_size _ rfl, rfl⟩
    have h6 := F.called_set.init.lookup
    have h7 := F.called_set.init.bind (.ref s.heap.objs.size)
    repeat (any_goals (first | assumption | wp_step))
    refine codeAny_mono (init_list (E := E) (by simp [hh]) hl hit hb) fun r₂ s₂ hr₂ => ?_
    match r₂, hr₂ with
    | .error e, hr₂ => exact hr₂
    | .ok (.ret r), hr₂ =>
      obtain ⟨rfl, h', tk, c', rfl, k1, k2, k3⟩ := hr₂
      repeat (any_goals (first | assumption | wp_step))
      exact h _ _ _ k1 k2 k3
    | .ok .next, hr₂ => exact hr₂.elim
    | .ok .brk, hr₂ => exact hr₂.elim
    | .ok .cont, hr₂ => exact hr₂.elim
  | .ok .next, hr => exact hr.elim
  | .ok .brk, hr => exact hr.elim
  | .ok .cont, hr => exact hr.elim
end
end EW
end

section
set_option maxHeartbeats 4000000
namespace EW
open PySem PySem.Spec PyProof.Rows L2
section
variable {P : Program} {w : World} {A : Around} {E : Value → Shared → Prop} {s : Shared} {a : Addr}
/-- sorted(s), any number of members: a new list of ints -/
theorem sorted_setA {S : Int → Bool} {n : Nat} {Q : Value → Shared → Prop} (R : SetR w s.heap a S n) (hh : A.handled = none)
    (hQ : ∀ (s' : Shared) (p : Addr) (out : List Value) (c : Nat) (ns : List Int), (∀ b o, s.heap.get? b = some o → s'.heap.get? b = some o) → s'.gens = s.gens → s'.os = s.os → s.heap.objs.size ≤ p → s'.heap.get? p = some (seqObj "list" out.toArray c) → IntsAre out ns → ns.length = n → Q (.ref p) s') :
    wpAny (model P w) A (call (.builtin "sorted") [.ref a]) Q E s := by
  obtain ⟨o, es, ep, t, ho, hex, hd, g, nd, hm, hb, hf, hn, hr, hl⟩ := R
  refine Calls.call_function_entry kind_sorted plain_sorted entry_sorted (args_sorted1 _) ?_
  unfold Builtin.«sorted»
  refine wpAny_bind (m := checkCount "sorted" 1 1 _) (wpAny_pure ?_)
  refine wpAny_bind (collect_set (A := A.in1) hh ⟨o, ho, hex.1, hd⟩ hf hb hr hl fun s1 vs k1 hz g1 o1 pm => ?_)
  have hvl : vs.length = n := by rw [pm.length_eq, List.length_map, Array.length_toList]; exact hn
  have hsc : scanBound ≤ sizeLine := by decide
  have hvz : vs.length ≤ sizeLine := by omega
  have hI : IntsAre vs (vs.map Builtin.Re.reRawOf) := ints_of vs fun v hv => by
    obtain ⟨e, he, q⟩ := List.mem_map.mp (pm.mem_iff.mp hv)
    obtain ⟨k, tk, z, _⟩ := g e he
    exact ⟨k, tk, q ▸ z⟩
  refine wpAny_bind (wpAny_newList ?_ hvz)
  have hoL : (s1.heap.push (seqObj "list" vs.toArray 0)).get? s1.heap.objs.size = some (seqObj "list" vs.toArray 0) := Heap.get?_push_size _ rfl
  refine wpAny_bind (wpAny_holding (wpAny_call_entry slot_list_sort ⟨_, hoL, rfl⟩ entry_list_sort (SrtO.list_sort_ord SrtO.swo_int hoL hvz (fun h2 => SrtO.ints_sortable hI h2) fun out b1 b2 => ⟨_, rfl, ?_⟩) (args_list_sort _)))
  obtain ⟨c, hc⟩ := sortedHeap_at (vs := vs) (out := out.toArray) hoL
  obtain ⟨i1, i2, _⟩ := SrtO.ints_out hI b1 b2
  refine wpAny_pure ⟨_, rfl, hQ _ s1.heap.objs.size out c _ (fun b u e => ?_) g1 o1 hz hc i1 ?_⟩
  · have q := k1 b u e
    have hlt := Heap.lt_size q
    show (sortedHeap (s1.heap.push (seqObj "list" vs.toArray 0)) s1.heap.objs.size vs out.toArray).get? b = some u
    rw [sortedHeap_old (Nat.ne_of_lt hlt) (by rw [size_push']; exact Nat.lt_succ_of_lt hlt)]
    exact Heap.get?_push_of_some _ q
  · rw [i2.length_eq, List.length_map]
    exact hvl
end
section
variable {X : Cx}
/-- set(l) -/
theorem cr_setL (hc : X.calm = true) : CallR X (.type "set") (fun vs H Q => ∃ (a : Addr) (ns : List Int), vs = [V.ref a] ∧ SqL X.K H a (ns.map V.int) ∧ ns.length + 1 < scanBound ∧ ∀ (p : Addr) (S : Int → Bool) (c : Nat) (H' : Hp), H p = none → Same H H' → H' p = some (SetO X.w p S c) → c ≤ ns.length → Q (.ref p) H') := by
  intro pins s σ H vs us Q I r h
  obtain ⟨a, ns, rfl, hS, hb, q⟩ := h
  obtain rfl := Vals.ref1 r
  obtain ⟨its, rv, hl, hz⟩ := I.list hS
  refine call_setL (I.ok.hd hc) hl.isList (show IntsAre its.toArray.toList ns from rv.ints) hb fun h' tk c R hcn kp => ?_
  have hf := I.hok.fresh (Nat.le_refl s.heap.objs.size)
  exact ⟨.ref _, upd H s.heap.objs.size (SetO X.w s.heap.objs.size (fun j => decide (j ∈ ns)) c), I.laid (t' := tk) kp (Nat.le_refl _) (setO_new R), rfl, q _ _ c _ hf (sameN hf) upd_same hcn⟩
/-- sorted(s) -/
theorem cr_sortedSetA (hc : X.calm = true) : CallR X (.builtin "sorted") (fun vs H Q => ∃ (a : Addr) (S : Int → Bool) (n : Nat), vs = [V.ref a] ∧ H a = some (SetO X.w a S n) ∧ ∀ ns : List Int, ns.length = n → New H (fun _ => .lst (ns.map V.int)) Q) := by
  intro pins s σ H vs us Q I r h
  obtain ⟨a, S, n, rfl, ha, q⟩ := h
  have R := setO_get I ha
  have hn := R
  obtain rfl := Vals.ref1 r
  refine sorted_setA R (I.ok.hd hc) fun s' p out c ns k g o hp hg hi hl => ?_
  have hlen : (ns.map V.int).length ≤ sizeLine := by
    obtain ⟨_, es, _, _, _, _, _, _, _, _, hb, _, hen, _⟩ := hn
    have hsc : scanBound ≤ sizeLine := by decide
    rw [List.length_map, hl]
    omega
  have hf : H p = none := I.hok.fresh hp
  have J : Inv X pins σ (upd H p (.lst (ns.map V.int))) { s with heap := s'.heap, gens := s'.gens, drawn := s'.drawn, toks := s'.toks } :=
    I.call (ch := []) (Un.laid k hp hf) (I.hok.laid k hp ⟨hlen, out, c, vals_of_ints hi, hg⟩) (by rw [g]; exact I.bare) (fun _ z => nomatch z)
  have e : s' = { s with heap := s'.heap, gens := s'.gens, drawn := s'.drawn, toks := s'.toks } := by
    cases s'
    cases s
    cases o
    rfl
  rw [e]
  exact ⟨.ref p, _, J, rfl, (q ns hl).at hf⟩
end
end EW
end

section
set_option maxHeartbeats 4000000
namespace EW
open PySem PySem.Spec PyProof.Rows L2
/-! ### slices, sealed -/
section
variable {X : Cx}
theorem sl_tupS (K : W.Frag) (h : X.K = K) : SlR X (fun x lo hi H Q => ∃ a xs, x = .ref a ∧ SqT K H a xs ∧ ¬ (HT.sIx xs.length 0 lo = 0 ∧ HT.sIx xs.length xs.length hi = xs.length) ∧ New H (fun _ => .tup (cutV xs lo hi)) Q) := by
  subst h
  intro pins s σ H x v vl vu lo hi sl Q I rx hs pl pu h
  obtain ⟨a, xs, e, hS, n, q⟩ := h
  exact sl_tup pins s σ H x v vl vu lo hi sl Q I rx hs pl pu ⟨a, xs, e, hS, n, fun p hp => q.at hp⟩
theorem sl_listS (K : W.Frag) (h : X.K = K) : SlR X (fun x lo hi H Q => ∃ a xs, x = .ref a ∧ SqL K H a xs ∧ New H (fun _ => .lst (cutV xs lo hi)) Q) := by
  subst h
  intro pins s σ H x v vl vu lo hi sl Q I rx hs pl pu h
  obtain ⟨a, xs, e, hS, q⟩ := h
  exact sl_list pins s σ H x v vl vu lo hi sl Q I rx hs pl pu ⟨a, xs, e, hS, fun p hp => q.at hp⟩
end
end EW
end

section
set_option maxHeartbeats 4000000
/-! EwShp2: kinds; shapes as dicts; the names of times and domains in order. -/
namespace EW
open PySem PySem.Spec PyProof.Rows L2
inductive Kd where
  | time
  | dom (l : List Str)
abbrev Shp := List (Str × Kd)
def Kd.isT : Kd → Bool
  | .time => true
  | .dom _ => false
def Kd.vals : Kd → List Str
  | .time => []
  | .dom l => l
def KdV (K : W.Frag) (H : Hp) (v : V) : Kd → Prop
  | .time => v = .str "time"
  | .dom l => Tp K H v (l.map V.str)
def kdD : Kd → PyData
  | .time => .str "time"
  | .dom l => .tuple (l.map PyData.str)
/-- the names of a shape are keys, the kinds their values -/
abbrev Ent (K : W.Frag) (H : Hp) : List (Key × V) → Shp → Prop := Paired fun kv s => kv.1 = Sum.inr s.1 ∧ KdV K H kv.2 s.2
def ShpAt (K : W.Frag) (H : Hp) (v : V) (S : Shp) : Prop := ∃ d kvs, v = .ref d ∧ H d = some (.dK kvs) ∧ Ent K H kvs S
section
variable {K : W.Frag} {H H' : Hp} {v : V} {S : Shp} {kvs : List (Key × V)} {k : Kd}
theorem KdV.same (h : KdV K H v k) (s : Same H H') : KdV K H' v k := by
  cases k with
  | time => exact h
  | dom l => exact Tp.same h s
theorem Ent.same (h : Ent K H kvs S) (s : Same H H') : Ent K H' kvs S := Paired.mono (fun _ _ q => ⟨q.1, q.2.same s⟩) h
theorem ShpAt.same (h : ShpAt K H v S) (s : Same H H') : ShpAt K H' v S := let ⟨d, kvs, e, h1, h2⟩ := h; ⟨d, kvs, e, s _ _ h1, h2.same s⟩
theorem Tp.keptD {d : Addr} {o : HO} {xs : List V} (h : Tp K H v xs) (hd : H d = some o) (n1 : ∀ ys, o ≠ .tup ys) (n2 : ∀ b u, o ≠ .frz b u) (k : Kept d H H') : Tp K H' v xs := let ⟨a, e, q⟩ := h; ⟨a, e, SqT.keptO q hd n1 n2 k⟩
theorem KdV.keptL {l : Addr} {ys : List V} (h : KdV K H v k) (hl : H l = some (.lst ys)) (q : Kept l H H') : KdV K H' v k := by
  cases k with
  | time => exact h
  | dom l => exact Tp.kept h hl q
theorem KdV.keptD {d : Addr} {kvs : List (Key × V)} (h : KdV K H v k) (hd : H d = some (.dK kvs)) (q : Kept d H H') : KdV K H' v k := by
  cases k with
  | time => exact h
  | dom l => exact Tp.keptD h hd (fun _ z => nomatch z) (fun _ _ z => nomatch z) q
theorem ShpAt.kept {l : Addr} {ys : List V} (h : ShpAt K H v S) (hl : H l = some (.lst ys)) (q : Kept l H H') : ShpAt K H' v S := by
  obtain ⟨d, kvs, e, h1, h2⟩ := h
  exact ⟨d, kvs, e, q _ _ (fun z => by rw [z, hl] at h1; cases h1) h1, Paired.mono (fun _ _ r => ⟨r.1, r.2.keptL hl q⟩) h2⟩
theorem same_lock {d : Addr} {u w : HO} (e : H d = some u) (s : Same (upd H d w) H') : Same H (upd H' d u) := fun c o h => by
  by_cases z : c = d
  · subst z
    rw [e] at h
    rw [upd_same, ← h]
  · rw [upd_ne z]
    exact s _ _ (by rw [upd_ne z]; exact h)
/-- the dict locked: the values stand -/
theorem Ent.lock {d : Addr} {o : Obj} {kvs' : List (Key × V)} (h : Ent K H kvs S) (hd : H d = some (.dK kvs')) : Ent K (upd H d (.frz o (.dK kvs'))) kvs S :=
  Paired.mono (fun _ _ r => ⟨r.1, r.2.keptD hd fun c o' n e => by rw [upd_ne n]; exact e⟩) h
theorem ent_at {i : Nat} {key : Key} {x : V} (h : Ent K H kvs S) (e : kvs[i]? = some (key, x)) : ∃ z kd, S[i]? = some (z, kd) ∧ key = Sum.inr z ∧ KdV K H x kd := by
  obtain ⟨⟨z, kd⟩, h1, h2, h3⟩ := pr_get h e
  exact ⟨z, kd, h1, h2, h3⟩
/-- a name's kind in the dict -/
theorem ent_val : ∀ {kvs : List (Key × V)} {S : Shp} {z : Str} {kd : Kd}, Ent K H kvs S → (S.map (·.1)).Nodup → (z, kd) ∈ S → ∃ x, valV kvs (Sum.inr z : Key) = some x ∧ KdV K H x kd
  | _, _, z, kd, .nil, _, hm => by cases hm
  | (key, x) :: kvs, (y, kd') :: S, z, kd, .cons h t, nd, hm => by
    obtain ⟨e, hk⟩ := h
    have e : key = Sum.inr y := e
    rw [List.map_cons, List.nodup_cons] at nd
    rcases List.mem_cons.mp hm with q | q
    · cases q
      exact ⟨x, valV_pos e, hk⟩
    · have ne : ¬ key = Sum.inr z := fun w => by
        rw [e] at w
        cases w
        exact nd.1 (List.mem_map.mpr ⟨_, q, rfl⟩)
      obtain ⟨x', h1, h2⟩ := ent_val t nd.2 q
      exact ⟨x', by rw [show valV ((key, x) :: kvs) (Sum.inr z : Key) = valV kvs (Sum.inr z) from valV_neg ne]; exact h1, h2⟩
theorem strs_dp : ∀ l : List Str, DpAll K H (l.map V.str) (l.map PyData.str)
  | [] => .nil
  | x :: r => .cons (.str x) (strs_dp r)
theorem kd_dp (h : KdV K H v k) : Dp K H v (kdD k) := by
  cases k with
  | time =>
    have h : v = .str "time" := h
    subst h
    exact .str _
  | dom l =>
    obtain ⟨a, rfl, q⟩ := h
    exact .tup q (strs_dp l)
theorem strs_depth : ∀ l : List Str, PyData.depthAll (l.map PyData.str) = 0
  | [] => rfl
  | x :: r => by simp [PyData.depthAll, PyData.depth, strs_depth r]
theorem kd_eqv (k : Kd) : PyData.eqv (kdD k) (.str "time") = k.isT := by
  cases k with
  | time => decide
  | dom l => rfl
end
/-! ### names in order -/
instance : DecidableRel leS := fun a b => inferInstanceAs (Decidable (¬ _))
def srt (l : List Str) : List Str := l.mergeSort fun a b => decide (leS a b)
theorem leS_total (a b : Str) : leS a b ∨ leS b a := by
  by_cases h : leS a b
  · exact .inl h
  · refine .inr fun w => h fun w' => ?_
    exact absurd (List.lt_trans w w') (List.lt_irrefl _)
theorem srt_perm (l : List Str) : (srt l).Perm l := List.mergeSort_perm ..
theorem srt_pw (l : List Str) : (srt l).Pairwise leS := by
  have h := List.pairwise_mergeSort (le := fun a b => decide (leS a b)) (fun a b c h1 h2 => decide_eq_true (leS_trans (of_decide_eq_true h1) (of_decide_eq_true h2)))
    (fun a b => by rcases leS_total a b with h | h <;> simp [h]) l
  exact h.imp fun h => of_decide_eq_true h
theorem srt_eq {l m : List Str} (p : m.Perm l) (h : sortedS m = true) : m = srt l := List.Perm.eq_of_pairwise (fun a b _ _ h h' => leS_anti h h') (pw_sortedS h) (srt_pw l) (p.trans (srt_perm l).symm)
def tms (S : Shp) : List Str := srt ((S.filter fun q => q.2.isT).map (·.1))
def dms (S : Shp) : List Str := srt ((S.filter fun q => !q.2.isT).map (·.1))
def letters : List Nat := Str.cps "abcdefghijklmnopqrstuvwxyz" |>.toList
def NameOk (z : Str) : Prop := 1 ≤ z.length ∧ z.length ≤ 8 ∧ ∀ c ∈ z.cps.toList, c ∈ letters
instance (z : Str) : Decidable (NameOk z) := inferInstanceAs (Decidable (_ ∧ _ ∧ _))
def Rise : List Str → Prop
  | [] => True
  | [_] => True
  | x :: y :: r => x.cps.toList < y.cps.toList ∧ Rise (y :: r)
instance : ∀ l : List Str, Decidable (Rise l)
  | [] => .isTrue True.intro
  | [_] => .isTrue True.intro
  | x :: y :: r => have := instDecidableRise (y :: r); inferInstanceAs (Decidable (_ ∧ _))
structure DomOk (l : List Str) : Prop where
  pos : 1 ≤ l.length
  few : l.length ≤ 8
  nam : ∀ z ∈ l, NameOk z ∧ z ≠ "time"
  up : Rise l
theorem NameOk.str {z : Str} (h : NameOk z) : PyData.strOk z = true := by
  have q : ∀ c ∈ letters, c < 0x110000 := by decide
  unfold PyData.strOk
  rw [Array.all_eq_true_iff_forall_mem]
  exact fun c hc => decide_eq_true (q c (h.2.2 c (Array.mem_def.mp hc)))
theorem strs_lay : ∀ l : List Str, (∀ z ∈ l, NameOk z) → PyData.canLayAll0 (l.map PyData.str) = true
  | [], _ => rfl
  | x :: r, h => by
    simp only [List.map_cons, PyData.canLayAll0, PyData.canLay0, (h x List.mem_cons_self).str, strs_lay r fun z hz => h z (List.mem_cons_of_mem _ hz)]
    rfl
theorem kd_shaped (k : Kd) (h : ∀ l, k = .dom l → DomOk l) : SeqAt.shaped (kdD k) = true := by
  cases k with
  | time => decide +kernel
  | dom l => simp [kdD, SeqAt.shaped, PyData.canLay0, strs_lay l fun z hz => ((h l rfl).nam z hz).1, PyData.depth, strs_depth]
structure ShpOk (S : Shp) : Prop where
  nd : (S.map (·.1)).Nodup
  nam : ∀ q ∈ S, NameOk q.1 ∧ q.1 ≠ "now"
  dom : ∀ q ∈ S, ∀ l, q.2 = .dom l → DomOk l
  tms : (tms S).length ≤ 2
  few : S.length - (EW.tms S).length ≤ 3
  all : S.length < 64
theorem rise_at : ∀ {l : List Str} {i : Nat} {x y : Str}, Rise l → l[i]? = some x → (l.drop 1)[i]? = some y → x.cps.toList < y.cps.toList
  | [], _, _, _, _, h, _ => by cases h
  | [_], i, x, y, _, _, h => by
    rw [List.getElem?_drop] at h
    have : ¬ (1 + i < 1) := by omega
    rw [List.getElem?_eq_none (by simp)] at h
    cases h
  | a :: b :: r, 0, x, y, h, h1, h2 => by
    cases h1
    cases h2
    exact h.1
  | a :: b :: r, i + 1, x, y, h, h1, h2 => by
    refine rise_at (l := b :: r) (i := i) h.2 h1 ?_
    simpa using h2
end EW
end

section
set_option maxHeartbeats 4000000
/-! EwZnV: zones as values. -/
namespace EW
open PySem PySem.Spec PyProof.Rows L2
def ZnV (K : W.Frag) (H : Hp) (v : V) (z : Zn.Z) : Prop := ∃ (a b : Addr) (c : V) (us : List V), Tp K H v [.ref a, .ref b, c] ∧ SqT K H a (z.vs.map V.str) ∧ SqT K H b us ∧ Sns K H us z.ss ∧ Tp K H c [ob z.g.1, ob z.g.2]
/-- a zone of a shape by a period -/
structure ZOk (S : Shp) (p : Int) (z : Zn.Z) : Prop where
  nv : z.vs.length = (dms S).length
  vals : ∀ (i : Nat) (n x : Str), (dms S)[i]? = some n → z.vs[i]? = some x → ∃ l, (n, Kd.dom l) ∈ S ∧ x ∈ l
  ns : z.ss.length = (tms S).length
  res : ∀ s ∈ z.ss, ∀ r, s.res = some r → 0 ≤ r ∧ r < p
  gap : (tms S).length = 2 ∨ z.g = (none, none)
section
variable {K : W.Frag} {H H' : Hp} {v : V} {z : Zn.Z}
theorem ZnV.same (h : ZnV K H v z) (s : Same H H') : ZnV K H' v z := by
  obtain ⟨a, b, c, us, h1, h2, h3, h4, h5⟩ := h
  exact ⟨a, b, c, us, Tp.same h1 s, SqT.same h2 s, SqT.same h3 s, Sns.same h4 s, Tp.same h5 s⟩
theorem ZnV.kept {l : Addr} {ys : List V} (h : ZnV K H v z) (hl : H l = some (.lst ys)) (q : Kept l H H') : ZnV K H' v z := by
  obtain ⟨a, b, c, us, h1, h2, h3, h4, h5⟩ := h
  exact ⟨a, b, c, us, Tp.kept h1 hl q, SqT.kept h2 hl q, SqT.kept h3 hl q, Sns.kept h4 hl q, Tp.kept h5 hl q⟩
def znD (z : Zn.Z) : PyData := .tuple [.tuple (z.vs.map PyData.str), .tuple (z.ss.map spanD), pairD z.g]
theorem pair_dp {c : V} {q : OO} (h : Tp K H c [ob q.1, ob q.2]) : Dp K H c (pairD q) := by
  obtain ⟨a, rfl, h⟩ := h
  exact .tup h (.cons (od_dp _) (.cons (od_dp _) .nil))
theorem zn_dp (h : ZnV K H v z) : Dp K H v (znD z) := by
  obtain ⟨a, b, c, us, ⟨d, rfl, h1⟩, h2, h3, h4, h5⟩ := h
  exact .tup h1 (.cons (.tup h2 (strs_dp _)) (.cons (.tup h3 (spans_dp h4)) (.cons (pair_dp h5) .nil)))
theorem zn_shaped (z : Zn.Z) (h : ∀ x ∈ z.vs, NameOk x) : SeqAt.shaped (znD z) = true := by
  have d1 := spans_depth z.ss
  simp [znD, pairD, SeqAt.shaped, PyData.canLay0, PyData.canLayAll0, strs_lay _ h, spans_lay, od_lay, PyData.depth, PyData.depthAll, strs_depth, od_depth]
  omega
theorem strs_eqv : ∀ xs ys : List Str, PyData.eqvAll (xs.map PyData.str) (ys.map PyData.str) = decide (xs = ys)
  | [], [] => by simp [PyData.eqvAll]
  | [], y :: ys => by simp [PyData.eqvAll]
  | x :: xs, [] => by simp [PyData.eqvAll]
  | x :: xs, y :: ys => by
    rw [List.map_cons, List.map_cons, PyData.eqvAll, strs_eqv xs ys]
    by_cases h : x = y <;> simp [PyData.eqv, h]
theorem span_eqv (x y : Rn.Sp3) : PyData.eqv (spanD x) (spanD y) = decide (x = y) := by
  obtain ⟨a, b, c⟩ := x
  obtain ⟨d, e, f⟩ := y
  simp only [spanD, PyData.eqv, PyData.eqvAll, od_eqv, Bool.and_true]
  by_cases h1 : a = d <;> by_cases h2 : b = e <;> by_cases h3 : c = f <;> simp [h1, h2, h3]
theorem spans_eqv : ∀ xs ys : List Rn.Sp3, PyData.eqvAll (xs.map spanD) (ys.map spanD) = decide (xs = ys)
  | [], [] => by simp [PyData.eqvAll]
  | [], y :: ys => by simp [PyData.eqvAll]
  | x :: xs, [] => by simp [PyData.eqvAll]
  | x :: xs, y :: ys => by
    rw [List.map_cons, List.map_cons, PyData.eqvAll, span_eqv, spans_eqv xs ys]
    by_cases h : x = y <;> simp [h]
theorem zn_eqv_iff (x y : Zn.Z) : PyData.eqv (znD x) (znD y) = true ↔ x = y := by
  obtain ⟨a, b, c, d⟩ := x
  obtain ⟨e, f, g, h⟩ := y
  simp only [znD, PyData.eqv, PyData.eqvAll, pairD, od_eqv, strs_eqv, spans_eqv, Bool.and_true, Bool.and_eq_true, decide_eq_true_eq]
  constructor
  · rintro ⟨rfl, rfl, rfl, rfl⟩
    rfl
  · intro q
    cases q
    exact ⟨rfl, rfl, rfl, rfl⟩
end
end EW
end

section
set_option maxHeartbeats 4000000
/-! EwTab: what stands while tables of code objects grow. -/
namespace EW
open PySem PySem.Spec PyProof.Rows L2 LamX
section
variable {K : W.Frag} {H H' H1 : Hp} {a : Addr} {v : V} {xs vs : List V}
theorem rd_ext {u : HO} (h : Rd H a u) (hu : ∀ ps, u ≠ .tbl ps) (e : ExtN H H') : Rd H' a u := by
  rcases h with h | ⟨o, h⟩
  · exact .inl (e _ _ h hu)
  · exact .inr ⟨o, e _ _ h fun ps z => by cases z⟩
theorem sqT_ext (h : SqT K H a xs) (e : ExtN H H') : SqT K H' a xs := by
  rcases h with h | h
  · exact .inl (rd_ext h (fun ps z => by cases z) e)
  · exact .inr h
theorem sqL_ext (h : SqL K H a xs) (e : ExtN H H') : SqL K H' a xs := by
  rcases h with h | h
  · exact .inl (rd_ext h (fun ps z => by cases z) e)
  · exact .inr h
theorem tp_ext (h : Tp K H v xs) (e : ExtN H H') : Tp K H' v xs := let ⟨a, e1, q⟩ := h; ⟨a, e1, sqT_ext q e⟩
theorem sns_ext {ss : List Rn.Sp3} (h : Sns K H vs ss) (e : ExtN H H') : Sns K H' vs ss := Paired.mono (fun _ _ q => tp_ext q e) h
theorem znV_ext {z : Zn.Z} (h : ZnV K H v z) (e : ExtN H H') : ZnV K H' v z := by
  obtain ⟨a, b, c, us, h1, h2, h3, h4, h5⟩ := h
  exact ⟨a, b, c, us, tp_ext h1 e, sqT_ext h2 e, sqT_ext h3 e, sns_ext h4 e, tp_ext h5 e⟩
theorem kdV_ext {k : Kd} (h : KdV K H v k) (e : ExtN H H') : KdV K H' v k := by
  cases k with
  | time => exact h
  | dom l => exact tp_ext h e
theorem ent_ext {kvs : List (Key × V)} {S : Shp} (h : Ent K H kvs S) (e : ExtN H H') : Ent K H' kvs S := Paired.mono (fun _ _ q => ⟨q.1, kdV_ext q.2 e⟩) h
theorem shp_ext {S : Shp} (h : ShpAt K H v S) (e : ExtN H H') : ShpAt K H' v S := by
  obtain ⟨d, kvs, e1, h1, h2⟩ := h
  exact ⟨d, kvs, e1, e _ _ h1 (fun ps z => by cases z), ent_ext h2 e⟩
theorem ext_same (e : ExtN H H1) (s : Same H1 H') : ExtN H H' := fun b o q n => s _ _ (e b o q n)
theorem same_ext (s : Same H H1) (e : ExtN H1 H') : ExtN H H' := fun b o q n => e b o (s _ _ q) n
theorem ext_of (s : Same H H') : ExtN H H' := .of s
theorem lst_ne {xs : List V} (ps : Array Value) : HO.lst xs ≠ .tbl ps := fun z => by cases z
theorem ext_lst (e : ExtN H H') {d : Addr} (h : H d = some (.lst xs)) : H' d = some (.lst xs) := e _ _ h (lst_ne)
/-- one object, neither table nor code, is changed -/
theorem tabs_upd {T : List (Addr × Str)} {d : Addr} {u o : HO} (t : Tabs T H) (h : H d = some u) (n1 : ∀ ps, u ≠ .tbl ps) (n2 : ∀ q, u ≠ CodeO d q) : Tabs T (upd H d o) := fun p hp => by
  obtain ⟨ps, h1, h2, h3⟩ := t p hp
  have e : ∀ b w, H b = some w → b ≠ d ∨ w = u := fun b w e => by
    by_cases z : b = d
    · rw [z, h] at e
      exact .inr (Option.some.inj e).symm
    · exact .inl z
  refine ⟨ps, ?_, h2, fun pos cv hc => ?_⟩
  · rcases e _ _ h1 with z | z
    · rw [upd_ne z]
      exact h1
    · exact absurd z.symm (n1 ps)
  · obtain ⟨c, e1, e2⟩ := h3 pos cv hc
    refine ⟨c, e1, ?_⟩
    by_cases z : c = d
    · rw [z, h] at e2
      exact absurd (Option.some.inj e2) (n2 _)
    · rw [upd_ne z]
      exact e2
theorem tabs_lst {T : List (Addr × Str)} {d : Addr} {o : HO} (t : Tabs T H) (h : H d = some (.lst xs)) : Tabs T (upd H d o) := tabs_upd t h lst_ne fun q z => by unfold CodeO at z; cases z
theorem tabs_frz {T : List (Addr × Str)} {d : Addr} {o u : HO} {od : Obj} (t : Tabs T H) (h : H d = some (.frz od u)) : Tabs T (upd H d o) := tabs_upd t h (fun ps z => by cases z) fun q z => by unfold CodeO at z; cases z
theorem tabs_new {T : List (Addr × Str)} {d : Addr} {o : HO} (t : Tabs T H) (h : H d = none) : Tabs T (upd H d o) := t.ext fun b w e => by
  rw [upd_ne (ne_of_none e h)]
  exact e
/-- the object d, and tables, may change -/
def KeptN (d : Addr) (H H' : Hp) : Prop := ∀ a o, a ≠ d → H a = some o → (∀ ps, o ≠ .tbl ps) → H' a = some o
theorem keptN_ext {d : Addr} (k : Kept d H H1) (e : ExtN H1 H') : KeptN d H H' := fun a o n h t => e _ _ (k a o n h) t
end
/-- THE RULE of a def, its own code told -/
theorem okC {P : Program} {w : World} {K : W.Frag} {mg : Str → Option Value} {base : Heap} {x qual : Str} {params : Arguments} {body : List Stmt} {scope : Scope} {dvs : List V} {kws : List (Str × V)} {f : Addr} {fd : FuncData} {CX : CXT} {N ps : List Str} {k : Nat} {sp : Sp} {c : Addr}
    (F : FunD K x qual params body scope dvs kws f fd) (hc : fd.code = .ref c) (S : FnScope N ps scope) (len : ∀ vs H Q E, sp vs H Q E → vs.length = ps.length)
    (hbody : ∀ (A : Around) (outer : List Env) (s : Shared) (H : Hp) (vs : List V) (Q : VK) (E : XK), Room k (A.deeper (envOfC qual scope s.heap.objs.size f (.ref c))) → sp vs H Q E →
      ∃ t, PSs (cxOf CX P w K mg base N qual scope f (.ref c) A outer s H E) body t ∧ t { nx := fun _ H' => Q .non H', rt := Q } (start N vs) H) : FnOk P w K mg base CX (k + 1) f fd ps sp := by
  obtain ⟨oc, od, dV, kV, doc, pm, an, cdv, ct, osl, rfl, lk, hcd, _, _⟩ := F.ex
  have hc : cdv = .ref c := hc
  subst hc
  exact fn_of lk hcd S len fun A outer s H vs Q E hr hsp => hbody A outer s H vs Q E hr hsp
end EW
end

section
set_option maxHeartbeats 4000000
/-! EwTryM: try with several clauses, of which some bind the exception to a name. -/
namespace EW
open PySem PySem.Spec PyProof.Rows L2
/-- the ends behind a clause that binds slot i: the name goes -/
def clr (i : Nat) (D : Ends) : Ends where
  nx := fun τ G => D.nx (τ.set i none) G
  rt := D.rt
  bk := fun τ G => D.bk (τ.set i none) G
  ct := fun τ G => D.ct (τ.set i none) G
abbrev HdR := Value × (Addr → Value → Option Addr → TS)
/-- clauses and their readings -/
inductive Hds (X : Cx) : List ExceptHandler → List HdR → Prop
  | nil : Hds X [] []
  | plain {x : Str} {c : Value} {ts : Addr → Value → Option Addr → TS} {st : Stmt} {sts : List Stmt} {q1 q2 : Pos} {hd : List ExceptHandler} {l : List HdR} (nm : Names X x c)
      (su : ∀ (a : Addr) (o : Obj) (C : Value) (d : Option Addr) (pn : List (Addr × Obj)), Zc C d o → (∃ fs, o.data = .fields fs) → PSs (X.suite a ((a, o) :: pn)) (st :: sts) (ts a C d)) (r : Hds X hd l) :
      Hds X (.ExceptHandler (some (.Name x q1)) none (st :: sts) q2 :: hd) ((c, ts) :: l)
  | as {x n : Str} {i : Nat} {c : Value} {ts : Addr → Value → Option Addr → TS} {st : Stmt} {sts : List Stmt} {q1 q2 : Pos} {hd : List ExceptHandler} {l : List HdR} (nd : X.N.Nodup) (ni : X.N[i]? = some n) (nl : X.env.kindOf n = some .local) (nm : Names X x c)
      (su : ∀ (a : Addr) (o : Obj) (C : Value) (d : Option Addr) (pn : List (Addr × Obj)), Zc C d o → (∃ fs, o.data = .fields fs) → PSs (X.suite a ((a, o) :: pn)) (st :: sts) (ts a C d)) (r : Hds X hd l) :
      Hds X (.ExceptHandler (some (.Name x q1)) (some n) (st :: sts) q2 :: hd) ((c, fun a C d D σ H => ts a C d (clr i D) (σ.set i (some (.ref a))) H) :: l)
section
variable {X : Cx} {body : List Stmt} {hd0 : ExceptHandler} {hd : List ExceptHandler} {l : List HdR} {pos : Pos} {tb : WX → TS} {Wo : WX}
theorem ps_try_mix (e1 : X.stack = X.env :: X.outer) (e2 : X.env.frame = some X.env.locals) (tk : Takes X Wo)
    (hb : ∀ (W : WX) (pn : List (Addr × Obj)) (xe : Value → Shared → Prop), Takes (X.tr pn xe) W → PassesOwn (model X.prog X.w) X.A X.env xe → PSs (X.tr pn xe) body (tb W))
    (hh : Hds X (hd0 :: hd) l) : PS X (.Try body (hd0 :: hd) [] [] pos) (fun D τ G => tb (wMany X.K Wo D l) D τ G) := by
  refine ⟨fun ps s0 τ G D I0 t0 => ?_⟩
  have frm : X.A.frames = some (X.env :: X.outer) := by
    rw [I0.ok.frames, e1]
  let out : Value → Shared → Prop := fun u t => wpAny (model X.prog X.w) X.A (noteFrame u X.env) (fun _ t => wpAny (model X.prog X.w) X.A (setFlight u none) (fun _ t =>
    wpAny (model X.prog X.w) X.A (handleBy u X.env (hd0 :: hd)) (SP X ps D) X.xe t) X.xe t) X.xe t
  refine wpAny_Try_except ?_
  have run := (hb (wMany X.K Wo D l) (X.pn ++ ps) out ?takes PassesOwn.looking).run [] s0 τ G D (I0.toTry _) t0
  · refine wpAny_mono run (fun fl t z => ?_) fun u t z => z
    cases fl with
    | next =>
      obtain ⟨τ', G', J, k⟩ := z
      exact wpAny_execs_nil ⟨_, _, J.ofTry I0.ok, k⟩
    | ret u =>
      obtain ⟨y, τ', G', J, ry, k⟩ := z
      exact ⟨_, _, _, J.ofTry I0.ok, ry, k⟩
    | brk =>
      obtain ⟨τ', G', J, k⟩ := z
      exact ⟨_, _, J.ofTry I0.ok, k⟩
    | cont =>
      obtain ⟨τ', G', J, k⟩ := z
      exact ⟨_, _, J.ofTry I0.ok, k⟩
  · intro u t z
    obtain ⟨a, B, tI, ps', τ', G', C, d, rfl, J', nb, up, sky, na, os, ag, w⟩ := z
    have J : Inv X ps τ' G' tI := J'.ofTry I0.ok
    rw [show (X.tr (X.pn ++ ps) out).stack = X.env :: X.outer from e1] at sky
    show wpAny (model X.prog X.w) X.A (noteFrame (.ref a) X.env) _ _ _
    refine Sky.land Zc.steady frm e2 sky fun g3 fly up3 => ?_
    have J3 : Inv X ps τ' G' { t with heap := g3 } := J.landed nb fly.1 (up.trans up3) os ag
    obtain ⟨o3, fs3, ho3, hz3, hd3⟩ := fly.there
    have off : ∀ {g : Heap} {o : Obj} {fs : Array Value}, g.FunFrames B (X.env :: X.outer) → g.get? a = some o → o.data = .fields fs → a ∉ frs (X.env :: X.outer) := fun {g o fs} ff y1 y2 hm => by
      obtain ⟨_, o', y3, nf⟩ := ff.mem hm
      rw [y1] at y3
      cases y3
      exact nf _ y2
    have naF := off fly.2.2.1 ho3 hd3
    have naL : a ≠ X.env.locals := fun y => naF (List.mem_filterMap.mpr ⟨X.env, List.mem_cons_self, by rw [e2, y]⟩)
    have naX : a ∉ X.fs := fun hm => by
      obtain ⟨en, he, q⟩ := List.mem_filterMap.mp hm
      exact naF (List.mem_filterMap.mpr ⟨en, List.mem_cons_of_mem _ he, q⟩)
    have S3 := J3.suite ho3 hd3 na naL naX
    have go : ∀ {hs' : List ExceptHandler} {l' : List HdR}, Hds X hs' l' → wMany X.K Wo D l' C d τ' G' → wpAny (model X.prog X.w) X.A (handleBy (.ref a) X.env hs') (SP X ps D) X.xe { t with heap := g3 } := by
      intro hs' l' hk
      have tst : ∀ {x : Str} {c : Value} {q1 : Pos} {Q : Value → Shared → Prop} {E : Value → Shared → Prop}, Names X x c → Q c { t with heap := g3 } → wpAny (model X.prog X.w) (X.A.mark (some (.ref a))) (eval (.Name x q1) X.env) Q E { t with heap := g3 } := by
        intro x c q1 Q E nm k
        obtain ⟨g0, g1, g2 | ⟨g2, g4, g5⟩⟩ := nm
        · exact ld_glob (X := X.suite a ((a, o3) :: (X.pn ++ ps))) S3 g0 g2 k g1
        · exact ld_blt (X := X.suite a ((a, o3) :: (X.pn ++ ps))) S3 g0 g2 g4 k g5 g1
      have typ : PySem.W.Looks (model X.prog X.w) g3 (typeOf (.ref a)) C := fun A' Q' E' t' kp k => wpAny_typeOf_ref (kp _ _ ho3) (by rw [hz3.1]; exact k)
      induction hk with
      | nil =>
        intro w
        refine wpAny_handleBy_nil ?_
        obtain ⟨_, _, _, o5, fs5, T5, oT5, tr5, y1, y2, y3, y4, y5⟩ := id fly
        unfold PySem.passOn
        refine wpAny_bind (wpAny_field y1 y3 y4 ?_)
        rw [if_neg (show ¬ ((Value.ref T5 == Value.none) = true) from by simp)]
        have last : wpAny (model X.prog X.w) X.A (setFlight (.ref a) X.env.frame) (fun _ t' => wpAny (model X.prog X.w) X.A (throw (.ref a) : Sem Flow) (SP X ps D) X.xe t') X.xe { t with heap := g3 } := by
          rw [e2]
          refine HandSPX.setFlight_upZ fly fun g4 held up4 => wpAny_throw (tk _ _ ?_)
          exact ⟨a, B, tI, ps, τ', G', C, d, rfl, J, nb, (up.trans up3).trans up4, .inr (.inr (by rw [e1]; exact held)), na, os, ag, w⟩
        first
          | exact wpAny_bind (wpAny_pure (wpAny_bind last))
          | exact wpAny_bind last
      | @plain x c ts st sts q1 q2 hd' l' nm su r ih =>
        intro w
        obtain ⟨b, eb, yes, no⟩ := w
        refine wpAny_handleBy_cons (codeAny_handlers_test (tst nm ((PySem.W.exm_one (M := model X.prog X.w) J3.kIn typ eb).here ?_))) (by intro q; cases q)
        cases b with
        | false => exact ih (no rfl)
        | true =>
          refine codeAny_handlers_suite (HandSPX.lands_againZ fly fun g4 fly4 up4 => ?_)
          have J4 : Inv X ps τ' G' { t with heap := g4 } := J.landed nb fly4.1 ((up.trans up3).trans up4) os ag
          obtain ⟨o4, fs4, ho4, hz4, hd4⟩ := fly4.there
          have S4 := J4.suite ho4 hd4 na naL naX
          refine wpAny_mono ((su a o4 C d (X.pn ++ ps) hz4 ⟨_, hd4⟩).run [] _ _ G' _ S4 (yes rfl a na)) (fun fl t6 z => ?_) (fun _ _ z => False.elim z)
          cases fl with
          | next =>
            obtain ⟨τ6, G6, S6, k⟩ := z
            exact ⟨_, _, S6.unsuite I0.ok, k⟩
          | ret u =>
            obtain ⟨y6, τ6, G6, S6, r6, k⟩ := z
            exact ⟨_, _, _, S6.unsuite I0.ok, r6, k⟩
          | brk =>
            obtain ⟨τ6, G6, S6, k⟩ := z
            exact ⟨_, _, S6.unsuite I0.ok, k⟩
          | cont =>
            obtain ⟨τ6, G6, S6, k⟩ := z
            exact ⟨_, _, S6.unsuite I0.ok, k⟩
      | @as x n i c ts st sts q1 q2 hd' l' nd ni nl nm su r ih =>
        intro w
        obtain ⟨b, eb, yes, no⟩ := w
        refine wpAny_handleBy_cons (codeAny_handlers_test (tst nm ((PySem.W.exm_one (M := model X.prog X.w) J3.kIn typ eb).here ?_))) (by intro q; cases q)
        cases b with
        | false => exact ih (no rfl)
        | true =>
          refine codeAny_handlers_suite_as (HandSPX.lands_againZ fly fun g4 fly4 up4 => ?_)
          have J4 : Inv X ps τ' G' { t with heap := g4 } := J.landed nb fly4.1 ((up.trans up3).trans up4) os ag
          obtain ⟨o4, fs4, ho4, hz4, hd4⟩ := fly4.there
          have S4 := J4.suite ho4 hd4 na naL naX
          refine store_ok (X := X.suite a ((a, o4) :: (X.pn ++ ps))) (v := .ref a) S4 nd ni (.inl nl) rfl (fun t5 S5 => ?_) (.inr nl)
          refine wpAny_mono ((su a o4 C d (X.pn ++ ps) hz4 ⟨_, hd4⟩).run [] t5 _ G' _ S5 (yes rfl a na)) (fun fl t6 z => ?_) (fun _ _ z => False.elim z)
          have gone : ∀ {τ6 : L2.St} {G6 : Hp} {Q : Shared → Prop}, Inv (X.suite a ((a, o4) :: (X.pn ++ ps))) [] τ6 G6 t6 → (∀ t7, Inv X ps (τ6.set i none) G6 t7 → Q t7) →
              wpAny (model X.prog X.w) X.A (do bindName X.env n .none; unbindBehindTheSuite X.env n q2) (fun _ t7 => Q t7) X.xe t6 := fun {τ6 G6 Q} S6 k => gone_ok (S6.unsuite I0.ok) nd ni nl k
          cases fl with
          | next =>
            obtain ⟨τ6, G6, S6, k⟩ := z
            exact gone S6 fun t7 J7 => ⟨_, _, J7, k⟩
          | ret u =>
            obtain ⟨y6, τ6, G6, S6, r6, k⟩ := z
            exact gone S6 fun t7 J7 => ⟨_, _, _, J7, r6, k⟩
          | brk =>
            obtain ⟨τ6, G6, S6, k⟩ := z
            exact gone S6 fun t7 J7 => ⟨_, _, J7, k⟩
          | cont =>
            obtain ⟨τ6, G6, S6, k⟩ := z
            exact gone S6 fun t7 J7 => ⟨_, _, J7, k⟩
    exact go hh w
end
end EW
end

section
set_option maxHeartbeats 4000000
/-! EwRaise: defs that let exceptions of own classes out; the raise of them; a call that may raise. -/
namespace EW
open PySem PySem.Spec PyProof.Rows L2
/-- a def of the module that may let exceptions out, by its name -/
structure DfX (P : Program) (w : World) (K : W.Frag) (mg : Str → Option Value) (base : Heap) (k : Nat) (x : Str) (ps : List Str) (sp : Sp) : Prop where
  ex : ∃ fd, FnOk P w K mg base (L2.CX P w) k (He.ga K x) fd ps sp ∧ Binds K fd ps []
  kp : W.keepIn K (.ref (He.ga K x)) = true
  gl : mg x = some (.ref (He.ga K x))
section
variable {X : Cx} {k : Nat} {ps : List Str} {sp : Sp} {x : Str} {p pos : Pos} {e : Expr} {es : List Expr} {t : TA} {W : WX}
theorem pe_dfX (D : DfX X.prog X.w X.K X.mg X.base k x ps sp) (hr : Room k X.A) (tk : Takes X W) (hg : Gl X x) (ha : PA X (e :: es) t) (hdb : (x == ("__debug__" : Str)) = false := by decide)
    (he : starEach (e :: es) X.env = (false, eval e X.env) :: starEach es X.env := by rfl) (hpl : (backTo pos (starEach es X.env)).any (·.1) = false := by rfl) :
    PE X (.Call (.Name x p) (e :: es) [] pos) (tCallS sp (WE W) t) := by
  obtain ⟨fd, F, b⟩ := D.ex
  exact pe_callS F hr hg D.gl D.kp b (fun τ => passAt tk τ) ha hdb he hpl
end
/-- what leaves a def is as the caller wishes -/
theorem takes_def {P : Program} {w : World} {K : W.Frag} {mg : Str → Option Value} {base : Heap} {N : List Str} {q : Str} {sc : Scope} {f : Addr} {cd : Value} {A : Around} {outer : List Env} {s : Shared} {H : Hp} {E : XK} :
    Takes (cxOf (L2.CX P w) P w K mg base N q sc f cd A outer s H E) (fun cls d _ G => E cls d G) := takes_of rfl rfl rfl rfl
theorem takes_lam {X : Cx} {A : Around} {outer : List Env} {s : Shared} {H : Hp} {E : XK} {sc : Scope} {f c : Addr} : Takes (LamX.lamCx X A outer s H E sc f c) (fun cls d _ G => E cls d G) := takes_of rfl rfl rfl rfl
theorem own_def {P : Program} {w : World} {K : W.Frag} {mg : Str → Option Value} {base : Heap} {N : List Str} {q : Str} {sc : Scope} {f : Addr} {cd : Value} {A : Around} {outer : List Env} {s : Shared} {H : Hp} {E : XK} :
    PassesOwn (model P w) (cxOf (L2.CX P w) P w K mg base N q sc f cd A outer s H E).A (cxOf (L2.CX P w) P w K mg base N q sc f cd A outer s H E).env (cxOf (L2.CX P w) P w K mg base N q sc f cd A outer s H E).xe := passes_of rfl
/-! ### raise of a class that takes a message -/
abbrev veBs : List Value := [.type "ValueError", .type "Exception", .type "BaseException", .type "object"]
structure XMsg (K : W.Frag) (mg : Str → Option Value) (x : Str) : Prop where
  q : W.excIn K (He.ga K x) veBs "ValueError.__new__" = true
  gl : mg x = some (.ref (He.ga K x))
  kp : W.keepIn K (.ref (He.ga K x)) = true
  sub : W.subIn K (.ref (He.ga K x)) (.type "BaseException") = some true
  ty : W.typeIn K (.ref (He.ga K x)) = some (.type "type")
def xmsgB (K : W.Frag) (x : Str) : Bool := W.excIn K (He.ga K x) veBs "ValueError.__new__" && (He.eqO (W.nsIn K mainGlobals x) (some (some (.ref (He.ga K x)))) && (W.keepIn K (.ref (He.ga K x)) && (decide (W.subIn K (.ref (He.ga K x)) (.type "BaseException") = some true) && decide (W.typeIn K (.ref (He.ga K x)) = some (.type "type")))))
theorem xmsgB_ok {K : W.Frag} {h : Heap} {mg : Str → Option Value} (X : K.In h) (G : h.Ns mainGlobals mg) {x : Str} (c : xmsgB K x = true) : XMsg K mg x := by
  obtain ⟨c1, c⟩ := He.ba c
  obtain ⟨c2, c⟩ := He.ba c
  obtain ⟨c3, c⟩ := He.ba c
  obtain ⟨c4, c5⟩ := He.ba c
  exact ⟨c1, W.mg_of X G (He.eqO_ok c2), c3, of_decide_eq_true c4, of_decide_eq_true c5⟩
theorem ps_raiseM {X : Cx} {W : WX} {x m : Str} {j : Nat} {p1 p2 p3 pos : Pos} (M : XMsg X.K X.mg x) (tk : Takes X W) (hc : X.calm = true) (hg : Gl X x) (hdb : (x == ("__debug__" : Str)) = false := by decide) :
    PS X (.Raise (some (.Call (.Name x p1) [.Constant (.str m) j p2] [] p3)) none pos) (fun _ τ G => W (.ref (He.ga X.K x)) none τ G) := ps_raise hc tk (pmk_own F.excBase_ValueError M.q M.gl M.kp (raises_own M.sub M.ty) hg hdb)
/-! ### raise of a class with an own __init__ -/
def Mkr (bmB : List Value) (newId : String) : Prop := ∃ (Bn inN : String) (bmN : List Value), ExcBaseFacts Bn newId inN bmN ∧ bmB.contains (.type Bn) = true ∧ bmB.contains (.type "AttributeError") = false ∧ bmB.contains (.type "NameError") = false
/-- the promise of an __init__ that keeps n values in these fields -/
def spInit (C : Addr) (n : Nat) (mk : List V → List (Str × V)) : Sp := fun vs H Q _ => ∃ (a : Addr) (ws : List V), vs = .ref a :: ws ∧ ws.length = n ∧ H a = some (exo a C none) ∧
  ∀ (d : Addr) (H' : Hp), H d = none → d ≠ a → (∀ b o, b ≠ a → H b = some o → H' b = some o) → H' a = some (exo a C (some d)) → H' d = some (exd d (mk ws)) → Q .non H'
structure OwnX (K : W.Frag) (mg : Str → Option Value) (x : Str) (bmB : List Value) (newId B initId : String) (f : Str) : Prop where
  g : mg x = some (.ref (He.ga K x))
  mkx : XMk K (He.ga K x) (He.ma K (He.ga K x) "__init__") bmB newId
  no : W.findIn K (.ref (He.ga K x)) f = some none
  vV : W.findCls K (.type B) (.type "type") "__init__" = some (.val (.builtin initId))
  xf : XfC K (He.ga K x)
  ty : W.typeIn K (.ref (He.ga K x)) = some (.type "type")
def valB (o : Option W.CFound) (id : String) : Bool := match o with
  | some (.val (.builtin i)) => decide (i = id)
  | _ => false
theorem valB_ok {o : Option W.CFound} {id : String} (h : valB o id = true) : o = some (.val (.builtin id)) := by
  cases o with
  | none => cases h
  | some f =>
    cases f with
    | val v =>
      cases v with
      | builtin i =>
        have e : i = id := of_decide_eq_true h
        rw [e]
      | _ => cases h
    | _ => cases h
def ownB (K : W.Frag) (x : Str) (bmB : List Value) (newId B initId : String) (f : Str) : Bool := xmkB K (He.ga K x) (He.ma K (He.ga K x) "__init__") bmB newId && (He.eqO (W.nsIn K mainGlobals x) (some (some (.ref (He.ga K x))))
  && (He.eqO (W.findIn K (.ref (He.ga K x)) f) (some none) && (valB (W.findCls K (.type B) (.type "type") "__init__") initId && (xfB K (He.ga K x) && decide (W.typeIn K (.ref (He.ga K x)) = some (.type "type"))))))
theorem ownB_ok {K : W.Frag} {h : Heap} {mg : Str → Option Value} (X : K.In h) (G : h.Ns mainGlobals mg) {x : Str} {bmB : List Value} {newId B initId : String} {f : Str} (c : ownB K x bmB newId B initId f = true) : OwnX K mg x bmB newId B initId f := by
  obtain ⟨c1, c⟩ := He.ba c
  obtain ⟨c2, c⟩ := He.ba c
  obtain ⟨c3, c⟩ := He.ba c
  obtain ⟨c4, c⟩ := He.ba c
  obtain ⟨c5, c6⟩ := He.ba c
  exact ⟨W.mg_of X G (He.eqO_ok c2), xmkB_ok c1, He.eqO_ok c3, valB_ok c4, xfB_ok c5, of_decide_eq_true c6⟩
structure InitOk (P : Program) (w : World) (K : W.Frag) (mg : Str → Option Value) (base : Heap) (x : Str) (bmB : List Value) (newId : String) (ps : List Str) (n : Nat) (mk : List V → List (Str × V)) : Prop where
  ex : ∃ fd, FnOk P w K mg base CX0 1 (He.ma K (He.ga K x) "__init__") fd ps (spInit (He.ga K x) n mk) ∧ Binds K fd ps []
  mkr : Mkr bmB newId
/-- C(e, ..), to be raised: its dict is known -/
def tMkR (C : Addr) (n : Nat) (mk : List V → List (Str × V)) (ta : TA) : L2.St → Hp → XK → Prop := fun σ H Q => ta σ H fun vs H1 => vs.length = n ∧ n ≤ 1000 ∧ ∀ (d : Addr) (H2 : Hp), Same H1 H2 → H2 d = some (.xd (mk vs)) → Q (.ref C) (some d) H2
section
variable {X : Cx} {x f : Str} {bmB : List Value} {newId B initId : String} {ps : List Str} {n : Nat} {mk : List V → List (Str × V)} {e : Expr} {es : List Expr} {ta : TA} {p pos : Pos}
theorem pmk_ownX (O : OwnX X.K X.mg x bmB newId B initId f) (I : InitOk X.prog X.w X.K X.mg X.base x bmB newId ps n mk) (hr : Room 2 X.A) (hg : Gl X x) (ha : PA X (e :: es) ta)
    (hdb : (x == ("__debug__" : Str)) = false := by decide) (he : starEach (e :: es) X.env = (false, eval e X.env) :: starEach es X.env := by rfl) (hpl : (backTo pos (starEach es X.env)).any (·.1) = false := by rfl) :
    PMk X (.Call (.Name x p) (e :: es) [] pos) (tMkR (He.ga X.K x) n mk ta) := by
  obtain ⟨fd, F1, b⟩ := I.ex
  obtain ⟨Bn, inN, bmN, Fn, m1, m2, m3⟩ := I.mkr
  have T := O.mkx
  intro pins s σ H Q J0 h0
  refine wpAny_Call_Name_kw (ld_glob J0 hg O.g ?_ hdb)
  refine W.callWith_K (h₀ := X.base) J0.ok.mod.kin T.kp (thn (ha.run pos pins s σ H _ J0 h0) fun us s1 hq => ?_) he hpl
  obtain ⟨vs, H1, I1, r1, len, big, q1⟩ := hq
  refine ⟨I1.kIn, ?_⟩
  show wpAny _ _ (call (.ref (He.ga X.K x)) us) _ _ _
  obtain ⟨nm, N, qn, bs, bm, hdc, sn, sub, ab, col, dd, k0, k1, k2, k3, k5, hC, hbm⟩ := W.excInit_of I1.kIn T.mkr
  have O2 : NewOk (He.ga X.K x) bm Bn := ⟨(ref_contains hbm _).trans m1, (ref_contains hbm _).trans m2, (ref_contains hbm _).trans m3⟩
  obtain ⟨hp, g, dr, tk, os⟩ := s1
  have above : hp.objs.size ≤ hp.objs.size + 1 := Nat.le_succ _
  have hn : H1 (hp.objs.size + 1) = none := I1.hok.fresh above
  have kk : ∀ b o, hp.get? b = some o → ((hp.push (W.kdv_tup us)).push (HandSPX.excO (He.ga X.K x) hp.objs.size)).get? b = some o :=
    fun b o z => Heap.get?_push_of_some _ (Heap.get?_push_of_some _ z)
  have hget : ((hp.push (W.kdv_tup us)).push (HandSPX.excO (He.ga X.K x) hp.objs.size)).get? (hp.objs.size + 1) = some (HandSPX.excO (He.ga X.K x) hp.objs.size) := by
    heap_get
  have I2 : Inv X pins σ (upd H1 (hp.objs.size + 1) (exo (hp.objs.size + 1) (He.ga X.K x) none)) ⟨(hp.push (W.kdv_tup us)).push (HandSPX.excO (He.ga X.K x) hp.objs.size), g, dr, tk, os⟩ :=
    I1.laid (t' := tk) kk above (exo_ok hget)
  have r2 : Vals (V.ref (hp.objs.size + 1) :: vs) (Value.ref (hp.objs.size + 1) :: us) := .cons rfl r1
  have sz : spInit (He.ga X.K x) n mk (V.ref (hp.objs.size + 1) :: vs) (upd H1 (hp.objs.size + 1) (exo (hp.objs.size + 1) (He.ga X.K x) none))
      (fun v H2 => v = .non ∧ ∃ (d : Addr) (fs : List (Str × V)), H2 (hp.objs.size + 1) = some (exo (hp.objs.size + 1) (He.ga X.K x) (some d)) ∧ H2 d = some (exd d fs) ∧ H1 d = none ∧ Q (.ref (He.ga X.K x)) (some d) (upd (del H2 (hp.objs.size + 1)) d (.xd fs))) (fun _ _ _ => False) := by
    refine ⟨_, vs, rfl, len, upd_same, fun d H' hd nd kp e1 e2 => ⟨rfl, d, _, e1, e2, ?_, q1 d _ (fun b o z => ?_) upd_same⟩⟩
    · rw [upd_ne nd] at hd
      exact hd
    · have nb := ne_of_none z hn
      have hd' : H1 d = none := by
        rw [upd_ne nd] at hd
        exact hd
      rw [upd_ne (ne_of_none z hd'), del_ne nb]
      exact kp b o nb (by rw [upd_ne nb]; exact z)
  have hl : (Value.ref (hp.objs.size + 1) :: us ++ []).length = ps.length := by
    have z := r2.length
    rw [F1.len _ _ _ _ sz] at z
    rw [List.append_nil]
    exact z.symm
  have hus : us.length ≤ sizeLine := by
    rw [← Paired.length r1, sizeLine_eq]
    omega
  have bb := b _ (Value.ref (hp.objs.size + 1) :: us) I2.kIn hl
  rw [List.append_nil] at bb
  refine wpAny_call (run_make Fn O2 hC (W.looks_findIn I1.kIn T.ini) (fun self => W.bind_fn I1.kIn self T.tyI) hus
    (codeAny_mono (F1.run _ X.stack _ _ ⟨Value.ref (hp.objs.size + 1) :: us, []⟩ (Value.ref (hp.objs.size + 1) :: us) _ _ (fun _ _ _ => False) (hr.make (He.ga X.K x) us []) (I2.env0.make (He.ga X.K x) us []) bb r2 sz) fun r s' z => ?_))
  cases r with
  | error er => exact (show False from z).elim
  | ok fl =>
    cases fl with
    | ret u =>
      obtain ⟨v, H2, os2, bare2, un2, hok2, rv, ev, d, fs, ea, ed, hd1, q2⟩ := z
      subst ev
      obtain ⟨h2, g2, d2, t2, os'⟩ := s'
      exact ⟨rv, mk_end (raises_own O.xf.exC O.ty) I1 above kk un2 hok2 os2 bare2 ea ed hd1 q2⟩
    | next => exact False.elim z
    | brk => exact False.elim z
    | cont => exact False.elim z
theorem ps_raiseX {W : WX} {p2 : Pos} (O : OwnX X.K X.mg x bmB newId B initId f) (I : InitOk X.prog X.w X.K X.mg X.base x bmB newId ps n mk) (hr : Room 2 X.A) (tk : Takes X W) (hc : X.calm = true) (hg : Gl X x) (ha : PA X (e :: es) ta)
    (hdb : (x == ("__debug__" : Str)) = false := by decide) (he : starEach (e :: es) X.env = (false, eval e X.env) :: starEach es X.env := by rfl) (hpl : (backTo pos (starEach es X.env)).any (·.1) = false := by rfl) :
    PS X (.Raise (some (.Call (.Name x p) (e :: es) [] pos)) none p2) (fun _ σ H => tMkR (He.ga X.K x) n mk ta σ H fun cls d H' => W cls d σ H') := ps_raise hc tk (pmk_ownX O I hr hg ha hdb he hpl)
end
/-! ### a name, bound if it can be -/
def tVarI (i : Nat) : TE := fun σ H Q => ∃ v, (i < σ.length → σ[i]? = some (some v)) ∧ Q v H
theorem pe_varI {X : Cx} {i : Nat} {x : Str} {pos : Pos} (hN : X.N[i]? = some x) (hv : Vis X.env.scope x) (hd : (x == ("__debug__" : Str)) = false := by decide) (hcd : (x == ("__classdict__" : Str)) = false := by decide) : PE X (.Name x pos) (tVarI i) := by
  refine ⟨fun pins s σ H Q I h => ?_⟩
  obtain ⟨v, e, k⟩ := h
  refine (pe_var hN hv hd hcd).run pins s σ H Q I ⟨v, e ?_, k⟩
  rw [I.len]
  exact (List.getElem?_eq_some_iff.mp hN).1
end EW
end

section
set_option maxHeartbeats 4000000
/-! EwReprM: repr of small values; defs by their names that call it; such defs that make lambdas. -/
namespace EW
open PySem PySem.Spec PyProof.Rows L2
/-- how values are shown: none, truths, numbers, texts, the empty tuple -/
inductive RepV (K : W.Frag) (H : Hp) : V → Str → Prop
  | non : RepV K H .non (Str.ofString "None")
  | bl (b : Bool) : RepV K H (.bl b) (if b then Str.ofString "True" else Str.ofString "False")
  | int (i : Int) : i.natAbs.log2 < 1920 → (Str.ofString (toString i)).length ≤ 4000 → RepV K H (.int i) (Str.ofString (toString i))
  | str (x : Str) : (reprText x).length ≤ 4000 → RepV K H (.str x) (reprText x)
  | nil (a : Addr) : SqT K H a [] → RepV K H (.ref a) (Str.ofString "()")
theorem RepV.same {K : W.Frag} {H H' : Hp} {v : V} {s : Str} (h : RepV K H v s) (k : Same H H') : RepV K H' v s := by
  cases h with
  | non => exact .non
  | bl b => exact .bl b
  | int i h1 h2 => exact .int i h1 h2
  | str x h1 => exact .str x h1
  | nil a h1 => exact .nil a (SqT.same h1 k)
theorem RepV.len {K : W.Frag} {H : Hp} {v : V} {s : Str} (h : RepV K H v s) : s.length ≤ 4000 := by
  cases h with
  | non => decide
  | bl b => cases b <;> decide
  | int i h1 h2 => exact h2
  | str x h1 => exact h1
  | nil a h1 => decide
theorem call_reprM {X : Cx} (hG : X.A.guards = some []) (hu : X.A.units + 100 < cLine) : CallR X (.builtin "repr") (fun xs H Q => ∃ (v : V) (s : Str), xs = [v] ∧ RepV X.K H v s ∧ Q (.str s) H) := by
  intro pins s σ H xs us Q I r h
  obtain ⟨v, z, rfl, hz, q⟩ := h
  have hl := hz.len
  have big : (4000 : Nat) ≤ sizeLine := by decide
  cases r with
  | cons rx rn =>
    cases rn
    cases hz with
    | non =>
      obtain rfl := rx
      exact PySem.P.repr_of_none ⟨.str _, H, I.tok _, ⟨_, rfl⟩, q⟩
    | bl b =>
      obtain rfl := rx
      exact PySem.P.repr_of_bool ⟨.str _, H, I.tok _, ⟨_, rfl⟩, q⟩
    | int i h1 h2 =>
      obtain ⟨t, rfl⟩ := rx
      exact PySem.P.repr_of_int h1 ⟨.str _, H, I.tok _, ⟨_, rfl⟩, q⟩
    | str x h1 =>
      obtain ⟨t, rfl⟩ := rx
      exact PySem.P.repr_of_str ⟨.str _, H, I.tok _, ⟨_, rfl⟩, q⟩ (Nat.le_trans h1 big)
    | nil a h1 =>
      obtain ⟨as, r1⟩ := Dp.reads I (.tuple []) (.ref a) _ (.tup h1 .nil) rx
      obtain rfl := rx
      exact repr_of_reads' r1 (by decide) (fun z => by cases z) hG (by show X.A.units + (1 + 1) < cLine; omega) (fun _ _ z => z)
        (fun h' u tk hk => ⟨.str (PyData.shown (.tuple [])), H, I.kept (t' := tk) hk, ⟨u, rfl⟩, q⟩) (by decide)
theorem call_reprMK {X : Cx} (K : W.Frag) (h : X.K = K) (hG : X.A.guards = some []) (hu : X.A.units + 100 < cLine) : CallR X (.builtin "repr") (fun xs H Q => ∃ (v : V) (s : Str), xs = [v] ∧ RepV K H v s ∧ Q (.str s) H) := by
  subst h
  exact call_reprM hG hu
/-- a def of the module, called while nothing is being shown, by its name -/
structure DfG (P : Program) (w : World) (K : W.Frag) (mg : Str → Option Value) (base : Heap) (k : Nat) (x : Str) (ps : List Str) (sp : Sp) : Prop where
  ex : ∃ fd, FnG P w K mg base CX0 k (He.ga K x) fd ps sp ∧ Binds K fd ps []
  kp : W.keepIn K (.ref (He.ga K x)) = true
  gl : mg x = some (.ref (He.ga K x))
theorem pe_dfG {X : Cx} {k : Nat} {ps : List Str} {sp : Sp} {x : Str} {p pos : Pos} {e : Expr} {es : List Expr} {t : TA} (D : DfG X.prog X.w X.K X.mg X.base k x ps sp) (hr : Room k X.A) (hG : X.A.guards = some []) (hg : Gl X x) (ha : PA X (e :: es) t) (hdb : (x == ("__debug__" : Str)) = false := by decide)
    (he : starEach (e :: es) X.env = (false, eval e X.env) :: starEach es X.env := by rfl) (hpl : (backTo pos (starEach es X.env)).any (·.1) = false := by rfl) :
    PE X (.Call (.Name x p) (e :: es) [] pos) (tCall sp [] E0 t) := by
  obtain ⟨fd, F, b⟩ := D.ex
  exact pe_callG F hr hG hg D.gl D.kp b pass0 ha hdb he hpl
/-- THE RULE for such a def, its own code told -/
theorem okGC {P : Program} {w : World} {K : W.Frag} {mg : Str → Option Value} {base : Heap} {CX : CXT} {x qual : Str} {params : Arguments} {body : List Stmt} {scope : Scope} {dvs : List V} {kws : List (Str × V)} {f : Addr} {fd : FuncData} {N ps : List Str} {k : Nat} {sp : Sp} {c : Addr}
    (F : FunD K x qual params body scope dvs kws f fd) (hc : fd.code = .ref c) (S : FnScope N ps scope) (len : ∀ vs H Q E, sp vs H Q E → vs.length = ps.length)
    (hbody : ∀ (A : Around) (outer : List Env) (s : Shared) (H : Hp) (vs : List V) (Q : VK) (E : XK), Room k (A.deeper (envOfC qual scope s.heap.objs.size f (.ref c))) → A.guards = some [] → sp vs H Q E →
      ∃ t, PSs (cxOf CX P w K mg base N qual scope f (.ref c) A outer s H E) body t ∧ t { nx := fun _ H' => Q .non H', rt := Q } (start N vs) H) : FnG P w K mg base CX (k + 1) f fd ps sp := by
  obtain ⟨oc, od, dV, kV, doc, pm, an, cdv, ct, osl, rfl, lk, hcd, _, _⟩ := F.ex
  have hc : cdv = .ref c := hc
  subst hc
  refine ⟨len, fun A outer s H args us vs Q E hr hg e0 hb r hsp => ?_⟩
  have hl := len _ _ _ _ hsp
  have ke := fun b o e => (e0.bs b o e).1
  refine codeAny_call_function hr.depth ((e0.mod.kin.keeps ke) _ _ lk) rfl S.co S.gen rfl (W.codeRec_of (e0.mod.kin.keeps ke) hcd) (hb _ _ _ _ ?_)
  refine wpAny_newFunctionEnv_cells S.kind (fun y hy => ?_) fun env he s1 xc => ?_
  · obtain ⟨n, v⟩ := y
    rcases S.par n (List.of_mem_zip hy).1 with q | q
    · exact .inl q
    · exact .inr ⟨q, W.cellsFrom_some _ _ _ (.inl q)⟩
  · subst he
    refine ⟨(e0.mod.nolimit.keeps ke).keeps xc.toInCall.keep, codeAny_func ?_⟩
    obtain ⟨t, ht, hq⟩ := hbody A outer s H vs Q E (hr.deeper _) hg hsp
    have I : Inv (cxOf CX P w K mg base N qual scope f (.ref c) A outer s H E) [] (start N vs) H s1 := inv_start S hr.hd e0 hl r xc
    refine wpAny_mono (ht.run [] s1 (start N vs) H _ I hq) (fun fl s' hs => ?_) fun e s' hs => hs
    cases fl with
    | ret u =>
      obtain ⟨v, σ', H', J, rv, q⟩ := hs
      exact ⟨v, H', J.os, J.bare, J.base, J.hok, rv, q⟩
    | next =>
      obtain ⟨σ', H', J, q⟩ := hs
      exact ⟨V.non, H', J.os, J.bare, J.base, J.hok, rfl, q⟩
    | brk =>
      obtain ⟨_, _, _, q⟩ := hs
      exact False.elim q
    | cont =>
      obtain ⟨_, _, _, q⟩ := hs
      exact False.elim q
end EW
end

section
set_option maxHeartbeats 4000000
/-! EwHeadTn: the head's run where any number of defs make lambdas; the law is called while nothing is being shown. -/
namespace EW
open PySem PySem.Spec PyProof.Rows L2 HandSHeadRun
/-- a table without entries -/
abbrev tabO : Obj := { cls := .none, data := .fields #[] }
/-- the script and the tables, as they are tracked at the law's call -/
def startH (K : W.Frag) (a : Addr) (O : Obj) (xs : List V) (ts : List Addr) : Hp := fun b => if b ∈ ts then some (.tbl #[]) else if b = a then (match K.lookup a with
  | none => some (.frz O (.lst xs))
  | some _ => none) else none
section
variable {K : W.Frag} {a : Addr} {O : Obj} {xs : List V} {ts : List Addr}
theorem startH_tab {b : Addr} (h : b ∈ ts) : startH K a O xs ts b = some (.tbl #[]) := if_pos h
theorem startH_cases (b : Addr) : startH K a O xs ts b = none ∨ (b ∈ ts ∧ startH K a O xs ts b = some (.tbl #[])) ∨ (b ∉ ts ∧ b = a ∧ K.lookup a = none ∧ startH K a O xs ts b = some (.frz O (.lst xs))) := by
  by_cases h : b ∈ ts
  · exact .inr (.inl ⟨h, if_pos h⟩)
  · by_cases e : b = a
    · cases hk : K.lookup a with
      | none => exact .inr (.inr ⟨h, e, rfl, by unfold startH; rw [if_neg h, if_pos e, hk]⟩)
      | some o => exact .inl (by unfold startH; rw [if_neg h, if_pos e, hk])
    · exact .inl (by unfold startH; rw [if_neg h, if_neg e])
end
/-- the law's call, by such a promise, with tables -/
theorem law_callTG {P : Program} {w : World} {K : W.Frag} {mg mb : Str → Option Value} {CX : CXT} {k : Nat} {fa a : Addr} {cs : List (Addr × Addr)} {fd : FuncData} {x : Str} {sp : Sp} {s₁ : Shared} {vs : List Value} {ns : List Int}
    (KX : K.In s₁.heap) (hns : s₁.heap.Ns mainGlobals mg) (hb : s₁.heap.Ns builtinsNs mb) (hbb : ∀ x : Str, x ≠ "__name__" → mb x = bootBuiltins x) (hlim : s₁.heap.NoLimit) (hg : s₁.gens = #[])
    (hT : ∀ p ∈ cs, s₁.heap.get? p.2 = some tabO) (nT : ∀ p ∈ cs, K.lookup p.2 = none) (C : ∀ p ∈ cs, W.CodeHd s₁.heap p.1 p.2)
    (hbm : ∃ (bm : Addr) (ob : Obj), mg "__builtins__" = some (.ref bm) ∧ bm ≠ builtinsNs ∧ s₁.heap.get? bm = some ob ∧ ob.cls = .type "module" ∧ ob.dict = some builtinsNs ∧ ob.data = .plain)
    (ha : s₁.heap.get? a = some { cls := .type "list", data := .seq vs.toArray }) (hi : IntsAre vs ns) (hl : ns.length ≤ sizeLine) (hr : Room k callerA)
    (F : ∀ base : Heap, K.In base → base.Ns mainGlobals mg → (∀ p ∈ cs, LamX.TabB base mg p.1 p.2) → FnG P w K mg base CX k fa fd [x] sp) (hbind : ∀ (s : Shared) (u : Value), BindsTo s fd ⟨[u], []⟩ [(x, u)])
    (hsp : ∀ H : Hp, (∀ p ∈ cs, H p.2 = some (.tbl #[])) → SqL K H a (ns.map V.int) → sp [.ref a] H (fun v _ => v = .bl true) fun _ _ _ => False)
    (hCX : ∀ H e s', CX [] H s₁ (fun _ _ _ => False) e s' → False) :
    codeAny (model P w) callerA (.call (.ref fa) ⟨[.ref a], []⟩) (fun r s' => r = .ok (.ret (.bool true)) ∧ OldK s₁.heap s'.heap ∧ s'.os = s₁.os ∧ AllBare s'.gens) s₁ := by
  have rv := vals_ints hi
  have lenV := hi.length
  let O : Obj := { cls := .type "list", data := .seq vs.toArray }
  let ts : List Addr := cs.map (·.2)
  let H : Hp := startH K a O (ns.map V.int) ts
  have tO : ∀ b ∈ ts, s₁.heap.get? b = some tabO := fun b h => by
    obtain ⟨p, hp, e⟩ := List.mem_map.mp h
    rw [← e]
    exact hT p hp
  have tM : ∀ p ∈ cs, p.2 ∈ ts := fun p hp => List.mem_map.mpr ⟨p, hp, rfl⟩
  have aT : a ∉ ts := fun z => by
    have y := congrArg Obj.data (Option.some.inj ((tO a z).symm.trans ha))
    cases (show Data.fields #[] = Data.seq vs.toArray _ from y)
  have hok : HOk P w H s₁.heap := fun b u e => by
    rcases startH_cases (K := K) (a := a) (O := O) (xs := ns.map V.int) (ts := ts) b with z | ⟨h, z⟩ | ⟨_, rfl, _, z⟩
    · rw [show H b = none from z] at e
      cases e
    · rw [show H b = _ from z] at e
      cases e
      exact tO b h
    · rw [show H b = _ from z] at e
      cases e
      exact ⟨ha, by rw [List.length_map]; exact hl, vs, _, rv, ha⟩
  have hS : SqL K H a (ns.map V.int) := by
    cases hk : K.lookup a with
    | none =>
      refine .inl (.inr ⟨O, ?_⟩)
      show startH K a O (ns.map V.int) ts a = _
      unfold startH
      rw [if_neg aT, if_pos rfl, hk]
    | some o =>
      have e := KX a o hk
      rw [ha] at e
      cases e
      exact .inr ⟨_, vs.toArray, _, hk, rfl, rfl, rfl, by rw [List.size_toArray, lenV]; exact hl, by simpa using rv⟩
  have off : ∀ {b : Addr} {o : Obj}, s₁.heap.get? b = some o → (∀ us n, o.data ≠ .seq us n) → o.data ≠ .fields #[] → H b = none := fun {b o} e h1 h2 => by
    rcases startH_cases (K := K) (a := a) (O := O) (xs := ns.map V.int) (ts := ts) b with z | ⟨h, _⟩ | ⟨_, rfl, _, _⟩
    · exact z
    · rw [tO b h] at e
      cases e
      exact absurd rfl h2
    · rw [ha] at e
      cases e
      exact absurd rfl (h1 _ _)
  have inB : ∀ {b : Addr} {o : Obj}, s₁.heap.get? b = some o → (∀ us n, o.data ≠ .seq us n) → o.data ≠ .fields #[] → (hidT s₁.heap H).get? b = some o := fun e h1 h2 => hidT_get e (off e h1 h2)
  have dictB : ∀ {b : Addr} {m : Str → Option Value}, s₁.heap.Ns b m → (hidT s₁.heap H).Ns b m := fun {b m} z => by
    obtain ⟨o, es, ep, e, d, r⟩ := z
    exact ⟨o, es, ep, inB e (fun us n y => by rw [d] at y; cases y) (fun y => by rw [d] at y; cases y), d, r⟩
  have kB : K.In (hidT s₁.heap H) := fun b o e => by
    refine hidT_get (KX b o e) ?_
    rcases startH_cases (K := K) (a := a) (O := O) (xs := ns.map V.int) (ts := ts) b with z | ⟨h, _⟩ | ⟨_, rfl, z, _⟩
    · exact z
    · obtain ⟨p, hp, q⟩ := List.mem_map.mp h
      rw [← q, nT p hp] at e
      cases e
    · rw [z] at e
      cases e
  have mB : Mod K mg (hidT s₁.heap H) := ⟨kB, dictB hns, ⟨mb, dictB hb, hbb⟩, by obtain ⟨mc, h1, h2⟩ := hlim; exact ⟨mc, dictB h1, h2⟩⟩
  have gT : ∀ p ∈ cs, mainGlobals ≠ p.2 := fun p hp z => by
    obtain ⟨o, es, ep, e, d, _⟩ := hns
    rw [z, hT p hp] at e
    cases e
    cases d
  have tabs : ∀ p ∈ cs, LamX.TabB (hidT s₁.heap H) mg p.1 p.2 := fun p hp => by
    constructor
    · obtain ⟨o, us, file, tf, flags, tg, inF, text, tt, e1, r1, r2, r3, r4, r5, r6, r7, r8, r9⟩ := C p hp
      refine ⟨o, us, file, tf, flags, tg, inF, text, tt, inB e1 (fun us n y => ?_) (fun y => ?_), r1, r2, r3, r4, r5, r6, r7, r8, r9⟩
      · rw [r2] at y
        cases y
      · rw [r2] at y
        cases y
        simp at r3
    · obtain ⟨bm, ob, b1, b2, b3, b4, b5, b6⟩ := hbm
      refine ⟨bm, ob, b1, b2, fun q => ?_, fun q => ?_, inB b3 (fun us n y => ?_) (fun y => ?_), b4, b5, b6⟩
      · obtain ⟨o, es, ep, e, d, _⟩ := hns
        rw [q, e] at b3
        cases b3
        rw [d] at b6
        cases b6
      · rw [q, hT p hp] at b3
        cases b3
        cases b6
      · rw [b6] at y
        cases y
      · rw [b6] at y
        cases y
    · exact gT p hp
  have hH : ∀ p ∈ cs, H p.2 = some (.tbl #[]) := fun p hp => startH_tab (tM p hp)
  have e0 : Env0 P w K mg (hidT s₁.heap H) callerA [] s₁ H := by
    refine ⟨rfl, mB, fun b o e => of_hidT e, Nat.le_of_eq (hidT_size _ _), trivial, fun b z => ?_, hok, .of_eq hg⟩
    exact absurd (show b ∈ ([] : List Addr) from z) (by simp)
  refine codeAny_mono ((F _ kB (dictB hns) tabs).run callerA [] s₁ H ⟨[.ref a], []⟩ [.ref a] [.ref a] _ _ hr rfl e0 (hbind s₁ (.ref a)) (.cons rfl .nil) (hsp H hH hS)) fun r s' h => ?_
  cases r with
  | error e => exact (hCX H e s' h).elim
  | ok fl =>
    cases fl with
    | next => exact False.elim h
    | brk => exact False.elim h
    | cont => exact False.elim h
    | ret u =>
      obtain ⟨v, H', os, bare, un, hok', r', q⟩ := h
      have q' : v = .bl true := q
      subst q'
      obtain rfl : u = Value.bool true := r'
      have old : ∀ b o, b ∉ ts → s₁.heap.get? b = some o → s'.heap.get? b = some o := fun b o nb e => by
        rcases startH_cases (K := K) (a := a) (O := O) (xs := ns.map V.int) (ts := ts) b with z | ⟨h, _⟩ | ⟨_, rfl, _, z⟩
        · refine un.keep b o e z (fun y => ?_) (by simp)
          exact absurd (show b ∈ ([] : List Addr) from y) (by simp)
        · exact absurd h nb
        · obtain ⟨e2, _⟩ := hok' b _ (un.frzs b O _ z)
          rw [ha] at e
          cases e
          exact e2
      have more : ∀ p ∈ cs, ∃ ps : Array Value, s'.heap.get? p.2 = some { cls := .none, data := .fields ps } := fun p hp => by
        obtain ⟨ps, z⟩ := un.tbls p.2 #[] (hH p hp)
        exact ⟨_, hok' p.2 _ z⟩
      refine ⟨rfl, ⟨fun b o e => ?_, fun b o e => ?_⟩, os, bare⟩
      · by_cases h : b ∈ ts
        · obtain ⟨p, hp, ep⟩ := List.mem_map.mp h
          obtain ⟨ps, hm⟩ := more p hp
          have ep : p.2 = b := ep
          subst ep
          have e2 := (hT p hp).symm.trans e
          cases e2
          exact .inr (.inl ⟨((C p hp).tab (hT p hp)).isCodeTable, rfl, #[], ps, rfl, by rw [Array.empty_append]; exact hm⟩)
        · exact .inl (old b o h e)
      · by_cases h : b ∈ ts
        · obtain ⟨p, hp, ep⟩ := List.mem_map.mp h
          obtain ⟨ps, hm⟩ := more p hp
          exact ⟨_, by rw [← ep]; exact hm⟩
        · exact ⟨o, old b o h e⟩
/-- the tables of these defs are apart -/
def tabsNdB (K : W.Frag) (ys : List Str) : Bool := ys.all (fun y => (tabAt K y).isSome) && decide (ys.map (tabAt K)).Nodup
theorem tabs_nd {K : W.Frag} {ys : List Str} {c P : Str → Addr} {base : Heap} (h : tabsNdB K ys = true) (hc : ∀ y ∈ ys, ∀ (o : Obj) (fd : FuncData), K.lookup (He.ga K y) = some o → o.data = .func fd → fd.code = .ref (c y)) (X : K.In base) (cd : ∀ y ∈ ys, W.CodeHd base (c y) (P y)) : (ys.map P).Nodup := by
  unfold tabsNdB at h
  rw [Bool.and_eq_true, List.all_eq_true, decide_eq_true_eq] at h
  obtain ⟨h1, h2⟩ := h
  have e : ys.map (tabAt K) = (ys.map P).map some := by
    rw [List.map_map]
    refine List.map_congr_left fun y hy => ?_
    obtain ⟨P', e⟩ := Option.isSome_iff_exists.mp (h1 y hy)
    rw [e, Function.comp, tabAt_is e (hc y hy) X (cd y hy)]
  rw [e] at h2
  exact h2.of_map _ fun a b z q => z (by rw [q])
/-- the end of a law row: some defs make lambdas, the law shows values -/
theorem walkTn {l : W.OpenLaw} {n k : Nat} {q : Program} {loose : List Str} {XP : (Str → Option Value) → Heap → Prop} {YP : World → Heap → Prop} {d : DefRec} {CX : CXT} {x : Str} (ys : List Str)
    (hn : l.most = some n) (hn2 : n ≤ sizeLine) (hdf : d.params.defaults = []) (hr : Room k callerA) (hrec : (ys.all fun y => (recsOf q).any fun e => e.name == y) = true)
    (F : ∀ (w : World) (mg : Str → Option Value) (fa : Addr) (h : Heap), YP w h → h.Ns mainGlobals mg → mg d.name = some (.ref fa) →
      ∃ K : W.Frag, K.In h ∧ noTabB K = true ∧ tabsNdB K ys = true ∧ (∀ y ∈ ys, mg y = some (.ref (He.ga K y)) ∧ ∃ (o : Obj) (fd : FuncData), K.lookup (He.ga K y) = some o ∧ o.data = .func fd) ∧
        ∀ c P : Str → Addr, (∀ y ∈ ys, ∀ (o : Obj) (fd : FuncData), K.lookup (He.ga K y) = some o → o.data = .func fd → fd.code = .ref (c y)) → (ys.map P).Nodup → ∃ (fd : FuncData) (sp : Sp), (∀ (s : Shared) (u : Value), BindsTo s fd ⟨[u], []⟩ [(x, u)]) ∧
          (∀ (H : Hp) (a : Addr) (ns : List Int), ns.length ≤ n → (∀ z ∈ ns, Builtin.Int.intBits z ≤ 1048576) → (∀ y ∈ ys, H (P y) = some (.tbl #[])) → SqL K H a (ns.map V.int) → sp [.ref a] H (fun v _ => v = .bl true) fun _ _ _ => False) ∧
          ∀ base : Heap, K.In base → base.Ns mainGlobals mg → (∀ y ∈ ys, LamX.TabB base mg (c y) (P y)) → FnG l.prog w K mg base CX k fa fd [x] sp)
    (hCX : ∀ (H : Hp) (s : Shared) (e : Value) (s' : Shared), CX [] H s (fun _ _ _ => False) e s' → False) :
    W.WalkO q loose XP YP l.row.toRowW d [] (fun f vs => PySem.call f vs) := by
  refine Att.attach_callB hn hdf fun w s₀ s₁ mg mb fa o pm cd doc a vs ns G Y ho hd hcd hmg hobj hints hlen hbits hg => ?_
  obtain ⟨K, KX, nt, tn, hy, F⟩ := F w mg fa _ Y G.T.g hmg
  have tab : ∀ y : Str, ∃ cp : Addr × Addr, y ∈ ys → (∀ (o : Obj) (fd : FuncData), K.lookup (He.ga K y) = some o → o.data = .func fd → fd.code = .ref cp.1) ∧ s₁.heap.get? cp.2 = some tabO ∧ W.CodeHd s₁.heap cp.1 cp.2 := fun y => by
    by_cases hm : y ∈ ys
    · obtain ⟨gy, o0, fd0, l1, l2⟩ := hy y hm
      obtain ⟨dL, hm1, hn1⟩ := List.any_eq_true.mp (List.all_eq_true.mp hrec y hm)
      have hn1 : dL.name = y := beq_iff_eq.mp hn1
      obtain ⟨a', o', fd', c, P, h1, h2, h3, h4, h5, h6⟩ := G.T.tab dL hm1
      rw [hn1, gy] at h1
      cases h1
      have g1 := KX _ _ l1
      rw [g1] at h2
      cases h2
      rw [l2] at h3
      cases h3
      refine ⟨(c, P), fun _ => ⟨fun o fd q1 q2 => ?_, h6.2, W.CodeHd.of h5 h6⟩⟩
      rw [l1] at q1
      cases q1
      rw [l2] at q2
      cases q2
      exact h4
    · exact ⟨(0, 0), fun z => absurd z hm⟩
  obtain ⟨f, hf⟩ := Classical.axiomOfChoice tab
  obtain ⟨fd, sp, hb, hsp, hF⟩ := F (fun y => (f y).1) (fun y => (f y).2) (fun y hy => (hf y hy).1) (tabs_nd tn (fun y hy => (hf y hy).1) KX fun y hy => (hf y hy).2.2)
  have mem : ∀ y ∈ ys, f y ∈ ys.map f := fun y hy => List.mem_map.mpr ⟨y, hy, rfl⟩
  have from_ : ∀ {Pr : Addr × Addr → Prop}, (∀ y ∈ ys, Pr (f y)) → ∀ p ∈ ys.map f, Pr p := fun {Pr} h p hp => by
    obtain ⟨y, hy, rfl⟩ := List.mem_map.mp hp
    exact h y hy
  exact law_callTG (cs := ys.map f) KX G.T.g G.T.b G.T.builtins G.T.nolimit hg (from_ fun y hy => (hf y hy).2.1) (from_ fun y hy => noTab_ok nt KX (hf y hy).2.1) (from_ fun y hy => (hf y hy).2.2) G.T.bmain hobj hints (Nat.le_trans hlen hn2) hr
    (fun base kb nb tb => hF base kb nb fun y hy => tb _ (mem y hy)) hb (fun H hH hS => hsp H a ns hlen hbits (fun y hy => hH _ (mem y hy)) hS) fun H e s' => hCX H s₁ e s'
end EW
end

namespace TM
open PySem PySem.Spec PyProof.Rows L2 EW
def top (i : Nat) : Stmt := PySem.Challenge.pw_everwhen_k08_names_shapes_and_rows.main.body.getD i (.Pass ⟨0, 0, 0, 0⟩)
def meth (s : Stmt) (j : Nat) : Stmt := match s with
  | .ClassDef (body := b) .. => b.getD j (.Pass ⟨0, 0, 0, 0⟩)
  | _ => .Pass ⟨0, 0, 0, 0⟩
def xrowB (K : W.Frag) : Bool := decide (W.exmOne K (.ref (He.ga K "InvalidShape")) (.ref (He.ga K "InvalidShape")) = some true) &&
  (decide (W.exmOne K (.ref (He.ga K "InvalidOperation")) (.ref (He.ga K "InvalidShape")) = some false) &&
  (decide (W.exmOne K (.ref (He.ga K "InvalidOperation")) (.ref (He.ga K "InvalidOperation")) = some true)))
abbrev sIsInt : Stmt := top 12
abbrev sIsName : Stmt := top 13
abbrev sIsDomain : Stmt := top 14
abbrev sIsKind : Stmt := top 15
abbrev sIsCol : Stmt := top 16
abbrev sTimesIn : Stmt := top 18
abbrev sIsShape : Stmt := top 17
abbrev sReqShape : Stmt := top 19
abbrev sIsValue : Stmt := top 20
abbrev sSplitR : Stmt := top 24
abbrev sIsRowIn : Stmt := top 22
abbrev sSizeIn : Stmt := top 25
abbrev sIsRow : Stmt := top 21
abbrev sReqRow : Stmt := top 23
abbrev sSizeOf : Stmt := top 26
abbrev sDice : Stmt := top 28
abbrev sRoll : Stmt := top 29
abbrev sPick : Stmt := top 30
abbrev sNear : Stmt := top 32
abbrev sMixed : Stmt := top 31
abbrev sTimesOf : Stmt := top 33
abbrev sDomsOf : Stmt := top 34
abbrev sShape : Stmt := top 35
abbrev sLName : Stmt := top 36
abbrev sLKind : Stmt := top 37
abbrev sLShape : Stmt := top 38
abbrev sLRow : Stmt := top 39
abbrev sWord : Stmt := top 40
abbrev sOdd : Stmt := top 41
abbrev sNKind : Stmt := top 42
abbrev sNearS : Stmt := top 43
abbrev sRow : Stmt := top 44
abbrev sBent : Stmt := top 45
abbrev sLMet : Stmt := top 46
abbrev sJudged : Stmt := top 47
abbrev sRowsRt : Stmt := top 48
abbrev sLaw : Stmt := top 49
end TM

section
set_option maxHeartbeats 0
namespace TM
open PySem PySem.Spec PyProof.Rows L2 EW
abbrev Rw : W.OpenRow := W.OpenLaw.row PySem.Challenge.rw_everwhen_k08_names_shapes_and_rows
def loose : List Str := [("__name__" : Str), ("EverError" : Str), ("InvalidShape" : Str), ("InvalidOperation" : Str), ("TIME" : Str), ("NOW" : Str), ("LETTERS" : Str), ("MAX_LETTERS" : Str), ("MAX_TIMES" : Str), ("MAX_DOMAINS" : Str), ("MAX_VALUES" : Str), ("is_integer" : Str), ("is_name" : Str), ("is_domain" : Str), ("is_kind" : Str), ("is_column_name" : Str), ("is_shape" : Str), ("times_in" : Str), ("require_shape" : Str), ("is_value_of" : Str), ("is_row" : Str), ("is_row_in" : Str), ("require_row" : Str), ("split_row" : Str), ("size_in" : Str), ("size_of" : Str), ("_law_dice" : Str), ("_law_roll" : Str), ("_law_pick" : Str), ("_law_mixed" : Str), ("_law_near" : Str), ("_law_times_of" : Str), ("_law_domains_of" : Str), ("_law_shape" : Str), ("_law_is_name" : Str), ("_law_is_kind" : Str), ("_law_is_shape" : Str), ("_law_is_row" : Str), ("_law_word" : Str), ("_law_odd" : Str), ("_law_near_kind" : Str), ("_law_near_shape" : Str), ("_law_row" : Str), ("_law_bent" : Str), ("_law_met" : Str), ("_law_judged_right" : Str)]
theorem runAB (w : World) (os : OsState) : (HandSHeadRun.endF (HandSHeadRun.stepQ (HandSHeadRun.denQ HandSHeadRun.tabQ) Rw.prog w) 20000 Rw.prog w os).map (fun s => (HandSHeadRun.looksF Rw.prog (W.boot_heap w.params) s.abs, HandSHeadRun.seenQ (W.view Rw.prog [49, 48]) loose (importedModules Rw.prog.main.body) (fun s => W.xlAt (W.view Rw.prog [49, 48]) [] s && W.recOk Rw.toRowW.records s) s.abs)) = some (true, W.openGood (W.view Rw.prog [49, 48]) loose) := by kernel_rfl
def fa0 : List He.Fa := [.glo "is_integer", .glo "is_name", .glo "is_column_name", .glo "is_domain", .glo "is_kind", .glo "times_in", .glo "is_shape", .glo "require_shape", .glo "is_value_of", .glo "split_row", .glo "size_in", .glo "is_row_in", .glo "is_row", .glo "require_row", .glo "size_of", .glo "_law_dice", .glo "_law_roll", .glo "_law_pick", .glo "_law_near", .glo "_law_mixed", .glo "_law_times_of", .glo "_law_domains_of", .glo "_law_shape", .glo "_law_is_name", .glo "_law_is_kind", .glo "_law_is_shape", .glo "_law_is_row", .glo "_law_word", .glo "_law_odd", .glo "_law_near_kind", .glo "_law_near_shape", .glo "_law_row", .glo "_law_bent"]
theorem runFa0 (w : World) (os : OsState) : (HandSHeadRun.endF (HandSHeadRun.stepQ (HandSHeadRun.denQ HandSHeadRun.tabQ) Rw.prog w) 20000 Rw.prog w os).map (fun s => fa0.all fun f => f.ok (KK 5 s)) = some true := by kernel_rfl
def fa1 : List He.Fa := [.glo "_law_judged_right", .glo "_law_met", .glo "_law_rows_right", .glo "law", .free "len", .free "int", .free "bool", .free "tuple", .free "list", .free "set", .free "abs", .free "max", .free "min", .free "range", .free "any", .free "all", .free "sorted", .free "isinstance", .free "str", .free "dict", .free "zip", .free "enumerate", .free "repr", .int "MAX_LETTERS" 8, .int "MAX_TIMES" 2, .int "MAX_DOMAINS" 3, .int "MAX_VALUES" 8, .str "TIME" "time", .str "NOW" "now", .str "LETTERS" "abcdefghijklmnopqrstuvwxyz", .glo "InvalidShape", .glo "InvalidOperation", .glo "EverError"]
theorem runFa1 (w : World) (os : OsState) : (HandSHeadRun.endF (HandSHeadRun.stepQ (HandSHeadRun.denQ HandSHeadRun.tabQ) Rw.prog w) 20000 Rw.prog w os).map (fun s => fa1.all fun f => f.ok (KK 5 s)) = some true := by kernel_rfl
def ex0 : List (W.Frag → Bool) := [fun K => noTabB K, fun K => tabsNdB K [("_law_rows_right" : Str)], fun K => xmsgB K "InvalidShape", fun K => xmsgB K "InvalidOperation", fun K => xrowB K]
theorem runEx0 (w : World) (os : OsState) : (HandSHeadRun.endF (HandSHeadRun.stepQ (HandSHeadRun.denQ HandSHeadRun.tabQ) Rw.prog w) 20000 Rw.prog w os).map (fun s => ex0.all fun e => e (KK 5 s)) = some true := by kernel_rfl
def fn0 : List He5.DefA := [
  ⟨fun K => He.ga K "is_integer", "is_integer", "is_integer", defArgs sIsInt, defBody sIsInt, defScope sIsInt, [], []⟩,
  ⟨fun K => He.ga K "is_name", "is_name", "is_name", defArgs sIsName, defBody sIsName, defScope sIsName, [], []⟩,
  ⟨fun K => He.ga K "is_column_name", "is_column_name", "is_column_name", defArgs sIsCol, defBody sIsCol, defScope sIsCol, [], []⟩,
  ⟨fun K => He.ga K "is_domain", "is_domain", "is_domain", defArgs sIsDomain, defBody sIsDomain, defScope sIsDomain, [], []⟩,
  ⟨fun K => He.ga K "is_kind", "is_kind", "is_kind", defArgs sIsKind, defBody sIsKind, defScope sIsKind, [], []⟩,
  ⟨fun K => He.ga K "times_in", "times_in", "times_in", defArgs sTimesIn, defBody sTimesIn, defScope sTimesIn, [], []⟩,
  ⟨fun K => He.ga K "is_shape", "is_shape", "is_shape", defArgs sIsShape, defBody sIsShape, defScope sIsShape, [], []⟩,
  ⟨fun K => He.ga K "require_shape", "require_shape", "require_shape", defArgs sReqShape, defBody sReqShape, defScope sReqShape, [], []⟩,
  ⟨fun K => He.ga K "is_value_of", "is_value_of", "is_value_of", defArgs sIsValue, defBody sIsValue, defScope sIsValue, [], []⟩,
  ⟨fun K => He.ga K "split_row", "split_row", "split_row", defArgs sSplitR, defBody sSplitR, defScope sSplitR, [], []⟩,
  ⟨fun K => He.ga K "size_in", "size_in", "size_in", defArgs sSizeIn, defBody sSizeIn, defScope sSizeIn, [], []⟩,
  ⟨fun K => He.ga K "is_row_in", "is_row_in", "is_row_in", defArgs sIsRowIn, defBody sIsRowIn, defScope sIsRowIn, [], []⟩,
  ⟨fun K => He.ga K "is_row", "is_row", "is_row", defArgs sIsRow, defBody sIsRow, defScope sIsRow, [], []⟩,
  ⟨fun K => He.ga K "require_row", "require_row", "require_row", defArgs sReqRow, defBody sReqRow, defScope sReqRow, [], []⟩,
  ⟨fun K => He.ga K "size_of", "size_of", "size_of", defArgs sSizeOf, defBody sSizeOf, defScope sSizeOf, [], []⟩,
  ⟨fun K => He.ga K "_law_dice", "_law_dice", "_law_dice", defArgs sDice, defBody sDice, defScope sDice, [], []⟩,
  ⟨fun K => He.ga K "_law_roll", "_law_roll", "_law_roll", defArgs sRoll, defBody sRoll, defScope sRoll, [], []⟩,
  ⟨fun K => He.ga K "_law_pick", "_law_pick", "_law_pick", defArgs sPick, defBody sPick, defScope sPick, [], []⟩,
  ⟨fun K => He.ga K "_law_near", "_law_near", "_law_near", defArgs sNear, defBody sNear, defScope sNear, [], []⟩]
theorem runFn0 (w : World) (os : OsState) : (HandSHeadRun.endF (HandSHeadRun.stepQ (HandSHeadRun.denQ HandSHeadRun.tabQ) Rw.prog w) 20000 Rw.prog w os).map (fun s => (fn0.all fun d => d.ok (KK 5 s), fn0.map fun d => He5.fnA (KK 5 s) (d.at_ (KK 5 s)))) = some (true, fn0.map He5.DefA.val) := by kernel_rfl
def fn1 : List He5.DefA := [
  ⟨fun K => He.ga K "_law_mixed", "_law_mixed", "_law_mixed", defArgs sMixed, defBody sMixed, defScope sMixed, [], []⟩,
  ⟨fun K => He.ga K "_law_times_of", "_law_times_of", "_law_times_of", defArgs sTimesOf, defBody sTimesOf, defScope sTimesOf, [], []⟩,
  ⟨fun K => He.ga K "_law_domains_of", "_law_domains_of", "_law_domains_of", defArgs sDomsOf, defBody sDomsOf, defScope sDomsOf, [], []⟩,
  ⟨fun K => He.ga K "_law_shape", "_law_shape", "_law_shape", defArgs sShape, defBody sShape, defScope sShape, [], []⟩,
  ⟨fun K => He.ga K "_law_is_name", "_law_is_name", "_law_is_name", defArgs sLName, defBody sLName, defScope sLName, [], []⟩,
  ⟨fun K => He.ga K "_law_is_kind", "_law_is_kind", "_law_is_kind", defArgs sLKind, defBody sLKind, defScope sLKind, [], []⟩,
  ⟨fun K => He.ga K "_law_is_shape", "_law_is_shape", "_law_is_shape", defArgs sLShape, defBody sLShape, defScope sLShape, [], []⟩,
  ⟨fun K => He.ga K "_law_is_row", "_law_is_row", "_law_is_row", defArgs sLRow, defBody sLRow, defScope sLRow, [], []⟩,
  ⟨fun K => He.ga K "_law_word", "_law_word", "_law_word", defArgs sWord, defBody sWord, defScope sWord, [], []⟩,
  ⟨fun K => He.ga K "_law_odd", "_law_odd", "_law_odd", defArgs sOdd, defBody sOdd, defScope sOdd, [], []⟩,
  ⟨fun K => He.ga K "_law_near_kind", "_law_near_kind", "_law_near_kind", defArgs sNKind, defBody sNKind, defScope sNKind, [], []⟩,
  ⟨fun K => He.ga K "_law_near_shape", "_law_near_shape", "_law_near_shape", defArgs sNearS, defBody sNearS, defScope sNearS, [], []⟩,
  ⟨fun K => He.ga K "_law_row", "_law_row", "_law_row", defArgs sRow, defBody sRow, defScope sRow, [], []⟩,
  ⟨fun K => He.ga K "_law_bent", "_law_bent", "_law_bent", defArgs sBent, defBody sBent, defScope sBent, [], []⟩,
  ⟨fun K => He.ga K "_law_judged_right", "_law_judged_right", "_law_judged_right", defArgs sJudged, defBody sJudged, defScope sJudged, [], []⟩,
  ⟨fun K => He.ga K "_law_met", "_law_met", "_law_met", defArgs sLMet, defBody sLMet, defScope sLMet, [], []⟩,
  ⟨fun K => He.ga K "_law_rows_right", "_law_rows_right", "_law_rows_right", defArgs sRowsRt, defBody sRowsRt, defScope sRowsRt, [], []⟩,
  ⟨fun K => He.ga K "law", "law", "law", defArgs sLaw, defBody sLaw, defScope sLaw, [], []⟩]
theorem runFn1 (w : World) (os : OsState) : (HandSHeadRun.endF (HandSHeadRun.stepQ (HandSHeadRun.denQ HandSHeadRun.tabQ) Rw.prog w) 20000 Rw.prog w os).map (fun s => (fn1.all fun d => d.ok (KK 5 s), fn1.map fun d => He5.fnA (KK 5 s) (d.at_ (KK 5 s)))) = some (true, fn1.map He5.DefA.val) := by kernel_rfl
def fn : List He5.DefA := [
  ⟨fun K => He.ga K "is_integer", "is_integer", "is_integer", defArgs sIsInt, defBody sIsInt, defScope sIsInt, [], []⟩,
  ⟨fun K => He.ga K "is_name", "is_name", "is_name", defArgs sIsName, defBody sIsName, defScope sIsName, [], []⟩,
  ⟨fun K => He.ga K "is_column_name", "is_column_name", "is_column_name", defArgs sIsCol, defBody sIsCol, defScope sIsCol, [], []⟩,
  ⟨fun K => He.ga K "is_domain", "is_domain", "is_domain", defArgs sIsDomain, defBody sIsDomain, defScope sIsDomain, [], []⟩,
  ⟨fun K => He.ga K "is_kind", "is_kind", "is_kind", defArgs sIsKind, defBody sIsKind, defScope sIsKind, [], []⟩,
  ⟨fun K => He.ga K "times_in", "times_in", "times_in", defArgs sTimesIn, defBody sTimesIn, defScope sTimesIn, [], []⟩,
  ⟨fun K => He.ga K "is_shape", "is_shape", "is_shape", defArgs sIsShape, defBody sIsShape, defScope sIsShape, [], []⟩,
  ⟨fun K => He.ga K "require_shape", "require_shape", "require_shape", defArgs sReqShape, defBody sReqShape, defScope sReqShape, [], []⟩,
  ⟨fun K => He.ga K "is_value_of", "is_value_of", "is_value_of", defArgs sIsValue, defBody sIsValue, defScope sIsValue, [], []⟩,
  ⟨fun K => He.ga K "split_row", "split_row", "split_row", defArgs sSplitR, defBody sSplitR, defScope sSplitR, [], []⟩,
  ⟨fun K => He.ga K "size_in", "size_in", "size_in", defArgs sSizeIn, defBody sSizeIn, defScope sSizeIn, [], []⟩,
  ⟨fun K => He.ga K "is_row_in", "is_row_in", "is_row_in", defArgs sIsRowIn, defBody sIsRowIn, defScope sIsRowIn, [], []⟩,
  ⟨fun K => He.ga K "is_row", "is_row", "is_row", defArgs sIsRow, defBody sIsRow, defScope sIsRow, [], []⟩,
  ⟨fun K => He.ga K "require_row", "require_row", "require_row", defArgs sReqRow, defBody sReqRow, defScope sReqRow, [], []⟩,
  ⟨fun K => He.ga K "size_of", "size_of", "size_of", defArgs sSizeOf, defBody sSizeOf, defScope sSizeOf, [], []⟩,
  ⟨fun K => He.ga K "_law_dice", "_law_dice", "_law_dice", defArgs sDice, defBody sDice, defScope sDice, [], []⟩,
  ⟨fun K => He.ga K "_law_roll", "_law_roll", "_law_roll", defArgs sRoll, defBody sRoll, defScope sRoll, [], []⟩,
  ⟨fun K => He.ga K "_law_pick", "_law_pick", "_law_pick", defArgs sPick, defBody sPick, defScope sPick, [], []⟩,
  ⟨fun K => He.ga K "_law_near", "_law_near", "_law_near", defArgs sNear, defBody sNear, defScope sNear, [], []⟩,
  ⟨fun K => He.ga K "_law_mixed", "_law_mixed", "_law_mixed", defArgs sMixed, defBody sMixed, defScope sMixed, [], []⟩,
  ⟨fun K => He.ga K "_law_times_of", "_law_times_of", "_law_times_of", defArgs sTimesOf, defBody sTimesOf, defScope sTimesOf, [], []⟩,
  ⟨fun K => He.ga K "_law_domains_of", "_law_domains_of", "_law_domains_of", defArgs sDomsOf, defBody sDomsOf, defScope sDomsOf, [], []⟩,
  ⟨fun K => He.ga K "_law_shape", "_law_shape", "_law_shape", defArgs sShape, defBody sShape, defScope sShape, [], []⟩,
  ⟨fun K => He.ga K "_law_is_name", "_law_is_name", "_law_is_name", defArgs sLName, defBody sLName, defScope sLName, [], []⟩,
  ⟨fun K => He.ga K "_law_is_kind", "_law_is_kind", "_law_is_kind", defArgs sLKind, defBody sLKind, defScope sLKind, [], []⟩,
  ⟨fun K => He.ga K "_law_is_shape", "_law_is_shape", "_law_is_shape", defArgs sLShape, defBody sLShape, defScope sLShape, [], []⟩,
  ⟨fun K => He.ga K "_law_is_row", "_law_is_row", "_law_is_row", defArgs sLRow, defBody sLRow, defScope sLRow, [], []⟩,
  ⟨fun K => He.ga K "_law_word", "_law_word", "_law_word", defArgs sWord, defBody sWord, defScope sWord, [], []⟩,
  ⟨fun K => He.ga K "_law_odd", "_law_odd", "_law_odd", defArgs sOdd, defBody sOdd, defScope sOdd, [], []⟩,
  ⟨fun K => He.ga K "_law_near_kind", "_law_near_kind", "_law_near_kind", defArgs sNKind, defBody sNKind, defScope sNKind, [], []⟩,
  ⟨fun K => He.ga K "_law_near_shape", "_law_near_shape", "_law_near_shape", defArgs sNearS, defBody sNearS, defScope sNearS, [], []⟩,
  ⟨fun K => He.ga K "_law_row", "_law_row", "_law_row", defArgs sRow, defBody sRow, defScope sRow, [], []⟩,
  ⟨fun K => He.ga K "_law_bent", "_law_bent", "_law_bent", defArgs sBent, defBody sBent, defScope sBent, [], []⟩,
  ⟨fun K => He.ga K "_law_judged_right", "_law_judged_right", "_law_judged_right", defArgs sJudged, defBody sJudged, defScope sJudged, [], []⟩,
  ⟨fun K => He.ga K "_law_met", "_law_met", "_law_met", defArgs sLMet, defBody sLMet, defScope sLMet, [], []⟩,
  ⟨fun K => He.ga K "_law_rows_right", "_law_rows_right", "_law_rows_right", defArgs sRowsRt, defBody sRowsRt, defScope sRowsRt, [], []⟩,
  ⟨fun K => He.ga K "law", "law", "law", defArgs sLaw, defBody sLaw, defScope sLaw, [], []⟩]
def fa : List He.Fa := [.glo "is_integer", .glo "is_name", .glo "is_column_name", .glo "is_domain", .glo "is_kind", .glo "times_in", .glo "is_shape", .glo "require_shape", .glo "is_value_of", .glo "split_row", .glo "size_in", .glo "is_row_in", .glo "is_row", .glo "require_row", .glo "size_of", .glo "_law_dice", .glo "_law_roll", .glo "_law_pick", .glo "_law_near", .glo "_law_mixed", .glo "_law_times_of", .glo "_law_domains_of", .glo "_law_shape", .glo "_law_is_name", .glo "_law_is_kind", .glo "_law_is_shape", .glo "_law_is_row", .glo "_law_word", .glo "_law_odd", .glo "_law_near_kind", .glo "_law_near_shape", .glo "_law_row", .glo "_law_bent", .glo "_law_judged_right", .glo "_law_met", .glo "_law_rows_right", .glo "law", .free "len", .free "int", .free "bool", .free "tuple", .free "list", .free "set", .free "abs", .free "max", .free "min", .free "range", .free "any", .free "all", .free "sorted", .free "isinstance", .free "str", .free "dict", .free "zip", .free "enumerate", .free "repr", .int "MAX_LETTERS" 8, .int "MAX_TIMES" 2, .int "MAX_DOMAINS" 3, .int "MAX_VALUES" 8, .str "TIME" "time", .str "NOW" "now", .str "LETTERS" "abcdefghijklmnopqrstuvwxyz", .glo "InvalidShape", .glo "InvalidOperation", .glo "EverError"]
def exl : List (W.Frag → Bool) := [fun K => noTabB K, fun K => tabsNdB K [("_law_rows_right" : Str)], fun K => xmsgB K "InvalidShape", fun K => xmsgB K "InvalidOperation", fun K => xrowB K]
abbrev hk : W.Hook := hookT 5 fa fn (exAll exl)
def obz (s : W.SharedT) : He.AlD × Bool := obsT 5 fa fn (exAll exl) (HandSHeadRun.getT s)
theorem ob_eq (s : W.SharedT) : obz s = hk.obs s.abs := obsT_eq (HandSHeadRun.getT_eq s)
theorem run (w : World) : HandSHeadRun.RunEq Rw (W.view Rw.prog [49, 48]) hk obz 20000 loose w := fun os =>
  run_parts (fas := [fa0, fa1]) (exs := [ex0]) (fns := [fn0, fn1]) (runAB w os) rfl rfl rfl (List.forall_mem_cons.mpr ⟨runFa0 w os, (List.forall_mem_cons.mpr ⟨runFa1 w os, (fun _ h => nomatch h)⟩)⟩) (List.forall_mem_cons.mpr ⟨runEx0 w os, (fun _ h => nomatch h)⟩) (List.forall_mem_cons.mpr ⟨runFn0 w os, (List.forall_mem_cons.mpr ⟨runFn1 w os, (fun _ h => nomatch h)⟩)⟩)
end TM
end

section
set_option maxHeartbeats 4000000
/-! EwAv: any small value: none, truths, numbers, texts, lists and dicts (not looked into), tuples of such. -/
namespace EW
open PySem PySem.Spec PyProof.Rows L2
inductive Dv where
  | non
  | bl (b : Bool)
  | int (i : Int)
  | str (z : Str)
  | lst
  | dct
  | tup (l : List Dv)
mutual
def Av (K : W.Frag) (H : Hp) : Dv → V → Prop
  | .non, v => v = .non
  | .bl b, v => v = .bl b
  | .int i, v => v = .int i
  | .str z, v => v = .str z
  | .lst, v => ∃ a xs, v = .ref a ∧ H a = some (.lst xs)
  | .dct, v => ∃ (a : Addr) (kvs : List (Key × V)), v = .ref a ∧ Rd H a (.dK kvs)
  | .tup l, v => ∃ a xs, v = .ref a ∧ SqT K H a xs ∧ AvL K H l xs
def AvL (K : W.Frag) (H : Hp) : List Dv → List V → Prop
  | [], xs => xs = []
  | d :: l, xs => ∃ x ys, xs = x :: ys ∧ Av K H d x ∧ AvL K H l ys
end
section
variable {K : W.Frag} {H H' : Hp} {v : V} {d : Dv} {xs : List V} {l : List Dv}
theorem AvL.len : ∀ {l : List Dv} {xs : List V}, AvL K H l xs → xs.length = l.length
  | [], _, h => by rw [AvL] at h; rw [h]; rfl
  | d :: l, _, h => by
    rw [AvL] at h
    obtain ⟨x, ys, rfl, _, h⟩ := h
    show ys.length + 1 = l.length + 1
    rw [AvL.len h]
theorem AvL.get : ∀ {l : List Dv} {xs : List V} {i : Nat} {v : V}, AvL K H l xs → xs[i]? = some v → ∃ d, l[i]? = some d ∧ Av K H d v
  | [], _, i, v, h, e => by rw [AvL] at h; rw [h] at e; cases e
  | d :: l, _, i, v, h, e => by
    rw [AvL] at h
    obtain ⟨x, ys, rfl, h1, h⟩ := h
    cases i with
    | zero =>
      cases e
      exact ⟨d, rfl, h1⟩
    | succ i => exact AvL.get (l := l) h e
theorem AvL.nil : AvL K H [] [] := by rw [AvL]
theorem AvL.cons {x : V} (h : Av K H d x) (t : AvL K H l xs) : AvL K H (d :: l) (x :: xs) := by
  rw [AvL]
  exact ⟨x, xs, rfl, h, t⟩
theorem AvL.app : ∀ {l : List Dv} {xs : List V} {m : List Dv} {ys : List V}, AvL K H l xs → AvL K H m ys → AvL K H (l ++ m) (xs ++ ys)
  | [], _, m, ys, h, t => by rw [AvL] at h; rw [h]; exact t
  | d :: l, _, m, ys, h, t => by
    rw [AvL] at h
    obtain ⟨x, us, rfl, h1, h⟩ := h
    exact .cons h1 (AvL.app h t)
theorem AvL.split : ∀ {l : List Dv} {xs : List V} (i : Nat), AvL K H l xs → AvL K H (l.take i) (xs.take i) ∧ AvL K H (l.drop i) (xs.drop i)
  | [], _, i, h => by rw [AvL] at h; rw [h]; cases i <;> exact ⟨.nil, .nil⟩
  | d :: l, _, i, h => by
    cases i with
    | zero => exact ⟨.nil, h⟩
    | succ i =>
      rw [AvL] at h
      obtain ⟨x, us, rfl, h1, h⟩ := h
      exact ⟨.cons h1 (AvL.split i h).1, (AvL.split i h).2⟩
mutual
theorem Av.stay (ht : ∀ a xs, SqT K H a xs → SqT K H' a xs) (hl : ∀ a xs, H a = some (.lst xs) → ∃ ys, H' a = some (.lst ys)) (hd : ∀ (a : Addr) (kvs : List (Key × V)), Rd H a (.dK kvs) → ∃ k2, Rd H' a (.dK k2)) : ∀ (d : Dv) (v : V), Av K H d v → Av K H' d v
  | .non, v, h => h
  | .bl b, v, h => h
  | .int i, v, h => h
  | .str z, v, h => h
  | .lst, v, h => by
    rw [Av] at h ⊢
    obtain ⟨a, xs, e, h⟩ := h
    obtain ⟨ys, h⟩ := hl a xs h
    exact ⟨a, ys, e, h⟩
  | .dct, v, h => by
    rw [Av] at h ⊢
    obtain ⟨a, xs, e, h⟩ := h
    obtain ⟨ys, h⟩ := hd a xs h
    exact ⟨a, ys, e, h⟩
  | .tup l, v, h => by
    rw [Av] at h ⊢
    obtain ⟨a, xs, e, h1, h2⟩ := h
    exact ⟨a, xs, e, ht a xs h1, AvL.stay ht hl hd l xs h2⟩
theorem AvL.stay (ht : ∀ a xs, SqT K H a xs → SqT K H' a xs) (hl : ∀ a xs, H a = some (.lst xs) → ∃ ys, H' a = some (.lst ys)) (hd : ∀ (a : Addr) (kvs : List (Key × V)), Rd H a (.dK kvs) → ∃ k2, Rd H' a (.dK k2)) : ∀ (l : List Dv) (xs : List V), AvL K H l xs → AvL K H' l xs
  | [], xs, h => by rw [AvL] at h ⊢; exact h
  | d :: l, xs, h => by
    rw [AvL] at h ⊢
    obtain ⟨x, ys, e, h1, h2⟩ := h
    exact ⟨x, ys, e, Av.stay ht hl hd d x h1, AvL.stay ht hl hd l ys h2⟩
end
theorem Av.same (h : Av K H d v) (s : Same H H') : Av K H' d v := Av.stay (fun a xs q => SqT.same q s) (fun a xs q => ⟨xs, s _ _ q⟩) (fun a xs q => ⟨xs, q.imp (s _ _) fun ⟨o, h⟩ => ⟨o, s _ _ h⟩⟩) d v h
theorem AvL.same (h : AvL K H l xs) (s : Same H H') : AvL K H' l xs := AvL.stay (fun a xs q => SqT.same q s) (fun a xs q => ⟨xs, s _ _ q⟩) (fun a xs q => ⟨xs, q.imp (s _ _) fun ⟨o, h⟩ => ⟨o, s _ _ h⟩⟩) l xs h
theorem Av.ext (h : Av K H d v) (e : LamX.ExtN H H') : Av K H' d v := Av.stay (fun a xs q => sqT_ext q e) (fun a xs q => ⟨xs, e _ _ q (fun ps z => by cases z)⟩) (fun a xs q => ⟨xs, rd_ext q (fun ps z => by cases z) e⟩) d v h
theorem AvL.ext (h : AvL K H l xs) (e : LamX.ExtN H H') : AvL K H' l xs := AvL.stay (fun a xs q => sqT_ext q e) (fun a xs q => ⟨xs, e _ _ q (fun ps z => by cases z)⟩) (fun a xs q => ⟨xs, rd_ext q (fun ps z => by cases z) e⟩) l xs h
section
variable {di : Addr} {ds ds' : List V}
theorem lstKept (hd : H di = some (.lst ds)) (hd' : H' di = some (.lst ds')) (k : Kept di H H') (a : Addr) (xs : List V) (h : H a = some (.lst xs)) : ∃ ys, H' a = some (.lst ys) := by
  by_cases c : a = di
  · exact ⟨ds', by rw [c]; exact hd'⟩
  · exact ⟨xs, k _ _ c h⟩
theorem dctKept (hd : H di = some (.lst ds)) (k : Kept di H H') (a : Addr) (kvs : List (Key × V)) (h : Rd H a (.dK kvs)) : ∃ k2, Rd H' a (.dK k2) := ⟨kvs, h.imp (fun h => k _ _ (fun z => by rw [z, hd] at h; cases h) h) fun ⟨o, h⟩ => ⟨o, k _ _ (fun z => by rw [z, hd] at h; cases h) h⟩⟩
theorem Av.kept (h : Av K H d v) (hd : H di = some (.lst ds)) (hd' : H' di = some (.lst ds')) (k : Kept di H H') : Av K H' d v := Av.stay (fun a xs q => SqT.kept q hd k) (lstKept hd hd' k) (dctKept hd k) d v h
theorem AvL.kept (h : AvL K H l xs) (hd : H di = some (.lst ds)) (hd' : H' di = some (.lst ds')) (k : Kept di H H') : AvL K H' l xs := AvL.stay (fun a xs q => SqT.kept q hd k) (lstKept hd hd' k) (dctKept hd k) l xs h
end
/-! ### their classes -/
def Dv.cl : Dv → String
  | .non => "NoneType"
  | .bl _ => "bool"
  | .int _ => "int"
  | .str _ => "str"
  | .lst => "list"
  | .dct => "dict"
  | .tup _ => "tuple"
def Dv.isI : Dv → Bool
  | .bl _ => true
  | .int _ => true
  | _ => false
def Dv.isB : Dv → Bool
  | .bl _ => true
  | _ => false
def Dv.isS : Dv → Bool
  | .str _ => true
  | _ => false
def Dv.isT : Dv → Bool
  | .tup _ => true
  | _ => false
def Dv.isD : Dv → Bool
  | .dct => true
  | _ => false
/-- an integer that is no truth -/
def Dv.num : Dv → Bool
  | .int _ => true
  | _ => false
/-- a bound -/
def Dv.bnd : Dv → Bool
  | .non => true
  | .int _ => true
  | _ => false
theorem avT {a : Addr} {xs : List V} (h : SqT K H a xs) : TyX K H (.ref a) (.type "tuple") := by
  rcases h with (h | ⟨o, h⟩) | ⟨o, its, n, e, c, _⟩
  · exact .base (.tup h)
  · exact .fTuple h
  · exact .kTuple e c
theorem Av.ty (h : Av K H d v) : TyX K H v (.type d.cl) := by
  cases d with
  | non => rw [Av] at h; subst h; exact .base .non
  | bl b => rw [Av] at h; subst h; exact .base (.bl b)
  | int b => rw [Av] at h; subst h; exact .base (.int b)
  | str b => rw [Av] at h; subst h; exact .base (.str b)
  | lst => rw [Av] at h; obtain ⟨a, xs, rfl, h⟩ := h; exact .base (.lst h)
  | dct =>
    rw [Av] at h
    obtain ⟨a, xs, rfl, h⟩ := h
    rcases h with h | ⟨o, h⟩
    · exact .base (.dK h)
    · exact .fDict h
  | tup l => rw [Av] at h; obtain ⟨a, xs, rfl, h, _⟩ := h; exact avT h
theorem avI (d : Dv) : W.kitOne K (.type d.cl) (.type "int") = some d.isI := by
  cases d with
  | non => exact kit_ty (by decide +kernel : kitB "NoneType" "int" = some false)
  | bl _ => exact kit_ty (by decide +kernel : kitB "bool" "int" = some true)
  | int _ => exact kit_ty (by decide +kernel : kitB "int" "int" = some true)
  | str _ => exact kit_ty (by decide +kernel : kitB "str" "int" = some false)
  | lst => exact kit_ty (by decide +kernel : kitB "list" "int" = some false)
  | dct => exact kit_ty (by decide +kernel : kitB "dict" "int" = some false)
  | tup _ => exact kit_ty (by decide +kernel : kitB "tuple" "int" = some false)
theorem avB (d : Dv) : W.kitOne K (.type d.cl) (.type "bool") = some d.isB := by
  cases d with
  | non => exact kit_ty (by decide +kernel : kitB "NoneType" "bool" = some false)
  | bl _ => exact kit_ty (by decide +kernel : kitB "bool" "bool" = some true)
  | int _ => exact kit_ty (by decide +kernel : kitB "int" "bool" = some false)
  | str _ => exact kit_ty (by decide +kernel : kitB "str" "bool" = some false)
  | lst => exact kit_ty (by decide +kernel : kitB "list" "bool" = some false)
  | dct => exact kit_ty (by decide +kernel : kitB "dict" "bool" = some false)
  | tup _ => exact kit_ty (by decide +kernel : kitB "tuple" "bool" = some false)
theorem avS (d : Dv) : W.kitOne K (.type d.cl) (.type "str") = some d.isS := by
  cases d with
  | non => exact kit_ty (by decide +kernel : kitB "NoneType" "str" = some false)
  | bl _ => exact kit_ty (by decide +kernel : kitB "bool" "str" = some false)
  | int _ => exact kit_ty (by decide +kernel : kitB "int" "str" = some false)
  | str _ => exact kit_ty (by decide +kernel : kitB "str" "str" = some true)
  | lst => exact kit_ty (by decide +kernel : kitB "list" "str" = some false)
  | dct => exact kit_ty (by decide +kernel : kitB "dict" "str" = some false)
  | tup _ => exact kit_ty (by decide +kernel : kitB "tuple" "str" = some false)
theorem avTu (d : Dv) : W.kitOne K (.type d.cl) (.type "tuple") = some d.isT := by
  cases d with
  | non => exact kit_ty (by decide +kernel : kitB "NoneType" "tuple" = some false)
  | bl _ => exact kit_ty (by decide +kernel : kitB "bool" "tuple" = some false)
  | int _ => exact kit_ty (by decide +kernel : kitB "int" "tuple" = some false)
  | str _ => exact kit_ty (by decide +kernel : kitB "str" "tuple" = some false)
  | lst => exact kit_ty (by decide +kernel : kitB "list" "tuple" = some false)
  | dct => exact kit_ty (by decide +kernel : kitB "dict" "tuple" = some false)
  | tup _ => exact kit_ty (by decide +kernel : kitB "tuple" "tuple" = some true)
theorem avD (d : Dv) : W.kitOne K (.type d.cl) (.type "dict") = some d.isD := by
  cases d with
  | non => exact kit_ty (by decide +kernel : kitB "NoneType" "dict" = some false)
  | bl _ => exact kit_ty (by decide +kernel : kitB "bool" "dict" = some false)
  | int _ => exact kit_ty (by decide +kernel : kitB "int" "dict" = some false)
  | str _ => exact kit_ty (by decide +kernel : kitB "str" "dict" = some false)
  | lst => exact kit_ty (by decide +kernel : kitB "list" "dict" = some false)
  | dct => exact kit_ty (by decide +kernel : kitB "dict" "dict" = some true)
  | tup _ => exact kit_ty (by decide +kernel : kitB "tuple" "dict" = some false)
/-! ### how they are made -/
theorem Av.non_ : Av K H .non .non := by rw [Av]
theorem Av.bl_ (b : Bool) : Av K H (.bl b) (.bl b) := by rw [Av]
theorem Av.int_ (i : Int) : Av K H (.int i) (.int i) := by rw [Av]
theorem Av.str_ (z : Str) : Av K H (.str z) (.str z) := by rw [Av]
theorem Av.lst_ {a : Addr} (h : H a = some (.lst xs)) : Av K H .lst (.ref a) := by rw [Av]; exact ⟨a, xs, rfl, h⟩
theorem Av.dct_ {a : Addr} {kvs : List (Key × V)} (h : H a = some (.dK kvs)) : Av K H .dct (.ref a) := by rw [Av]; exact ⟨a, kvs, rfl, .inl h⟩
theorem Av.tup_ {a : Addr} (h : SqT K H a xs) (t : AvL K H l xs) : Av K H (.tup l) (.ref a) := by rw [Av]; exact ⟨a, xs, rfl, h, t⟩
theorem Av.tup_inv (h : Av K H (.tup l) v) : ∃ a xs, v = .ref a ∧ SqT K H a xs ∧ AvL K H l xs := by rw [Av] at h; exact h
theorem Av.ob_ : ∀ o : Option Int, Av K H (match o with | none => .non | some i => .int i) (ob o)
  | none => .non_
  | some i => .int_ i
end
end EW
end

section
set_option maxHeartbeats 4000000
/-! EwZnD: what is a value of a kind, a span, a gap, a zone, a row, told of any value. -/
namespace EW
open PySem PySem.Spec PyProof.Rows L2
/-- whether a value is one of a kind -/
def valA : Kd → Dv → Bool
  | .time, d => d.num
  | .dom l, .str x => decide (x ∈ l)
  | .dom _, _ => false
def resA (p : Int) : Dv → Bool
  | .non => true
  | .int r => decide (0 ≤ r) && decide (r < p)
  | _ => false
def spanA (p : Int) : Dv → Bool
  | .tup [a, b, c] => b.bnd && (c.bnd && resA p a)
  | _ => false
def Dv.isN : Dv → Bool
  | .non => true
  | _ => false
def gapA (n : Nat) : Dv → Bool
  | .tup [a, b] => a.bnd && (b.bnd && (decide (n = 2) || (a.isN && b.isN)))
  | _ => false
/-- the kind of a column -/
def kindOf (S : Shp) (n : Str) : Kd := ((S.find? fun q => decide (q.1 = n)).map (·.2)).getD .time
theorem kindOf_eq : ∀ {S : Shp} {n : Str} {k : Kd}, (S.map (·.1)).Nodup → (n, k) ∈ S → kindOf S n = k
  | (y, k') :: S, n, k, nd, h => by
    rw [List.map_cons, List.nodup_cons] at nd
    rcases List.mem_cons.mp h with q | q
    · cases q
      simp [kindOf]
    · have ne : ¬ y = n := fun w => nd.1 (List.mem_map.mpr ⟨_, q, w.symm⟩)
      have := kindOf_eq nd.2 q
      unfold kindOf at this ⊢
      rw [List.find?_cons_of_neg (by simpa using ne)]
      exact this
theorem inDms {S : Shp} {n : Str} (h : n ∈ dms S) : ∃ l, (n, Kd.dom l) ∈ S := by
  unfold dms at h
  rw [(srt_perm _).mem_iff] at h
  obtain ⟨⟨x, k⟩, hq, rfl⟩ := List.mem_map.mp h
  rw [List.mem_filter] at hq
  cases k with
  | time => cases hq.2
  | dom l => exact ⟨l, hq.1⟩
/-- values of the columns of these names -/
def valsA (S : Shp) (ns : List Str) (vs : List Dv) : Bool := decide (vs.length = ns.length) && (ns.zip vs).all fun q => valA (kindOf S q.1) q.2
def tupA (f : List Dv → Bool) : Dv → Bool
  | .tup l => f l
  | _ => false
def zoneA (S : Shp) (p : Int) : Dv → Bool
  | .tup [a, b, c] => tupA (valsA S (dms S)) a && (tupA (fun l => decide (l.length = (tms S).length) && l.all (spanA p)) b && gapA (tms S).length c)
  | _ => false
def odv : Option Int → Dv
  | none => .non
  | some i => .int i
def spDv (s : Rn.Sp3) : Dv := .tup [odv s.res, odv s.lo, odv s.hi]
def zDv (z : Zn.Z) : Dv := .tup [.tup (z.vs.map Dv.str), .tup (z.ss.map spDv), .tup [odv z.g.1, odv z.g.2]]
theorem odv_bnd (o : Option Int) : (odv o).bnd = true := by cases o <;> rfl
section
variable {K : W.Frag} {H H' : Hp} {v : V} {d : Dv} {xs : List V} {l : List Dv}
theorem Av.odv_ (o : Option Int) : Av K H (odv o) (ob o) := by
  cases o with
  | none => exact .non_
  | some i => exact .int_ i
/-- a bound, told as such -/
theorem bnd_ob (h : Av K H d v) (b : d.bnd = true) : ∃ o, d = odv o ∧ v = ob o := by
  cases d with
  | non => rw [Av] at h; exact ⟨none, rfl, h⟩
  | int i => rw [Av] at h; exact ⟨some i, rfl, h⟩
  | bl _ => cases b
  | str _ => cases b
  | lst => cases b
  | dct => cases b
  | tup _ => cases b
theorem len2 {α : Type} : ∀ {l : List α}, l.length = 2 → ∃ a b, l = [a, b]
  | [a, b], _ => ⟨a, b, rfl⟩
theorem len3 {α : Type} : ∀ {l : List α}, l.length = 3 → ∃ a b c, l = [a, b, c]
  | [a, b, c], _ => ⟨a, b, c, rfl⟩
theorem avl_cons (h : AvL K H (d :: l) (v :: xs)) : Av K H d v ∧ AvL K H l xs := by
  rw [AvL] at h
  obtain ⟨_, _, e, h1, h⟩ := h
  cases e
  exact ⟨h1, h⟩
theorem avl3 (h : AvL K H l xs) (n : xs.length = 3) : ∃ a b c x y z, l = [a, b, c] ∧ xs = [x, y, z] ∧ Av K H a x ∧ Av K H b y ∧ Av K H c z := by
  have e := h.len
  rw [n] at e
  obtain ⟨x, y, z, rfl⟩ := len3 n
  obtain ⟨a, b, c, rfl⟩ := len3 e.symm
  obtain ⟨h1, h⟩ := avl_cons h
  obtain ⟨h2, h⟩ := avl_cons h
  exact ⟨a, b, c, x, y, z, rfl, rfl, h1, h2, (avl_cons h).1⟩
theorem avl2 (h : AvL K H l xs) (n : xs.length = 2) : ∃ a b x y, l = [a, b] ∧ xs = [x, y] ∧ Av K H a x ∧ Av K H b y := by
  have e := h.len
  rw [n] at e
  obtain ⟨x, y, rfl⟩ := len2 n
  obtain ⟨a, b, rfl⟩ := len2 e.symm
  obtain ⟨h1, h⟩ := avl_cons h
  exact ⟨a, b, x, y, rfl, rfl, h1, (avl_cons h).1⟩
theorem spanA_len {p : Int} (h : l.length ≠ 3) : spanA p (.tup l) = false := by
  match l, h with
  | [], _ => rfl
  | [_], _ => rfl
  | [_, _], _ => rfl
  | [_, _, _], h => exact absurd rfl h
  | _ :: _ :: _ :: _ :: _, _ => rfl
theorem zoneA_len {S : Shp} {p : Int} (h : l.length ≠ 3) : zoneA S p (.tup l) = false := by
  match l, h with
  | [], _ => rfl
  | [_], _ => rfl
  | [_, _], _ => rfl
  | [_, _, _], h => exact absurd rfl h
  | _ :: _ :: _ :: _ :: _, _ => rfl
theorem gapA_len {n : Nat} (h : l.length ≠ 2) : gapA n (.tup l) = false := by
  match l, h with
  | [], _ => rfl
  | [_], _ => rfl
  | [_, _], h => exact absurd rfl h
  | _ :: _ :: _ :: _, _ => rfl
theorem spanA_tup {p : Int} (h : d.isT = false) : spanA p d = false := by cases d <;> first | rfl | cases h
theorem gapA_tup {n : Nat} (h : d.isT = false) : gapA n d = false := by cases d <;> first | rfl | cases h
theorem zoneA_tup {S : Shp} {p : Int} (h : d.isT = false) : zoneA S p d = false := by cases d <;> first | rfl | cases h
theorem tup_of (h : d.isT = true) : ∃ l, d = .tup l := by
  cases d with
  | tup l => exact ⟨l, rfl⟩
  | _ => cases h
theorem all_take {α : Type} {L : List α} {f : α → Bool} {i : Nat} {x : α} (h : L[i]? = some x) : (L.take (i + 1)).all f = ((L.take i).all f && f x) := by
  rw [List.take_add_one, h, List.all_append]
  simp
theorem zip_at {α β : Type} : ∀ {as : List α} {bs : List β} {i : Nat} {a : α} {b : β}, as[i]? = some a → bs[i]? = some b → (as.zip bs)[i]? = some (a, b)
  | _ :: _, _ :: _, 0, _, _, h1, h2 => by cases h1; cases h2; rfl
  | _ :: as, _ :: bs, i + 1, a, b, h1, h2 => by
    show (as.zip bs)[i]? = _
    exact zip_at (as := as) (bs := bs) h1 h2
/-- a zone, told as a value -/
theorem zn_av {z : Zn.Z} (h : ZnV K H v z) : Av K H (zDv z) v := by
  obtain ⟨a, b, c, us, ⟨e, rfl, h1⟩, h2, h3, h4, ⟨g, rfl, h5⟩⟩ := h
  refine .tup_ h1 (.cons (.tup_ h2 ?_) (.cons (.tup_ h3 ?_) (.cons (.tup_ h5 (.cons (Av.odv_ _) (.cons (Av.odv_ _) .nil))) .nil)))
  · clear h2 h1
    generalize z.vs = l
    induction l with
    | nil => exact .nil
    | cons x l ih => exact .cons (.str_ x) ih
  · clear h3
    revert h4
    generalize z.ss = ss
    intro h4
    induction h4 with
    | nil => exact .nil
    | cons q _ ih =>
      obtain ⟨b, rfl, hb⟩ := q
      exact .cons (.tup_ hb (.cons (Av.odv_ _) (.cons (Av.odv_ _) (.cons (Av.odv_ _) .nil)))) ih
theorem zn_zoneA {S : Shp} {p : Int} {z : Zn.Z} (so : ShpOk S) (zo : ZOk S p z) : zoneA S p (zDv z) = true := by
  have g : gapA (tms S).length (.tup [odv z.g.1, odv z.g.2]) = true := by
    show ((odv z.g.1).bnd && ((odv z.g.2).bnd && _)) = true
    rw [odv_bnd, odv_bnd]
    rcases zo.gap with h | h
    · rw [h]
      rfl
    · rw [h]
      show (true && (true && (_ || true))) = true
      rw [Bool.or_true]
      rfl
  have a : valsA S (dms S) (z.vs.map Dv.str) = true := by
    unfold valsA
    rw [List.length_map, zo.nv, decide_eq_true rfl, Bool.true_and, List.all_eq_true]
    rintro ⟨n, dv⟩ hq
    obtain ⟨i, hi⟩ := List.mem_iff_getElem?.mp hq
    rw [List.getElem?_zip_eq_some] at hi
    obtain ⟨h1, h2⟩ := hi
    rw [List.getElem?_map] at h2
    obtain ⟨x, hx, rfl⟩ := Option.map_eq_some_iff.mp h2
    obtain ⟨l, hm, hl⟩ := zo.vals i n x h1 hx
    show valA (kindOf S n) (.str x) = true
    rw [kindOf_eq so.nd hm]
    exact decide_eq_true hl
  show (valsA S (dms S) (z.vs.map Dv.str) && ((decide ((z.ss.map spDv).length = (tms S).length) && (z.ss.map spDv).all (spanA p)) && gapA (tms S).length (.tup [odv z.g.1, odv z.g.2]))) = true
  rw [a, g, List.length_map, zo.ns, decide_eq_true rfl, Bool.and_true, Bool.true_and, Bool.true_and, List.all_eq_true]
  intro x hx
  obtain ⟨s, hs, rfl⟩ := List.mem_map.mp hx
  show ((odv s.lo).bnd && ((odv s.hi).bnd && resA p (odv s.res))) = true
  rw [odv_bnd, odv_bnd]
  cases e : s.res with
  | none => rfl
  | some r =>
    obtain ⟨r0, r1⟩ := zo.res s hs r e
    show (true && (true && (decide (0 ≤ r) && decide (r < p)))) = true
    rw [decide_eq_true r0, decide_eq_true r1]
    rfl
end
end EW
end

section
set_option maxHeartbeats 4000000
/-! EwShpR: shapes that may be locked (while a loop goes over their columns). -/
namespace EW
open PySem PySem.Spec PyProof.Rows L2
/-- a shape, locked or not -/
def ShpR (K : W.Frag) (H : Hp) (v : V) (S : Shp) : Prop := ∃ d kvs, v = .ref d ∧ Rd H d (.dK kvs) ∧ Ent K H kvs S
section
variable {K : W.Frag} {H H' : Hp} {v : V} {S : Shp} {kvs : List (Key × V)}
theorem ShpAt.r (h : ShpAt K H v S) : ShpR K H v S := let ⟨d, kvs, e, h1, h2⟩ := h; ⟨d, kvs, e, .inl h1, h2⟩
theorem rdSame {d : Addr} {u : HO} (h : Rd H d u) (s : Same H H') : Rd H' d u := h.imp (s _ _) fun ⟨o, q⟩ => ⟨o, s _ _ q⟩
theorem ShpR.same (h : ShpR K H v S) (s : Same H H') : ShpR K H' v S := let ⟨d, kvs, e, h1, h2⟩ := h; ⟨d, kvs, e, rdSame h1 s, h2.same s⟩
theorem ShpR.ext (h : ShpR K H v S) (e : LamX.ExtN H H') : ShpR K H' v S := by
  obtain ⟨d, kvs, e1, h1, h2⟩ := h
  exact ⟨d, kvs, e1, rd_ext h1 (fun ps z => by cases z) e, ent_ext h2 e⟩
/-- the heap while the dict is locked -/
def LkR (H : Hp) (d : Addr) (od : Obj) (kvs : List (Key × V)) (H1 : Hp) : Prop := H1 d = some (.frz od (.dK kvs)) ∧ ((H d = some (.frz od (.dK kvs)) ∧ H1 = H) ∨ (H d = some (.dK kvs) ∧ H1 = upd H d (.frz od (.dK kvs))))
theorem LkR.ent {d : Addr} {od : Obj} {kvs' : List (Key × V)} (h : LkR H d od kvs' H') (e : Ent K H kvs S) : Ent K H' kvs S := by
  rcases h.2 with ⟨_, rfl⟩ | ⟨hd, rfl⟩
  · exact e
  · exact e.lock hd
end
/-- the expression runs while the dict is locked, if it is not yet -/
def tLockR (t : TE) : TE := fun σ H Q => ∃ (d : Addr) (kvs : List (Key × V)), Rd H d (.dK kvs) ∧ ∀ (od : Obj) (H1 : Hp), LkR H d od kvs H1 → t σ H1 fun v H2 => Same H1 H2 ∧ ∀ H3, Same H H3 → (∀ a, a ≠ d → H3 a = H2 a) → Q v H3
theorem pe_lockR {X : Cx} {e : Expr} {t : TE} (h : PE X e t) : PE X e (tLockR t) := by
  refine ⟨fun pins s σ H Q I hw => ?_⟩
  obtain ⟨d, kvs, hd, hw⟩ := hw
  rcases hd with hd | ⟨od, hd⟩
  · obtain ⟨od, I1⟩ := I.lock hd True.intro
    refine thn (h.run pins s σ _ _ I1 (hw od _ ⟨upd_same, .inr ⟨hd, rfl⟩⟩)) fun v s1 ⟨x, H1, I2, r, s2, q⟩ => ?_
    have e2 := s2 _ _ (upd_same (H := H) (a := d) (o := .frz od (.dK kvs)))
    exact ⟨x, _, I2.unlock e2 (I.nofrz hd True.intro), r, q _ (same_lock hd s2) fun a n => upd_ne n⟩
  · refine thn (h.run pins s σ _ _ I (hw od H ⟨hd, .inl ⟨hd, rfl⟩⟩)) fun v s1 ⟨x, H1, I2, r, s2, q⟩ => ?_
    exact ⟨x, _, I2, r, q _ s2 fun a _ => rfl⟩
theorem call_lenDR {X : Cx} : CallR X (.builtin "len") (fun xs H Q => ∃ a kvs, xs = [V.ref a] ∧ Rd H a (.dK kvs) ∧ Q (.int kvs.length) H) := by
  intro pins s σ H xs us Q I r h
  obtain ⟨a, kvs, rfl, ha, q⟩ := h
  obtain ⟨u, rfl, ru⟩ := vals1 r
  cases ru
  exact d_len I ha fun t s' I' => ⟨.int kvs.length, H, I', ⟨t, rfl⟩, q⟩
end EW
end

section
set_option maxHeartbeats 4000000
/-! EwKind: what is a name, a domain, a kind, a shape, told of any small value. -/
namespace EW
open PySem PySem.Spec PyProof.Rows L2
def nameA : Dv → Bool
  | .str z => decide (NameOk z)
  | _ => false
/-- a name other than "time" -/
def dnamA : Dv → Bool
  | .str z => decide (NameOk z) && decide (z ≠ "time")
  | _ => false
def Dv.txt : Dv → Str
  | .str z => z
  | _ => ""
def domA : Dv → Bool
  | .tup l => (decide (1 ≤ l.length) && decide (l.length ≤ 8)) && (l.all dnamA && decide (Rise (l.map Dv.txt)))
  | _ => false
def kindA : Dv → Bool
  | .str z => decide (z = "time")
  | d => domA d
def colA : Key → Bool
  | .inr z => decide (NameOk z) && decide (z ≠ "now")
  | .inl _ => false
abbrev Des := List (Key × Dv)
def enA (e : Key × Dv) : Bool := colA e.1 && kindA e.2
def timA (e : Key × Dv) : Bool := e.2.isS
def shapeA (es : Des) : Bool := es.all enA && (decide ((es.filter timA).length ≤ 2) && decide (es.length - (es.filter timA).length ≤ 3))
/-- texts are short -/
def Dv.shr1 : Dv → Bool
  | .str z => decide (z.length ≤ 60)
  | _ => true
def Dv.shr : Dv → Bool
  | .tup l => l.all Dv.shr1
  | d => d.shr1
/-- numbers are not great -/
def Dv.sm1 : Dv → Bool
  | .int i => decide (i.natAbs ≤ 10000000000000000000000000000000000000000)
  | _ => true
def Dv.sml : Dv → Bool
  | .tup l => l.all Dv.sm1
  | d => d.sm1
theorem Dv.sml.one {d : Dv} (h : d.sml = true) : d.sm1 = true := by
  cases d <;> first | rfl | exact h
theorem sml_strs (l : List Str) : (Dv.tup (l.map Dv.str)).sml = true := by
  show List.all _ _ = true
  rw [List.all_eq_true]
  intro d hd
  obtain ⟨z, _, rfl⟩ := List.mem_map.mp hd
  rfl
/-- a value, its dict looked into -/
inductive Dw where
  | val (d : Dv)
  | dic (es : Des)
def Aw (K : W.Frag) (H : Hp) : Dw → V → Prop
  | .val d, v => Av K H d v ∧ d.isD = false
  | .dic es, v => ∃ (a : Addr) (kvs : List (Key × V)), v = .ref a ∧ H a = some (.dK kvs) ∧ Paired (fun kv e => kv.1 = e.1 ∧ Av K H e.2 kv.2) kvs es
def Dw.dv : Dw → Dv
  | .val d => d
  | .dic _ => .dct
def Dw.ok : Dw → Prop
  | .val d => d.shr = true ∧ d.sml = true
  | .dic es => (es.map (·.1)).Nodup ∧ es.length < 60 ∧ ∀ e ∈ es, e.2.shr = true ∧ ∀ z, e.1 = .inr z → z.length ≤ 60
def shapeW : Dw → Bool
  | .val _ => false
  | .dic es => shapeA es
section
variable {K : W.Frag} {H H' : Hp} {v : V} {d : Dv} {dw : Dw} {kvs : List (Key × V)} {es : Des}
theorem Aw.av (h : Aw K H dw v) : Av K H dw.dv v := by
  cases dw with
  | val d => exact h.1
  | dic es =>
    obtain ⟨a, kvs, rfl, e, _⟩ := h
    exact .dct_ e
theorem Dw.ok.shr (h : dw.ok) : dw.dv.shr = true := by
  cases dw with
  | val d => exact h.1
  | dic es => rfl
abbrev DEnt (K : W.Frag) (H : Hp) : List (Key × V) → Des → Prop := Paired fun kv e => kv.1 = e.1 ∧ Av K H e.2 kv.2
theorem DEnt.same (h : DEnt K H kvs es) (s : Same H H') : DEnt K H' kvs es := Paired.mono (fun _ _ q => ⟨q.1, q.2.same s⟩) h
theorem Aw.same (h : Aw K H dw v) (s : Same H H') : Aw K H' dw v := by
  cases dw with
  | val d => exact ⟨h.1.same s, h.2⟩
  | dic es =>
    obtain ⟨a, kvs, rfl, e, p⟩ := h
    exact ⟨a, kvs, rfl, s _ _ e, DEnt.same p s⟩
theorem DEnt.ext (h : DEnt K H kvs es) (e : LamX.ExtN H H') : DEnt K H' kvs es := Paired.mono (fun _ _ q => ⟨q.1, q.2.ext e⟩) h
theorem Aw.ext (h : Aw K H dw v) (e : LamX.ExtN H H') : Aw K H' dw v := by
  cases dw with
  | val d => exact ⟨h.1.ext e, h.2⟩
  | dic es =>
    obtain ⟨a, kvs, rfl, h1, p⟩ := h
    exact ⟨a, kvs, rfl, e _ _ h1 (fun ps z => by cases z), DEnt.ext p e⟩
/-- the dict locked: its values stand -/
theorem DEnt.lock {a : Addr} {o : Obj} {kvs' : List (Key × V)} (h : DEnt K H kvs es) (ha : H a = some (.dK kvs')) : DEnt K (upd H a (.frz o (.dK kvs'))) kvs es :=
  Paired.mono (fun x e q => ⟨q.1, Av.stay (fun b xs hb => SqT.keptO hb ha (fun ys z => by cases z) (fun b u z => by cases z) fun c o' n e => by rw [upd_ne n]; exact e)
    (fun b xs hb => ⟨xs, by rw [upd_ne (fun z => by rw [z, ha] at hb; cases hb)]; exact hb⟩)
    (fun b ks hb => by
      by_cases c : b = a
      · subst c
        exact ⟨kvs', .inr ⟨o, upd_same⟩⟩
      · exact ⟨ks, hb.imp (fun w => by rw [upd_ne c]; exact w) fun ⟨o, w⟩ => ⟨o, by rw [upd_ne c]; exact w⟩⟩) _ _ q.2⟩) h
theorem DEnt.at_ {i : Nat} {key : Key} {x : V} (h : DEnt K H kvs es) (e : kvs[i]? = some (key, x)) : ∃ dv, es[i]? = some (key, dv) ∧ Av K H dv x := by
  obtain ⟨⟨z, dv⟩, h1, h2, h3⟩ := pr_get h e
  cases h2
  exact ⟨dv, h1, h3⟩
theorem DEnt.val : ∀ {kvs : List (Key × V)} {es : Des} {i : Nat} {key : Key} {x : V}, DEnt K H kvs es → (es.map (·.1)).Nodup → kvs[i]? = some (key, x) → valV kvs key = some x
  | _, _, i, key, x, .nil, _, e => by cases e
  | (k0, x0) :: kvs, (y, d0) :: es, i, key, x, .cons h t, nd, e => by
    have h0 : k0 = y := h.1
    subst h0
    rw [List.map_cons, List.nodup_cons] at nd
    cases i with
    | zero =>
      cases e
      exact valV_pos rfl
    | succ i =>
      have e : kvs[i]? = some (key, x) := e
      obtain ⟨dv, h1, _⟩ := DEnt.at_ t e
      have hm : key ∈ es.map (·.1) := List.mem_map.mpr ⟨_, List.mem_of_getElem? h1, rfl⟩
      rw [show valV ((k0, x0) :: kvs) key = valV kvs key from valV_neg fun z => nd.1 (by rw [show k0 = key from z]; exact hm)]
      exact DEnt.val t nd.2 e
end
/-! ### good entries as a shape -/
structure ShpW (S : Shp) : Prop where
  nd : (S.map (·.1)).Nodup
  nam : ∀ q ∈ S, NameOk q.1 ∧ q.1 ≠ "now"
  dom : ∀ q ∈ S, ∀ l, q.2 = .dom l → DomOk l
  all : S.length < 64
theorem ShpOk.w {S : Shp} (h : ShpOk S) : ShpW S := ⟨h.nd, h.nam, h.dom, h.all⟩
def keyS : Key → Str
  | .inr z => z
  | .inl _ => ""
def kdOf : Dv → Kd
  | .tup l => .dom (l.map Dv.txt)
  | _ => .time
def shpOf (es : Des) : Shp := es.map fun e => (keyS e.1, kdOf e.2)
theorem dnam_txt {l : List Dv} (h : l.all dnamA = true) : l = (l.map Dv.txt).map Dv.str := by
  rw [List.map_map]
  conv => lhs; rw [← List.map_id l]
  refine List.map_congr_left fun d hd => ?_
  have := List.all_eq_true.mp h d hd
  cases d <;> first | rfl | cases this
theorem domA_ok {l : List Dv} (h : domA (.tup l) = true) : DomOk (l.map Dv.txt) ∧ l = (l.map Dv.txt).map Dv.str := by
  simp only [domA, Bool.and_eq_true, decide_eq_true_eq] at h
  obtain ⟨⟨h1, h2⟩, h3, h4⟩ := h
  refine ⟨⟨by rw [List.length_map]; exact h1, by rw [List.length_map]; exact h2, fun z hz => ?_, h4⟩, dnam_txt h3⟩
  obtain ⟨d, hd, rfl⟩ := List.mem_map.mp hz
  have := List.all_eq_true.mp h3 d hd
  cases d <;> first | cases this | skip
  rename_i z
  simp only [dnamA, Bool.and_eq_true, decide_eq_true_eq] at this
  exact this
theorem av_strs {K : W.Frag} {H : Hp} : ∀ {l : List Str} {xs : List V}, AvL K H (l.map Dv.str) xs → xs = l.map V.str
  | [], xs, h => by rw [List.map_nil, AvL] at h; exact h
  | z :: l, xs, h => by
    rw [List.map_cons, AvL] at h
    obtain ⟨x, ys, rfl, h1, h⟩ := h
    rw [Av] at h1
    rw [h1, av_strs h, List.map_cons]
theorem kind_kdV {K : W.Frag} {H : Hp} {d : Dv} {v : V} (h : Av K H d v) (k : kindA d = true) : KdV K H v (kdOf d) := by
  cases d with
  | str z =>
    rw [Av] at h
    have : z = "time" := by simpa [kindA] using k
    rw [h, this]
    rfl
  | tup l =>
    obtain ⟨a, xs, rfl, h1, h2⟩ := h.tup_inv
    have e := (domA_ok (show domA (.tup l) = true from k)).2
    rw [e] at h2
    have := av_strs h2
    subst this
    exact ⟨a, rfl, h1⟩
  | _ => cases k
theorem shp_of {es : Des} (h : es.all enA = true) (nd : (es.map (·.1)).Nodup) (hl : es.length < 60) : ShpW (shpOf es) := by
  have hall := List.all_eq_true.mp h
  have hk : ∀ e ∈ es, e.1 = .inr (keyS e.1) ∧ NameOk (keyS e.1) ∧ keyS e.1 ≠ "now" := fun e he => by
    have := hall e he
    unfold enA at this
    rw [Bool.and_eq_true] at this
    obtain ⟨c, _⟩ := this
    cases q : e.1 with
    | inl i => rw [q] at c; cases c
    | inr z =>
      rw [q] at c
      simp only [colA, Bool.and_eq_true, decide_eq_true_eq] at c
      exact ⟨rfl, c.1, c.2⟩
  refine ⟨?_, fun q hq => ?_, fun q hq l e => ?_, by unfold shpOf; rw [List.length_map]; omega⟩
  · have e : es.map (·.1) = ((shpOf es).map (·.1)).map Sum.inr := by
      unfold shpOf
      rw [List.map_map, List.map_map]
      exact List.map_congr_left fun e he => (hk e he).1
    rw [e] at nd
    exact List.Pairwise.of_map _ (fun a b n z => n (by rw [z])) nd
  · obtain ⟨e, he, rfl⟩ := List.mem_map.mp hq
    exact (hk e he).2
  · obtain ⟨e', he, rfl⟩ := List.mem_map.mp hq
    have c := hall e' he
    unfold enA at c
    rw [Bool.and_eq_true] at c
    have e : kdOf e'.2 = .dom l := e
    have c2 := c.2
    cases q : e'.2 with
    | tup ds =>
      rw [q] at e c2
      cases e
      exact (domA_ok c2).1
    | _ => rw [q] at e; cases e
theorem ent_shp {K : W.Frag} {H : Hp} : ∀ {kvs : List (Key × V)} {es : Des}, DEnt K H kvs es → es.all enA = true → Ent K H kvs (shpOf es)
  | _, _, .nil, _ => .nil
  | (k0, x0) :: kvs, (y, d0) :: es, .cons h t, c => by
    rw [List.all_cons, Bool.and_eq_true] at c
    obtain ⟨c1, c2⟩ := c
    unfold enA at c1
    rw [Bool.and_eq_true] at c1
    refine .cons ⟨?_, kind_kdV h.2 c1.2⟩ (ent_shp t c2)
    have e : k0 = y := h.1
    show k0 = Sum.inr (keyS y)
    rw [e]
    cases q : y with
    | inl i =>
      have := c1.1
      simp only [q] at this
      cases this
    | inr z => rfl
theorem tms_shp {es : Des} (c : es.all enA = true) : (tms (shpOf es)).length = (es.filter timA).length := by
  unfold tms
  rw [(srt_perm _).length_eq, List.length_map]
  unfold shpOf
  rw [List.filter_map, List.length_map]
  congr 1
  refine List.filter_congr fun e he => ?_
  have h := List.all_eq_true.mp c e he
  unfold enA at h
  rw [Bool.and_eq_true] at h
  have h2 := h.2
  show (kdOf e.2).isT = e.2.isS
  cases q : e.2 <;> rw [q] at h2 <;> first | rfl | cases h2
/-! ### a shape as a dict of any values -/
def kdDv : Kd → Dv
  | .time => .str "time"
  | .dom l => .tup (l.map Dv.str)
def desOf (S : Shp) : Des := S.map fun q => ((Sum.inr q.1 : Key), kdDv q.2)
theorem avl_strs {K : W.Frag} {H : Hp} : ∀ l : List Str, AvL K H (l.map Dv.str) (l.map V.str)
  | [] => .nil
  | z :: l => .cons (.str_ z) (avl_strs l)
theorem kdV_av {K : W.Frag} {H : Hp} {k : Kd} {v : V} (h : KdV K H v k) : Av K H (kdDv k) v := by
  cases k with
  | time =>
    have h : v = .str "time" := h
    rw [h]
    exact .str_ _
  | dom l =>
    obtain ⟨a, rfl, hS⟩ := h
    exact .tup_ hS (avl_strs l)
theorem ent_des {K : W.Frag} {H : Hp} : ∀ {kvs : List (Key × V)} {S : Shp}, Ent K H kvs S → DEnt K H kvs (desOf S)
  | _, _, .nil => .nil
  | (k0, x0) :: kvs, (y, k) :: S, .cons h t => .cons ⟨h.1, kdV_av h.2⟩ (ent_des t)
theorem shpAt_aw {K : W.Frag} {H : Hp} {v : V} {S : Shp} (h : ShpAt K H v S) : Aw K H (.dic (desOf S)) v := let ⟨d, kvs, e, h1, h2⟩ := h; ⟨d, kvs, e, h1, ent_des h2⟩
theorem nameOk_len {z : Str} (h : NameOk z) : z.length ≤ 60 := Nat.le_trans h.2.1 (by decide)
theorem des_ok {S : Shp} (so : ShpW S) (hl : S.length < 60) : (Dw.dic (desOf S)).ok := by
  refine ⟨?_, by unfold desOf; rw [List.length_map]; exact hl, fun e he => ?_⟩
  · unfold desOf
    rw [List.map_map]
    have e : (S.map ((fun x : Key × Dv => x.1) ∘ fun q : Str × Kd => ((Sum.inr q.1 : Key), kdDv q.2))) = (S.map (·.1)).map Sum.inr := by rw [List.map_map]; rfl
    rw [e]
    exact List.Pairwise.map _ (fun a b n z => n (by cases z; rfl)) so.nd
  · obtain ⟨q, hq, rfl⟩ := List.mem_map.mp he
    refine ⟨?_, fun z e => ?_⟩
    · show (kdDv q.2).shr = true
      cases c : q.2 with
      | time => decide
      | dom l =>
        show (l.map Dv.str).all Dv.shr1 = true
        rw [List.all_eq_true]
        intro d hd
        obtain ⟨z, hz, rfl⟩ := List.mem_map.mp hd
        exact decide_eq_true (nameOk_len ((so.dom q hq l c).nam z hz).1)
    · cases e
      exact nameOk_len (so.nam q hq).1
theorem txt_strs (l : List Str) : (l.map Dv.str).map Dv.txt = l := by
  rw [List.map_map]
  conv => rhs; rw [← List.map_id l]
  rfl
theorem domOk_A {l : List Str} (h : DomOk l) : domA (.tup (l.map Dv.str)) = true := by
  simp only [domA, Bool.and_eq_true, decide_eq_true_eq, List.length_map, txt_strs]
  refine ⟨⟨h.pos, h.few⟩, ?_, h.up⟩
  rw [List.all_eq_true]
  intro d hd
  obtain ⟨z, hz, rfl⟩ := List.mem_map.mp hd
  simp only [dnamA, Bool.and_eq_true, decide_eq_true_eq]
  exact h.nam z hz
theorem des_all {S : Shp} (so : ShpW S) : (desOf S).all enA = true := by
  rw [List.all_eq_true]
  intro e he
  obtain ⟨q, hq, rfl⟩ := List.mem_map.mp he
  unfold enA
  rw [Bool.and_eq_true]
  refine ⟨?_, ?_⟩
  · simp only [colA, Bool.and_eq_true, decide_eq_true_eq]
    exact so.nam q hq
  · cases c : q.2 with
    | time => rfl
    | dom l => exact domOk_A (so.dom q hq l c)
theorem des_tim (S : Shp) : ((desOf S).filter timA).length = (tms S).length := by
  unfold tms desOf
  rw [(srt_perm _).length_eq, List.length_map, List.filter_map, List.length_map]
  congr 1
  refine List.filter_congr fun q _ => ?_
  show (kdDv q.2).isS = q.2.isT
  cases q.2 <;> rfl
theorem des_shape {S : Shp} (so : ShpOk S) : shapeA (desOf S) = true := by
  unfold shapeA
  rw [des_all so.w, des_tim, Bool.true_and, Bool.and_eq_true, decide_eq_true_eq, decide_eq_true_eq]
  refine ⟨so.tms, ?_⟩
  unfold desOf
  rw [List.length_map]
  exact so.few
/-! ### values that are good to be asked about -/
def Okv (K : W.Frag) (H : Hp) (v : V) : Prop := ∃ dw, Aw K H dw v ∧ dw.ok
def AllO (K : W.Frag) (H : Hp) (xs : List V) : Prop := ∀ v ∈ xs, Okv K H v
section
variable {K : W.Frag} {H H' : Hp} {v : V} {xs ys : List V}
theorem Okv.same (h : Okv K H v) (s : Same H H') : Okv K H' v := let ⟨dw, h1, h2⟩ := h; ⟨dw, h1.same s, h2⟩
theorem Okv.ext (h : Okv K H v) (s : LamX.ExtN H H') : Okv K H' v := let ⟨dw, h1, h2⟩ := h; ⟨dw, h1.ext s, h2⟩
theorem Aw.kept {di : Addr} {ds ds' : List V} {dw : Dw} (h1 : Aw K H dw v) (hd : H di = some (.lst ds)) (hd' : H' di = some (.lst ds')) (k : Kept di H H') : Aw K H' dw v := by
  cases dw with
  | val d => exact ⟨h1.1.kept hd hd' k, h1.2⟩
  | dic es =>
    obtain ⟨a, kvs, e, h3, h4⟩ := h1
    exact ⟨a, kvs, e, k _ _ (fun z => by rw [z, hd] at h3; cases h3) h3, Paired.mono (fun _ _ q => ⟨q.1, q.2.kept hd hd' k⟩) h4⟩
theorem Okv.kept {di : Addr} {ds ds' : List V} (h : Okv K H v) (hd : H di = some (.lst ds)) (hd' : H' di = some (.lst ds')) (k : Kept di H H') : Okv K H' v := by
  obtain ⟨dw, h1, h2⟩ := h
  refine ⟨dw, ?_, h2⟩
  cases dw with
  | val d => exact ⟨h1.1.kept hd hd' k, h1.2⟩
  | dic es =>
    obtain ⟨a, kvs, e, h3, h4⟩ := h1
    exact ⟨a, kvs, e, k _ _ (fun z => by rw [z, hd] at h3; cases h3) h3, Paired.mono (fun _ _ q => ⟨q.1, q.2.kept hd hd' k⟩) h4⟩
theorem AllO.nil : AllO K H [] := fun _ h => nomatch h
theorem AllO.cons {x : V} (h : Okv K H x) (t : AllO K H xs) : AllO K H (x :: xs) := fun v hv => by
  rcases List.mem_cons.mp hv with e | hv
  · rw [e]; exact h
  · exact t v hv
theorem AllO.app (h : AllO K H xs) (t : AllO K H ys) : AllO K H (xs ++ ys) := fun v hv => (List.mem_append.mp hv).elim (h v) (t v)
theorem AllO.same (h : AllO K H xs) (s : Same H H') : AllO K H' xs := fun v hv => (h v hv).same s
theorem AllO.kept {di : Addr} {ds ds' : List V} (h : AllO K H xs) (hd : H di = some (.lst ds)) (hd' : H' di = some (.lst ds')) (k : Kept di H H') : AllO K H' xs := fun v hv => (h v hv).kept hd hd' k
theorem Okv.val {d : Dv} (h : Av K H d v) (hd : d.isD = false := by rfl) (hs : d.shr = true := by rfl) (hm : d.sml = true := by rfl) : Okv K H v := ⟨.val d, ⟨h, hd⟩, hs, hm⟩
theorem Okv.str_ {z : Str} (h : z.length ≤ 60) : Okv K H (.str z) := .val (.str_ z) rfl (decide_eq_true h)
theorem Okv.tup_ {a : Addr} {l : List Dv} (h : SqT K H a xs) (t : AvL K H l xs) (hs : (Dv.tup l).shr = true := by rfl) (hm : (Dv.tup l).sml = true := by rfl) : Okv K H (.ref a) := .val (.tup_ h t) rfl hs hm
theorem Okv.dic_ {a : Addr} {kvs : List (Key × V)} {es : Des} (h : H a = some (.dK kvs)) (t : DEnt K H kvs es) (hs : (Dw.dic es).ok) : Okv K H (.ref a) := ⟨.dic es, ⟨a, kvs, rfl, h, t⟩, hs⟩
theorem Okv.shp {S : Shp} (h : ShpAt K H v S) (so : ShpW S) (hl : S.length < 60) : Okv K H v := ⟨_, shpAt_aw h, des_ok so hl⟩
theorem dic1_ok {k : Key} {d : Dv} (h : d.shr = true) (h2 : ∀ z, k = .inr z → z.length ≤ 60) : (Dw.dic [(k, d)]).ok := ⟨by simp, by simp, fun e he => by
  obtain rfl := List.mem_singleton.mp he
  exact ⟨h, h2⟩⟩
end
end EW
end

section
set_option maxHeartbeats 4000000
namespace EW
open PySem PySem.Spec PyProof.Rows L2
theorem iteD {c : Bool} {A B : Prop} (h : c = true) (a : A) : if c = true then A else B := by
  subst h
  exact a
theorem iteN {c : Bool} {A B : Prop} (h : c = false) (b : B) : if c = true then A else B := by
  subst h
  exact b
end EW
namespace TM
open PySem PySem.Spec PyProof.Rows L2 EW
abbrev FnP (K : W.Frag) (x : Str) (st : Stmt) (fd : FuncData) : Prop := FunD K x x (defArgs st) (defBody st) (defScope st) [] [] (He.ga K x) fd
/-- names of the built-ins that the module doesn't bind -/
structure Fre (mg : Str → Option Value) : Prop where
  len : mg "len" = none
  int : mg "int" = none
  bool : mg "bool" = none
  tuple : mg "tuple" = none
  list : mg "list" = none
  set : mg "set" = none
  abs : mg "abs" = none
  max : mg "max" = none
  min : mg "min" = none
  range : mg "range" = none
  any : mg "any" = none
  all : mg "all" = none
  sorted : mg "sorted" = none
  isinstance : mg "isinstance" = none
  str : mg "str" = none
  dict : mg "dict" = none
  zip : mg "zip" = none
  enumerate : mg "enumerate" = none
/-- the module's constants -/
structure Glb (K : W.Frag) (mg : Str → Option Value) : Prop where
  time : ∃ t, mg "TIME" = some (.str "time" t)
  now : ∃ t, mg "NOW" = some (.str "now" t)
  letters : ∃ t, mg "LETTERS" = some (.str "abcdefghijklmnopqrstuvwxyz" t)
  ml : ∃ t, mg "MAX_LETTERS" = some (.int 8 t)
  mt : ∃ t, mg "MAX_TIMES" = some (.int 2 t)
  md : ∃ t, mg "MAX_DOMAINS" = some (.int 3 t)
  mv : ∃ t, mg "MAX_VALUES" = some (.int 8 t)
abbrev NIsInt : List Str := ["value"]
theorem IsInt : FnScope NIsInt ["value"] (defScope sIsInt) := ⟨rfl, rfl, rfl, by decide +kernel, rfl, by decide +kernel, by decide +kernel⟩
/-- the classes that are raised -/
structure Xcp (K : W.Frag) (mg : Str → Option Value) : Prop where
  shape : XMsg K mg "InvalidShape"
  op : XMsg K mg "InvalidOperation"
/-- what is raised -/
inductive Err where
  | shape
  | op
/-- the error is let out -/
def Rse (K : W.Frag) (H : Hp) (E : XK) : Err → Prop
  | .shape => ∀ H', Same H H' → E (.ref (He.ga K "InvalidShape")) none H'
  | .op => ∀ H', Same H H' → E (.ref (He.ga K "InvalidOperation")) none H'
theorem Rse.mono {K : W.Frag} {H H' : Hp} {E : XK} {e : Err} (h : Rse K H E e) (s : Same H H') : Rse K H' E e := by
  cases e with
  | shape => exact fun G s' => h G (s.trans s')
  | op => exact fun G s' => h G (s.trans s')
def spIsInt (K : W.Frag) : Sp := fun vs H Q _ => ∃ (v : V) (t : Value) (b c : Bool), vs = [v] ∧ TyX K H v t ∧ W.kitOne K t (.type "int") = some b ∧ (b = true → W.kitOne K t (.type "bool") = some c) ∧ Q (.bl (b && !c)) H
theorem kb1 : kitB "int" "int" = some true := by decide +kernel
theorem kb2 : kitB "int" "bool" = some false := by decide +kernel
theorem kb3 : kitB "NoneType" "int" = some false := by decide +kernel
theorem kb4 : kitB "tuple" "tuple" = some true := by decide +kernel
theorem kb5 : kitB "str" "str" = some true := by decide +kernel
theorem kb6 : kitB "tuple" "str" = some false := by decide +kernel
theorem kb7 : kitB "dict" "dict" = some true := by decide +kernel
theorem isInt_int {K : W.Frag} {H : Hp} {Q : VK} (i : Int) (h : Q (.bl true) H) : spIsInt K [.int i] H Q E0 := ⟨_, _, true, false, rfl, .base (.int i), kit_ty kb1, fun _ => kit_ty kb2, h⟩
theorem isInt_av {K : W.Frag} {H : Hp} {Q : VK} {v : V} {d : Dv} (hv : Av K H d v) (h : Q (.bl d.num) H) : spIsInt K [v] H Q E0 := ⟨v, _, d.isI, d.isB, rfl, hv.ty, avI d, fun _ => avB d, by
  have e : (d.isI && !d.isB) = d.num := by cases d <;> rfl
  rw [e]
  exact h⟩
theorem isInt_non {K : W.Frag} {H : Hp} {Q : VK} (h : Q (.bl false) H) : spIsInt K [.non] H Q E0 := ⟨_, _, false, false, rfl, .base .non, kit_ty kb3, (fun z => nomatch z), h⟩
theorem tyT {K : W.Frag} {H : Hp} {a : Addr} {xs : List V} (h : SqT K H a xs) : TyX K H (.ref a) (.type "tuple") := by
  rcases h with (h | ⟨o, h⟩) | ⟨o, its, n, e, c, _⟩
  · exact .base (.tup h)
  · exact .fTuple h
  · exact .kTuple e c
theorem nil_ {σ : L2.St} {H : Hp} {R : List V → Hp → Prop} (h : R [] H) : tNil σ H R := h
theorem con1 {v : V} {σ : L2.St} {H : Hp} {R : List V → Hp → Prop} (h : R [v] H) : tCons (tC v) tNil σ H R := h
theorem not_of {P : Prop} [Decidable P] (h : ¬ decide P = true) : ¬ P := fun z => h (decide_eq_true z)
section
variable {P : Program} {w : World} {K : W.Frag} {mg : Str → Option Value} {base : Heap}
theorem ok_isInt {fd : FuncData} (F : FnP K "is_integer" sIsInt fd) (T : Fre mg) : FnOk P w K mg base CX0 1 (He.ga K "is_integer") fd ["value"] (spIsInt K) := by
  refine F.ok IsInt (fun vs H Q E h => ?_) (fun cdv A outer s H vs Q E hr h => ?_)
  · obtain ⟨v, t, b, c, rfl, _⟩ := h
    rfl
  · obtain ⟨v, t, b, c, rfl, ty, hb, hc, k⟩ := h
    refine ⟨_, PSs.nox (pss_one (ps_ret (pe_and (pe_callB (call_isiE K rfl) (by rfl) T.isinstance EW.boot_isinstance (pa_cons (pv 0) (pa_cons (pe_bltn (v := .ty "int") rfl T.int EW.boot_int rfl) pa_nil))) (pe_one (pe_not (pe_callB (call_isiE K rfl) (by rfl) T.isinstance EW.boot_isinstance (pa_cons (pv 0) (pa_cons (pe_bltn (v := .ty "bool") rfl T.bool EW.boot_bool rfl) pa_nil)))))))), ?_⟩
    refine ⟨_, rfl, v, _, t, _, b, rfl, .ty "int", ty, hb, b, rfl, ?_⟩
    cases b with
    | false => exact iteF k
    | true => exact iteT ⟨_, rfl, v, _, t, _, c, rfl, .ty "bool", ty, hc rfl, c, rfl, k⟩
end
theorem kbst : kitB "str" "tuple" = some false := by decide +kernel
end TM
end

section
set_option maxHeartbeats 4000000
/-! EwSet3: set(l) with its members told, sorted(s) of fewer than 64. -/
namespace EW
open PySem PySem.Spec PyProof.Rows L2
section
variable {X : Cx}
theorem cr_setLm (K : W.Frag) (w : World) (h : X.K = K) (hw : X.w = w) (hc : X.calm = true) : CallR X (.type "set") (fun vs H Q => ∃ (a : Addr) (ns : List Int), vs = [V.ref a] ∧ SqL K H a (ns.map V.int) ∧ ns.length + 1 < scanBound ∧ ∀ (p : Addr) (c : Nat) (H' : Hp), H p = none → Same H H' → H' p = some (SetO w p (fun j => decide (j ∈ ns)) c) → c ≤ ns.length → Q (.ref p) H') := by
  subst h
  subst hw
  intro pins s σ H vs us Q I r h
  obtain ⟨a, ns, rfl, hS, hb, q⟩ := h
  obtain rfl := Vals.ref1 r
  obtain ⟨its, rv, hl, hz⟩ := I.list hS
  refine call_setL (I.ok.hd hc) hl.isList (show IntsAre its.toArray.toList ns from rv.ints) hb fun h' tk c R hcn kp => ?_
  have hf := I.hok.fresh (Nat.le_refl s.heap.objs.size)
  exact ⟨.ref _, upd H s.heap.objs.size (SetO X.w s.heap.objs.size (fun j => decide (j ∈ ns)) c), I.laid (t' := tk) kp (Nat.le_refl _) (setO_new R), rfl, q _ c _ hf (sameN hf) upd_same hcn⟩
theorem cr_sortedSetm (w : World) (hw : X.w = w) (hc : X.calm = true) : CallR X (.builtin "sorted") (fun vs H Q => ∃ (a : Addr) (S : Int → Bool) (n : Nat), vs = [V.ref a] ∧ H a = some (SetO w a S n) ∧ n < 64 ∧ ∀ ns : List Int, ns.Pairwise (· < ·) → (∀ k : Int, k ∈ ns ↔ S k = true) → ns.length = n → New H (fun _ => .lst (ns.map V.int)) Q) := by
  subst hw
  intro pins s σ H vs us Q I r h
  obtain ⟨a, S, n, e, h1, h2, q⟩ := h
  exact cr_sortedSet hc pins s σ H vs us Q I r ⟨a, S, n, e, h1, h2, fun ns p g1 g2 g3 hp => (q ns g1 g2 g3).at hp⟩
end
end EW
end

section
set_option maxHeartbeats 4000000
namespace EW
open PySem PySem.Spec PyProof.Rows L2
/-! ### str(o), o with an own __str__ -/
section
open Builtin Builtin.Str PySem.W PySem.Calls
variable {prog : Program} {w : World} {A : Around} {E : Value → Shared → Prop} {s : Shared} {K : W.Frag} {x C f : Addr} {ox : Obj} {od : Option Obj}
theorem str_own {Q : Value → Shared → Prop} (hu : A.in1.in1.units < cLine) (Kn : K.In s.heap) (J : W.InstAt s.heap x ox C od) (hs : W.findIn K (.ref C) "__str__" = some (some (.ref f))) (hf : W.isFn K (.ref f) = true)
    (h : wpAny (model prog w) A.in1.in1 (call (.ref f) [.ref x]) (fun v s' => ∃ y t, v = .str y t ∧ Q v s') E s) : wpAny (model prog w) A (call (.type "str") [.ref x]) Q E s := by
  refine callType_codes (T := "str") (Bi := Builtin.«object.__init__») (Q₁ := fun r s₁ => ∃ y u, r = .str y u ∧ Q r s₁) PySem.F.called_str (PySem.F.typeCall_str_1 _) PySem.F.entry_object_init ?_ ?_
  · refine codeAny_of_tree ?_
    show wpAny _ A.in1.in1 (do checkBuiltinCall "str.__new__" ⟨[.type "str", .ref x], []⟩; again (.builtin "str.__new__" ⟨[.type "str", .ref x], []⟩)) _ _ s
    refine wpAny_bind (wpAny_of_eq (PySem.F.newCall_str_1 _) (wpAny_pure ⟨plainId_quiet (by decide +kernel) _, codeAny_builtin PySem.F.entry_str_new ?_⟩))
    rw [Around.under_plainId (by decide +kernel) _]
    rw [str_new_tree]
    refine wpAny_bind (wpAny_pure ?_)
    refine wpAny_bind (wpAny_of_eq isSubtype_str_str ?_)
    have key : wpAny (model prog w) A.in1.in1 (PySem.Builtin.Str.strOf (.ref x)) (fun r s₁ => ∃ y u, r = .str y u ∧ Q r s₁) E s := by
      unfold PySem.Builtin.Str.strOf
      rw [show isExactStr (.ref x) = false from rfl]
      refine wpAny_bind (m := cRoomFor _ _) (wpAny_cRoomFor hu ?_)
      refine wpAny_bind (m := callSpecial? (.ref x) (Str.ofString "__str__")) (W.special_fn Kn J hs (beq_iff_eq.mp hf) (wpAny_mono h (fun r s' z => ?_) fun _ _ y => y))
      obtain ⟨y, t, rfl, z⟩ := z
      exact wpAny_pure ⟨_, _, rfl, z⟩
    exact wpAny_bind (wpAny_mono key (fun r s₁ hr => wpAny_pure hr) fun _ _ y => y)
  · rintro obj s₁ ⟨y, u, rfl, hq⟩
    exact ⟨typeIs_str _ _ _, PySem.F.args_object_init_2 _ _, object_init_meets PySem.F.called_str.init.lookup PySem.F.called_str.made (by decide) prog w A.in1 _ s₁ ⟨typeIs_str _ _ _, rfl, hq⟩⟩
end
section
variable {X : Cx} {k : Nat} {ps : List Str} {sp : Sp} {C : Addr}
theorem call_strO (M : Mt X.prog X.w X.K X.mg X.base k C "__str__" ps sp) (hr : Room (k + 2) X.A) : CallR X (.type "str") (fun xs H Q => ∃ x, xs = [x] ∧ IsC H C x ∧ sp [x] H (fun z H' => ∃ y, z = .str y ∧ Q (.str y) H') E0) := by
  intro pins s σ H xs us Q I r h
  obtain ⟨x, rfl, hi, h⟩ := h
  obtain ⟨u, rfl, ru⟩ := r.one
  obtain ⟨f, fd, F, hb, hs, hf⟩ := M.ex
  obtain ⟨a, ox, od, rfl, J⟩ := hi.at_ I ru
  refine str_own (by have := hr.units; show X.A.units + 1 + 1 < cLine; omega) I.kIn J hs hf ?_
  refine wpAny_mono (run_at F (Sub.in1 (Sub.in1 ⟨hr, rfl⟩)) hb I (.cons ru .nil) h) (fun v s' z => ?_) fun _ _ z => z
  obtain ⟨v', H', I', rv, y, rfl, q⟩ := z
  obtain ⟨t, rfl⟩ := rv
  exact ⟨y, t, rfl, .str y, H', I', ⟨t, rfl⟩, q⟩
end
theorem boot_str : bootBuiltins "str" = some (.type "str") := by decide +kernel
end EW
end

section
set_option maxHeartbeats 4000000
namespace EW
open PySem PySem.Spec PyProof.Rows L2
theorem boot_dict : bootBuiltins "dict" = some (.type "dict") := by decide +kernel
theorem same_upd {H H' : Hp} {D : Addr} {o : HO} (s : Same H H') (h : H D = none) : Same H (upd H' D o) := fun c u e => by
  rw [upd_ne (fun z => by rw [z, h] at e; cases e)]
  exact s _ _ e
theorem upd_new {H : Hp} {D : Addr} {o : HO} (h : H D = none) : Same H (upd H D o) := same_upd (Same.refl H) h
theorem op_inK {X : Cx} (K : W.Frag) (h : X.K = K) : OpR X (compareOp .In) (rIn K false) := by
  subst h
  exact op_in_seq
end EW
namespace TM
open PySem PySem.Spec PyProof.Rows L2 EW
abbrev NIsName : List Str := ["value", "sign"]
theorem IsName : FnScope NIsName ["value"] (defScope sIsName) := ⟨rfl, rfl, rfl, by decide +kernel, rfl, by decide +kernel, by decide +kernel⟩
abbrev NIsDomain : List Str := ["value", "one", "other"]
theorem IsDomain : FnScope NIsDomain ["value"] (defScope sIsDomain) := ⟨rfl, rfl, rfl, by decide +kernel, rfl, by decide +kernel, by decide +kernel⟩
abbrev NIsKind : List Str := ["value"]
theorem IsKind : FnScope NIsKind ["value"] (defScope sIsKind) := ⟨rfl, rfl, rfl, by decide +kernel, rfl, by decide +kernel, by decide +kernel⟩
abbrev NIsCol : List Str := ["value"]
theorem IsCol : FnScope NIsCol ["value"] (defScope sIsCol) := ⟨rfl, rfl, rfl, by decide +kernel, rfl, by decide +kernel, by decide +kernel⟩
abbrev NTimesIn : List Str := ["shape", "column"]
theorem TimesIn : FnScope NTimesIn ["shape"] (defScope sTimesIn) := ⟨rfl, rfl, rfl, by decide +kernel, rfl, by decide +kernel, by decide +kernel⟩
theorem rise_of : ∀ {l : List Str}, (∀ (j : Nat) (x y : Str), l[j]? = some x → (l.drop 1)[j]? = some y → x.cps.toList < y.cps.toList) → Rise l
  | [], _ => True.intro
  | [_], _ => True.intro
  | x :: y :: r, h => ⟨h 0 x y rfl rfl, rise_of fun j a b ha hb => h (j + 1) a b (by simpa using ha) (by simpa using hb)⟩
def spName (K : W.Frag) : Sp := fun vs H Q _ => ∃ (d : Dv) (v : V), vs = [v] ∧ Av K H d v ∧ d.shr1 = true ∧ ∀ H', Same H H' → Q (.bl (nameA d)) H'
def spDomain (K : W.Frag) : Sp := fun vs H Q _ => ∃ (d : Dv) (v : V), vs = [v] ∧ Av K H d v ∧ d.shr = true ∧ ∀ H', Same H H' → Q (.bl (domA d)) H'
def spKind (K : W.Frag) : Sp := fun vs H Q _ => ∃ (d : Dv) (v : V), vs = [v] ∧ Av K H d v ∧ d.shr = true ∧ ∀ H', Same H H' → Q (.bl (kindA d)) H'
def keyDv : Key → Dv
  | .inl i => .int i
  | .inr z => .str z
theorem keyDv_av {K : W.Frag} {H : Hp} (k : Key) : Av K H (keyDv k) (kV k) := by
  cases k with
  | inl i => exact .int_ i
  | inr z => exact .str_ z
def spCol (K : W.Frag) : Sp := fun vs H Q _ => ∃ key : Key, vs = [kV key] ∧ (∀ z, key = .inr z → z.length ≤ 60) ∧ ∀ H', Same H H' → Q (.bl (colA key)) H'
def spNamesR (K : W.Frag) (f : Shp → List Str) : Sp := fun vs H Q _ => ∃ (v : V) (S : Shp), vs = [v] ∧ ShpR K H v S ∧ ShpW S ∧ ∀ (p : Addr) (H' : Hp), Same H H' → H' p = some (.lst ((f S).map V.str)) → Q (.ref p) H'
def spNames (K : W.Frag) (f : Shp → List Str) : Sp := fun vs H Q _ => ∃ (v : V) (S : Shp), vs = [v] ∧ ShpAt K H v S ∧ ShpW S ∧ ∀ (p : Addr) (H' : Hp), Same H H' → H' p = some (.lst ((f S).map V.str)) → Q (.ref p) H'
theorem all_map {α : Type} (f : α → Bool) (l : List α) : (l.map f).all id = l.all f := by rw [List.all_map]; rfl
section
variable {P : Program} {w : World} {K : W.Frag} {mg : Str → Option Value} {base : Heap}
theorem ok_name {fd : FuncData} (F : FnP K "is_name" sIsName fd) (T : Fre mg) (G : Glb K mg) : FnOk P w K mg base CX0 1 (He.ga K "is_name") fd ["value"] (spName K) := by
  refine F.ok IsName (fun vs H Q E h => ?_) (fun cdv A outer s H vs Q E hr h => ?_)
  · obtain ⟨d, v, rfl, _⟩ := h
    rfl
  · obtain ⟨d, v, rfl, hd, hs, k⟩ := h
    refine ⟨_, PSs.nox (pss_one (ps_ret (pe_and (pe_callB (call_isiE K rfl) (by rfl) T.isinstance EW.boot_isinstance (pa_cons (pv 0) (pa_cons (pe_bltn (v := .ty "str") rfl T.str EW.boot_str rfl) pa_nil))) (pe_and (pe_chain op_le op_le pe_int (pe_callB (call_lenK K rfl) (by rfl) T.len PySem.boot_len (pa_cons (pv 0) pa_nil)) (pe_glob (v := .int 8) rfl G.ml.choose_spec ⟨_, rfl⟩)) (pe_one (pe_callB (cr_allK K rfl rfl) (by rfl) T.all EW.boot_all (pa_cons (pe_lc (own := [("sign", 1)]) (g := gName 1) (tt := tYes) (by rfl) IsName.nd (pi_str (pv 0)) (blkOk_by (own := [("sign", 1)]) (N := NIsName) (sc := defScope sIsName) (by decide +kernel)) (fun _ _ _ _ _ => (pg_name (i := 1) IsName.nd rfl (Or.inl rfl))) (fun _ _ _ _ _ => pts_nil) (fun _ _ _ _ _ => (pe_cmpR op_in_sign (pv 1) (pe_glob (v := .str "abcdefghijklmnopqrstuvwxyz") rfl G.letters.choose_spec ⟨_, rfl⟩) rfl))) pa_nil))))))), ?_⟩
    by_cases c : d.isS = true
    rotate_left
    · have hn : d.isS = false := by simpa using c
      have e : nameA d = false := by cases d <;> first | rfl | cases hn
      rw [e] at k
      exact ⟨_, rfl, v, _, .type d.cl, _, d.isS, rfl, .ty "str", hd.ty, avS d, d.isS, rfl, iteN hn (k H (Same.refl H))⟩
    cases d <;> first | cases c | skip
    rename_i z
    rw [Av] at hd
    subst hd
    have hz : z.length ≤ 60 := by simpa [Dv.shr1] using hs
    have hbig : (64 : Nat) ≤ sizeLine := by decide
    refine ⟨_, rfl, .str z, _, .type "str", _, true, rfl, .ty "str", .base (.str z), kit_ty kb5, true, rfl, iteT ?_⟩
    refine ⟨_, rfl, _, _, rfl, ⟨by omega, rfl⟩, _, _, rfl, rfl, _, rfl, ?_⟩
    by_cases z1 : 1 ≤ z.length
    rotate_left
    · have e : nameA (.str z) = false := decide_eq_false fun h => z1 h.1
      rw [e] at k
      exact iteN (decide_eq_false (by omega)) ⟨_, rfl, iteF (k H (Same.refl H))⟩
    refine iteD (decide_eq_true (by omega)) ?_
    by_cases z2 : z.length ≤ 8
    rotate_left
    · have e : nameA (.str z) = false := decide_eq_false fun h => z2 h.2.1
      rw [e] at k
      exact ⟨_, _, rfl, rfl, _, rfl, iteN (decide_eq_false (by omega)) (k H (Same.refl H))⟩
    refine ⟨_, _, rfl, rfl, _, rfl, iteD (decide_eq_true (by omega)) ?_⟩
    refine ⟨_, rfl, z, rfl, fun D hD => ?_⟩
    refine loop_str (fun i H' => H' D = some (.lst (((z.cps.toList.take i).map fun c => decide (c ∈ letters)).map V.bl)) ∧ Same H H') ⟨upd_same, upd_new hD⟩ ?_ ?_
    · rintro i c H1 hc ⟨eD, s1⟩
      refine ⟨rfl, ?_⟩
      have hi : i < z.cps.toList.length := (List.getElem?_eq_some_iff.mp hc).1
      have hi : i < z.length := by simpa [Str.length] using hi
      refine ⟨_, rfl, _, _, rfl, rfl, ?_⟩
      refine ⟨_, eD, by rw [List.length_map, List.length_map, List.length_take]; omega, ?_, same_upd s1 hD⟩
      rw [upd_same, List.take_add_one, hc, List.map_append, List.map_append]
      rfl
    · rintro H1 ⟨eD, s1⟩
      refine ⟨D, _, rfl, SqL.of eD, ?_⟩
      have e2 : ((z.cps.toList.take z.cps.toList.length).map fun c => decide (c ∈ letters)).all id = nameA (.str z) := by
        rw [all_map, List.take_length]
        show _ = decide (NameOk z)
        rw [Bool.eq_iff_iff, List.all_eq_true, decide_eq_true_iff]
        exact ⟨fun h => ⟨z1, z2, fun c hc => of_decide_eq_true (h c hc)⟩, fun h c hc => decide_eq_true (h.2.2 c hc)⟩
      exact (congrArg (fun b => Q (.bl b) H1) e2).mpr (k H1 s1)
theorem ok_col {fd : FuncData} (F : FnP K "is_column_name" sIsCol fd) (G : Glb K mg) (Dis_name : Df P w K mg base 1 "is_name" ["value"] (spName K)) : FnOk P w K mg base CX0 2 (He.ga K "is_column_name") fd ["value"] (spCol K) := by
  refine F.ok IsCol (fun vs H Q E h => ?_) (fun cdv A outer s H vs Q E hr h => ?_)
  · obtain ⟨key, rfl, _⟩ := h
    rfl
  · obtain ⟨key, rfl, hs, k⟩ := h
    refine ⟨_, PSs.nox (pss_one (ps_ret (pe_and (pe_df Dis_name (hr.mono (by decide)) rfl (pa_cons (pv 0) pa_nil)) (pe_one (pe_cmpR op_ne (pv 0) (pe_glob (v := .str "now") rfl G.now.choose_spec ⟨_, rfl⟩) (nomark _)))))), ?_⟩
    refine ⟨_, rfl, keyDv key, _, rfl, keyDv_av key, ?_, fun H' s1 => ⟨_, rfl, ?_⟩⟩
    · cases key with
      | inl i => rfl
      | inr z => exact decide_eq_true (hs z rfl)
    · cases key with
      | inl i => exact iteF (k H' s1)
      | inr z =>
        have k := k H' s1
        by_cases c : NameOk z
        · refine iteD (decide_eq_true c) ⟨_, rfl, rfl, ?_⟩
          have e : colA (.inr z) = !decide (kV (Sum.inr z) = V.str "now") := by simp [colA, c, kV]
          rw [e] at k
          exact k
        · refine iteN (decide_eq_false c) ?_
          have e : colA (.inr z) = false := by simp [colA, c]
          rw [e] at k
          exact k
theorem ok_domain {fd : FuncData} (F : FnP K "is_domain" sIsDomain fd) (T : Fre mg) (G : Glb K mg) (Dis_name : Df P w K mg base 1 "is_name" ["value"] (spName K)) : FnOk P w K mg base CX0 2 (He.ga K "is_domain") fd ["value"] (spDomain K) := by
  refine F.ok IsDomain (fun vs H Q E h => ?_) (fun cdv A outer s H vs Q E hr h => ?_)
  · obtain ⟨d, v, rfl, _⟩ := h
    rfl
  · obtain ⟨d, v, rfl, hv, hs, k⟩ := h
    have hbig : (64 : Nat) ≤ sizeLine := by decide
    refine ⟨_, PSs.nox (pss_cons (ps_if (PW.pt (pw_or (pt_not (pt_val (pe_callB (call_isiE K rfl) (by rfl) T.isinstance EW.boot_isinstance (pa_cons (pv 0) (pa_cons (pe_bltn (v := .ty "tuple") rfl T.tuple EW.boot_tuple rfl) pa_nil))))) (pw_or1 (pt_not (pt_chain op_le op_le pe_int (pe_callB (call_lenK K rfl) (by rfl) T.len PySem.boot_len (pa_cons (pv 0) pa_nil)) (pe_glob (v := .int 8) rfl G.mv.choose_spec ⟨_, rfl⟩)))))) (pss_one (ps_ret pe_bl)) pss_nil)
      (pss_cons (ps_if (pt_not (pt_val (pe_callB (cr_allK K rfl rfl) (by rfl) T.all EW.boot_all (pa_cons (pe_lc (own := [("one", 1)]) (g := gName 1) (tt := tYes) (by rfl) IsDomain.nd (pi_tupK (K := K) rfl (pv 0)) (blkOk_by (own := [("one", 1)]) (N := NIsDomain) (sc := defScope sIsDomain) (by decide +kernel)) (fun _ _ _ _ _ => (pg_name (i := 1) IsDomain.nd rfl (Or.inl rfl))) (fun _ _ _ _ _ => pts_nil) (fun _ _ _ _ _ => (pe_and (pe_df Dis_name (hr.mono (by decide)) rfl (pa_cons (pv 1) pa_nil)) (pe_one (pe_cmpR op_ne (pv 1) (pe_glob (v := .str "time") rfl G.time.choose_spec ⟨_, rfl⟩) (nomark _)))))) pa_nil)))) (pss_one (ps_ret pe_bl)) pss_nil)
      (pss_one (ps_ret (pe_callB (cr_allK K rfl rfl) (by rfl) T.all EW.boot_all (pa_cons (pe_lc (own := [("one", 1), ("other", 2)]) (g := gTup K 2 (gCons (gName 1) (gCons (gName 2) gNil))) (tt := tYes) (by rfl) IsDomain.nd (RZ.pi_zipA (by rfl) T.zip (pa_cons (pv 0) (pa_cons (pe_slice (sl_tupS K rfl) (pv 0) (po_some pe_int) po_none) pa_nil))) (blkOk_by (own := [("one", 1), ("other", 2)]) (N := NIsDomain) (sc := defScope sIsDomain) (by decide +kernel)) (fun _ _ _ _ _ => (pg_tup rfl (pgs_cons (pg_name (i := 1) IsDomain.nd rfl (Or.inl rfl)) (pgs_cons (pg_name (i := 2) IsDomain.nd rfl (Or.inl rfl)) pgs_nil)))) (fun _ _ _ _ _ => pts_nil) (fun _ _ _ _ _ => (pe_cmpR op_lt_str (pv 1) (pv 2) (nomark _)))) pa_nil)))))), ?_⟩
    by_cases c : d.isT = true
    rotate_left
    · have c : d.isT = false := by simpa using c
      have e : domA d = false := by cases d <;> first | rfl | cases c
      rw [e] at k
      exact ⟨_, rfl, v, _, .type d.cl, _, d.isT, rfl, .ty "tuple", hv.ty, avTu d, _, rfl, iteD (by rw [c]; rfl) (k H (Same.refl H))⟩
    obtain ⟨l, rfl⟩ := tup_of c
    obtain ⟨a, xs, rfl, hS, hl⟩ := hv.tup_inv
    have hln := hl.len
    have hs : l.all Dv.shr1 = true := hs
    refine ⟨_, rfl, .ref a, _, .type "tuple", _, true, rfl, .ty "tuple", tyT hS, kit_ty kb4, _, rfl, iteF ?_⟩
    refine ⟨_, rfl, _, _, rfl, .inr ⟨_, hS, rfl⟩, _, _, rfl, rfl, _, rfl, ?_⟩
    by_cases d1 : 1 ≤ l.length
    rotate_left
    · have e : domA (.tup l) = false := by simp [domA, d1]
      rw [e] at k
      exact iteN (decide_eq_false (by omega)) ⟨_, rfl, iteT (k H (Same.refl H))⟩
    refine iteD (decide_eq_true (by omega)) ?_
    refine ⟨_, _, rfl, rfl, _, rfl, ?_⟩
    by_cases d2 : l.length ≤ 8
    rotate_left
    · have e : domA (.tup l) = false := by simp [domA, d2]
      rw [e] at k
      exact iteD (by rw [decide_eq_false (by omega)]; rfl) (k H (Same.refl H))
    refine iteN (by rw [decide_eq_true (by omega)]; rfl) ?_
    have e0 : domA (.tup l) = (l.all dnamA && decide (Rise (l.map Dv.txt))) := by simp [domA, d1, d2]
    rw [e0] at k
    refine ⟨_, rfl, a, rfl, ⟨_, hS⟩, fun D hD => ?_⟩
    refine loop_tup (xs := xs) (fun i H' => H' D = some (.lst (((l.take i).map dnamA).map V.bl)) ∧ Same H H') ⟨upd_same, upd_new hD⟩ ?_ ?_ ?_
    · rintro i H1 _ ⟨_, s1⟩
      exact SqT.same hS s1
    · rintro i v H1 hv ⟨eD, s1⟩
      obtain ⟨dv, hdv, hav⟩ := hl.get hv
      have hi : i < l.length := (List.getElem?_eq_some_iff.mp hdv).1
      have hsd := List.all_eq_true.mp hs dv (List.mem_of_getElem? hdv)
      have et : l.take (i + 1) = l.take i ++ [dv] := by rw [List.take_add_one, hdv]; rfl
      refine ⟨rfl, ?_⟩
      refine ⟨_, rfl, dv, v, rfl, hav.same s1, hsd, fun H2 s2 => ⟨_, rfl, ?_⟩⟩
      have put : ∀ b, b = dnamA dv → ∃ acc, H2 D = some (.lst acc) ∧ acc.length < sizeLine ∧ upd H2 D (.lst (acc ++ [.bl b])) D = some (.lst (((l.take (i + 1)).map dnamA).map V.bl)) ∧ Same H (upd H2 D (.lst (acc ++ [.bl b]))) := fun b hb => by
        refine ⟨_, s2 _ _ eD, by rw [List.length_map, List.length_map, List.length_take]; omega, ?_, same_upd (s1.trans s2) hD⟩
        rw [upd_same, et, List.map_append, List.map_append, hb]
        rfl
      cases dv with
      | str z =>
        rw [Av] at hav
        subst hav
        by_cases c : NameOk z
        · refine iteD (decide_eq_true c) ⟨_, rfl, rfl, ?_⟩
          exact put _ (by simp [dnamA, c])
        · refine iteN (decide_eq_false c) ?_
          exact put _ (by simp [dnamA, nameA, c])
      | _ => exact iteN rfl (put _ rfl)
    · rintro H1 ⟨eD, s1⟩
      have eD : H1 D = some (.lst ((l.map dnamA).map V.bl)) := by
        rw [eD, show l.take xs.length = l by rw [hln, List.take_length]]
      refine ⟨D, _, rfl, SqL.of eD, _, rfl, ?_⟩
      rw [all_map]
      by_cases ca : l.all dnamA = true
      rotate_left
      · have ca : l.all dnamA = false := by simpa using ca
        rw [ca] at k ⊢
        exact iteT (k H1 s1)
      rw [ca] at k ⊢
      rw [Bool.true_and] at k
      refine iteF ?_
      have hS1 := SqT.same hS s1
      have ex : xs = (l.map Dv.txt).map V.str := by
        rw [dnam_txt ca] at hl
        exact av_strs hl
      subst ex
      generalize hm : l.map Dv.txt = m at *
      have hml : m.length = l.length := by rw [← hm, List.length_map]
      refine ⟨_, rfl, _, rfl, _, rfl, a, _, rfl, hS1, fun ⟨z, _⟩ => by rw [show HT.sIx _ 0 (some 1) = _ from HT.sIx_nat _ 0 1, List.length_map] at z; omega, fun b H2 nb s2 eb => ?_⟩
      have ec : cutV (m.map V.str) (some 1) none = (m.drop 1).map V.str := by
        unfold cutV
        rw [show HT.sIx _ 0 (some 1) = _ from HT.sIx_nat _ 0 1, HT.sIx_none, List.length_map, show min 1 m.length = 1 by omega]
        rw [List.take_of_length_le (by simp), List.map_drop]
      refine ⟨a, b, _, _, rfl, .inr ⟨SqT.same hS1 s2, SqT.of eb, fun D2 hD2 => ?_⟩⟩
      rw [ec] at eb
      refine loop_zipT (n := m.length - 1) (us := m.map V.str) (vs := (m.drop 1).map V.str) (.inr ⟨by simp, by simp⟩) (fun i H' => ∃ bs : List Bool, H' D2 = some (.lst (bs.map V.bl)) ∧ Same H2 H' ∧ bs.length = i ∧ (bs.all id = true ↔ ∀ (j : Nat) (x y : Str), j < i → m[j]? = some x → (m.drop 1)[j]? = some y → x.cps.toList < y.cps.toList)) ⟨[], upd_same, upd_new hD2, rfl, ⟨fun _ j x y h => absurd h (Nat.not_lt_zero j), fun _ => rfl⟩⟩ ?_ ?_ ?_
      · rintro i H3 _ ⟨_, _, s3, _⟩
        exact ⟨SqT.same (SqT.same hS1 s2) s3, SqT.same (SqT.of eb) s3⟩
      · rintro i u v c H3 H4 hu hv ⟨bs, eD, s3, hl, ha⟩ s4 ec
        rw [List.getElem?_map] at hu hv
        obtain ⟨x, hx, rfl⟩ := Option.map_eq_some_iff.mp hu
        obtain ⟨y, hy, rfl⟩ := Option.map_eq_some_iff.mp hv
        have hi : i < m.length := (List.getElem?_eq_some_iff.mp hx).1
        refine ⟨c, _, rfl, SqT.of ec, rfl, _, _, rfl, _, _, rfl, rfl, rfl, ?_⟩
        refine ⟨_, rfl, _, rfl, x, y, rfl, rfl, ?_⟩
        refine ⟨_, s4 _ _ eD, by rw [List.length_map]; omega, bs ++ [decide (x.cps.toList < y.cps.toList)], by rw [upd_same, List.map_append]; rfl, same_upd (s3.trans s4) hD2, by rw [List.length_append, hl]; rfl, ?_⟩
        rw [List.all_append, Bool.and_eq_true, ha]
        have e1 : ([decide (x.cps.toList < y.cps.toList)].all id = true) ↔ x.cps.toList < y.cps.toList := by simp
        rw [e1]
        constructor
        · rintro ⟨h1, h2⟩ j a b hj e2 e3
          by_cases q : j = i
          · subst q
            rw [hx] at e2
            rw [hy] at e3
            cases e2
            cases e3
            exact h2
          · exact h1 j a b (by omega) e2 e3
        · exact fun h => ⟨fun j a b hj => h j a b (by omega), h i x y (by omega) hx hy⟩
      · rintro H3 ⟨bs, eD, s3, hl, ha⟩
        refine ⟨D2, bs, rfl, SqL.of eD, ?_⟩
        have e : bs.all id = decide (Rise m) := by
          rw [Bool.eq_iff_iff, ha, decide_eq_true_iff]
          constructor
          · intro h
            refine rise_of fun j x y e2 e3 => h j x y ?_ e2 e3
            have := (List.getElem?_eq_some_iff.mp e3).1
            rw [List.length_drop] at this
            exact this
          · exact fun h j x y _ e2 e3 => rise_at h e2 e3
        rw [e]
        exact k H3 (s1.trans (s2.trans s3))
theorem ok_kind {fd : FuncData} (F : FnP K "is_kind" sIsKind fd) (T : Fre mg) (G : Glb K mg) (Dis_domain : Df P w K mg base 2 "is_domain" ["value"] (spDomain K)) : FnOk P w K mg base CX0 3 (He.ga K "is_kind") fd ["value"] (spKind K) := by
  refine F.ok IsKind (fun vs H Q E h => ?_) (fun cdv A outer s H vs Q E hr h => ?_)
  · obtain ⟨d, v, rfl, _⟩ := h
    rfl
  · obtain ⟨d, v, rfl, hv, hs, k⟩ := h
    refine ⟨_, PSs.nox (pss_one (ps_ret (pe_or (pe_and (pe_callB (call_isiE K rfl) (by rfl) T.isinstance EW.boot_isinstance (pa_cons (pv 0) (pa_cons (pe_bltn (v := .ty "str") rfl T.str EW.boot_str rfl) pa_nil))) (pe_one (pe_cmpR op_eq (pv 0) (pe_glob (v := .str "time") rfl G.time.choose_spec ⟨_, rfl⟩) (nomark _)))) (pe_one (pe_df Dis_domain (hr.mono (by decide)) rfl (pa_cons (pv 0) pa_nil)))))), ?_⟩
    by_cases c : d.isS = true
    rotate_left
    · have hn : d.isS = false := by simpa using c
      have e : kindA d = domA d := by cases d <;> first | rfl | cases hn
      rw [e] at k
      refine ⟨_, rfl, v, _, .type d.cl, _, d.isS, rfl, .ty "str", hv.ty, avS d, d.isS, rfl, iteN hn ⟨_, rfl, iteN rfl ⟨_, rfl, d, v, rfl, hv, hs, k⟩⟩⟩
    cases d <;> first | cases c | skip
    rename_i z
    have hv' := hv
    rw [Av] at hv
    subst hv
    refine ⟨_, rfl, _, _, .type "str", _, true, rfl, .ty "str", .base (.str _), kit_ty kb5, true, rfl, iteT ?_⟩
    refine ⟨_, rfl, rfl, ?_⟩
    by_cases cz : z = "time"
    · refine ⟨_, rfl, iteD (by rw [cz]; rfl) ?_⟩
      have e : kindA (.str z) = true := decide_eq_true cz
      rw [e] at k
      exact k H (Same.refl H)
    · refine ⟨_, rfl, iteN (decide_eq_false fun e => cz (by cases e; rfl)) ⟨_, rfl, .str z, _, rfl, hv', hs, fun H' s1 => ?_⟩⟩
      have e : kindA (.str z) = domA (.str z) := decide_eq_false cz
      rw [e] at k
      exact k H' s1
theorem ok_timesIn {fd : FuncData} (F : FnP K "times_in" sTimesIn fd) (T : Fre mg) (G : Glb K mg) : FnOk P w K mg base CX0 1 (He.ga K "times_in") fd ["shape"] (spNamesR K tms) := by
  refine F.ok TimesIn (fun vs H Q E h => ?_) (fun cdv A outer s H vs Q E hr h => ?_)
  · obtain ⟨v, S, rfl, _⟩ := h
    rfl
  · obtain ⟨v, S, rfl, ⟨d, kvs, rfl, hd, en⟩, so, k⟩ := h
    have hbig : (64 : Nat) ≤ sizeLine := by decide
    refine ⟨_, PSs.nox (pss_one (ps_ret (pe_callB (cr_sortedS (X := _)) (by rfl) T.sorted EW.boot_sorted (pa_cons (EW.pe_lockR (pe_lc (own := [("column", 1)]) (g := gName 1) (tt := _) (by rfl) TimesIn.nd (pi_keys (pv 0)) (blkOk_by (own := [("column", 1)]) (N := NTimesIn) (sc := defScope sTimesIn) (by decide +kernel)) (fun _ _ _ _ _ => (pg_name (i := 1) TimesIn.nd rfl (Or.inl rfl))) (fun _ _ _ _ _ => (pts_one (pt_cmpR (op_eqDK K rfl hr.units) (pe_dget hr.u1 (pv 0) (pv 1) (fun _ _ => rfl)) (pe_glob (v := .str "time") rfl G.time.choose_spec ⟨_, rfl⟩) (nomark _)))) (fun _ _ _ _ _ => (pv 1)))) pa_nil)))), ?_⟩
    refine ⟨d, _, hd, fun od H0 lk => ?_⟩
    refine ⟨_, rfl, d, od, rfl, .inl ⟨kvs, lk.1, fun D hD => ?_⟩⟩
    have en2 := lk.ent en
    have hlen := Paired.length en
    refine loop_keys (fun i H' => H' D = some (.lst ((((S.take i).filter fun q => q.2.isT).map (·.1)).map V.str)) ∧ Same H0 H') ⟨upd_same, upd_new hD⟩ ?_ ?_ ?_
    · rintro i H' _ ⟨_, s1⟩
      exact s1 _ _ lk.1
    · rintro i kk v H1 hkv ⟨eD, s1⟩
      obtain ⟨z, kd, hz, rfl, _⟩ := ent_at en2 hkv
      have hi : i < S.length := (List.getElem?_eq_some_iff.mp hz).1
      have et : S.take (i + 1) = S.take i ++ [(z, kd)] := by
        rw [List.take_add_one, hz]
        rfl
      have hm : (z, kd) ∈ S := List.mem_of_getElem? hz
      obtain ⟨x, hx, kx⟩ := ent_val (en2.same s1) so.nd hm
      refine ⟨rfl, ?_⟩
      refine ⟨_, rfl, _, rfl, d, x, rfl, .inl ⟨kvs, Sum.inr z, .inr ⟨od, s1 _ _ lk.1⟩, rfl, hx.symm⟩, ?_⟩
      refine ⟨kdD kd, .str "time", kd_dp kx, .str _, kd_shaped kd (so.dom _ hm), by decide +kernel, _, rfl, ?_⟩
      have hl : (((S.take i).filter fun q => q.2.isT).map (·.1)).length < 64 := by
        have := so.all
        have h2 := List.length_filter_le (fun q : Str × Kd => q.2.isT) (S.take i)
        rw [List.length_map]
        rw [List.length_take] at h2
        omega
      rw [kd_eqv]
      cases h : kd.isT with
      | true =>
        refine iteT ⟨_, rfl, ?_⟩
        refine ⟨_, eD, by rw [List.length_map]; omega, ?_, same_upd s1 hD⟩
        rw [upd_same, et, List.filter_append, List.map_append, List.map_append, List.filter_cons_of_pos (by simp [h])]
        rfl
      | false =>
        refine iteF ⟨?_, s1⟩
        rw [et, List.filter_append, List.filter_cons_of_neg (by simp [h]), List.filter_nil, List.append_nil]
        exact eD
    · rintro H1 ⟨eD, s1⟩
      refine ⟨s1, fun H3 s3 k3 => ?_⟩
      have nD : D ≠ d := fun z => by
        rw [z, lk.1] at hD
        cases hD
      have e1 : S.take kvs.length = S := by rw [hlen, List.take_length]
      rw [e1] at eD
      have hl : (((S.filter fun q => q.2.isT).map (·.1))).length < 64 := by
        have := so.all
        have h2 := List.length_filter_le (fun q : Str × Kd => q.2.isT) S
        rw [List.length_map]
        omega
      refine ⟨D, _, rfl, SqL.of (by rw [k3 _ nD]; exact eD), hl, fun ys p pe so' hp => ?_⟩
      have ey := srt_eq pe so'
      refine k p _ (same_upd s3 ?_) ?_
      · cases q : H p with
        | none => rfl
        | some o =>
          have := s3 _ _ q
          rw [hp] at this
          cases this
      · rw [upd_same, ey]
        rfl
end
end TM
end

section
set_option maxHeartbeats 4000000
namespace TM
open PySem PySem.Spec PyProof.Rows L2 EW
abbrev NIsShape : List Str := ["value", "column", "times"]
theorem IsShape : FnScope NIsShape ["value"] (defScope sIsShape) := ⟨rfl, rfl, rfl, by decide +kernel, rfl, by decide +kernel, by decide +kernel⟩
abbrev NReqShape : List Str := ["shape"]
theorem ReqShape : FnScope NReqShape ["shape"] (defScope sReqShape) := ⟨rfl, rfl, rfl, by decide +kernel, rfl, by decide +kernel, by decide +kernel⟩
abbrev NIsValue : List Str := ["kind", "value"]
theorem IsValue : FnScope NIsValue ["kind", "value"] (defScope sIsValue) := ⟨rfl, rfl, rfl, by decide +kernel, rfl, by decide +kernel, by decide +kernel⟩
def spIsShape (K : W.Frag) : Sp := fun vs H Q _ => ∃ (v : V) (dw : Dw), vs = [v] ∧ Aw K H dw v ∧ dw.ok ∧ ∀ H', Same H H' → Q (.bl (shapeW dw)) H'
def spReqShape (K : W.Frag) : Sp := fun vs H Q E => ∃ (v : V) (dw : Dw), vs = [v] ∧ Aw K H dw v ∧ dw.ok ∧ (shapeW dw = true → ∀ H', Same H H' → Q .non H') ∧ (shapeW dw = false → Rse K H E .shape)
def spValue (K : W.Frag) : Sp := fun vs H Q _ => ∃ (kv v : V) (k : Kd) (d : Dv), vs = [kv, v] ∧ KdV K H kv k ∧ (∀ l, k = .dom l → DomOk l) ∧ Av K H d v ∧ Q (.bl (valA k d)) H
section
variable {P : Program} {w : World} {K : W.Frag} {mg : Str → Option Value} {base : Heap}
theorem ok_shape {fd : FuncData} (F : FnP K "is_shape" sIsShape fd) (T : Fre mg) (G : Glb K mg) (Dis_column_name : Df P w K mg base 2 "is_column_name" ["value"] (spCol K)) (Dis_kind : Df P w K mg base 3 "is_kind" ["value"] (spKind K)) (Dtimes_in : Df P w K mg base 1 "times_in" ["shape"] (spNamesR K tms)) :
    FnOk P w K mg base CX0 4 (He.ga K "is_shape") fd ["value"] (spIsShape K) := by
  refine F.ok IsShape (fun vs H Q E h => ?_) (fun cdv A outer s H vs Q E hr h => ?_)
  · obtain ⟨v, dw, rfl, _⟩ := h
    rfl
  · refine ⟨_, PSs.nox (pss_cons (ps_if (PW.pt (pw_or (pt_not (pt_val (pe_callB (call_isiE K rfl) (by rfl) T.isinstance EW.boot_isinstance (pa_cons (pv 0) (pa_cons (pe_bltn (v := .ty "dict") rfl T.dict EW.boot_dict rfl) pa_nil))))) (pw_or1 (pt_not (pt_val (EW.pe_lockR (pe_callB (cr_allK K rfl rfl) (by rfl) T.all EW.boot_all (pa_cons (pe_lc (own := [("column", 1)]) (g := gName 1) (tt := tYes) (by rfl) IsShape.nd (pi_keys (pv 0)) (blkOk_by (own := [("column", 1)]) (N := NIsShape) (sc := defScope sIsShape) (by decide +kernel)) (fun _ _ _ _ _ => (pg_name (i := 1) IsShape.nd rfl (Or.inl rfl))) (fun _ _ _ _ _ => pts_nil) (fun _ _ _ _ _ => (pe_and (pe_df Dis_column_name (hr.mono (by decide)) rfl (pa_cons (pv 1) pa_nil)) (pe_one (pe_df Dis_kind (hr.mono (by decide)) rfl (pa_cons (pe_dget hr.u1 (pv 0) (pv 1) (fun _ _ => rfl)) pa_nil)))))) pa_nil)))))))) (pss_one (ps_ret pe_bl)) pss_nil)
      (pss_cons (ps_set (i := 2) IsShape.nd rfl (Or.inl rfl) (pe_callB (call_lenK K rfl) (by rfl) T.len PySem.boot_len (pa_cons (pe_df Dtimes_in (hr.mono (by decide)) rfl (pa_cons (pv 0) pa_nil)) pa_nil)))
      (pss_one (ps_ret (pe_and (pe_cmpR op_le (pv 2) (pe_glob (v := .int 2) rfl G.mt.choose_spec ⟨_, rfl⟩) (nomark _)) (pe_one (pe_cmpR op_le (pe_op op_sub (pe_callB EW.call_lenDR (by rfl) T.len PySem.boot_len (pa_cons (pv 0) pa_nil)) (pv 2)) (pe_glob (v := .int 3) rfl G.md.choose_spec ⟨_, rfl⟩) (nomark _)))))))), ?_⟩
    have hbig : (64 : Nat) ≤ sizeLine := by decide
    obtain ⟨v, dw, rfl, hv, hok, k⟩ := h
    cases dw with
    | val dv =>
      obtain ⟨hv, hn⟩ := hv
      exact ⟨_, rfl, v, _, .type dv.cl, _, dv.isD, rfl, .ty "dict", hv.ty, avD dv, _, rfl, iteD (by rw [hn]; rfl) (k H (Same.refl H))⟩
    | dic es =>
    obtain ⟨d, kvs, rfl, hd, en⟩ := hv
    obtain ⟨nd, hl, hsh⟩ := hok
    have hlen := Paired.length en
    have k : ∀ H', Same H H' → Q (.bl (shapeA es)) H' := k
    refine ⟨_, rfl, _, _, .type "dict", _, true, rfl, .ty "dict", .base (.dK hd), kit_ty kb7, true, rfl, iteF ?_⟩
    refine ⟨d, _, .inl hd, fun od H0 lk => ?_⟩
    obtain ⟨lk1, lk2⟩ := lk
    have lk2 : H0 = upd H d (.frz od (.dK kvs)) := by
      rcases lk2 with ⟨q, _⟩ | ⟨_, q⟩
      · rw [hd] at q
        cases q
      · exact q
    subst lk2
    have en2 := DEnt.lock (o := od) en hd
    refine ⟨_, rfl, d, od, rfl, .inl ⟨kvs, upd_same, fun D hD => ?_⟩⟩
    refine loop_keys (fun i H' => H' D = some (.lst (((es.take i).map enA).map V.bl)) ∧ Same (upd H d (.frz od (.dK kvs))) H') ⟨upd_same, upd_new hD⟩ ?_ ?_ ?_
    · rintro i H' _ ⟨_, s1⟩
      exact s1 _ _ upd_same
    · rintro i kk v H1 hkv ⟨eD, s1⟩
      obtain ⟨dv, hdv, hav⟩ := DEnt.at_ (DEnt.same en2 s1) hkv
      have hi : i < es.length := (List.getElem?_eq_some_iff.mp hdv).1
      have hm := List.mem_of_getElem? hdv
      obtain ⟨hs1, hs2⟩ := hsh _ hm
      have et : es.take (i + 1) = es.take i ++ [(kk, dv)] := by rw [List.take_add_one, hdv]; rfl
      refine ⟨rfl, ?_⟩
      have put : ∀ (b : Bool) H3, Same H1 H3 → b = enA (kk, dv) → ∃ acc : List V, H3 D = some (.lst acc) ∧ acc.length < sizeLine ∧ upd H3 D (.lst (acc ++ [.bl b])) D = some (.lst (((es.take (i + 1)).map enA).map V.bl)) ∧ Same (upd H d (.frz od (.dK kvs))) (upd H3 D (.lst (acc ++ [.bl b]))) := fun b H3 s3 hb => by
        refine ⟨_, s3 _ _ eD, by rw [List.length_map, List.length_map, List.length_take]; omega, ?_, same_upd (s1.trans s3) hD⟩
        rw [upd_same, et, List.map_append, List.map_append, hb]
        rfl
      refine ⟨_, rfl, kk, rfl, hs2, fun H2 s2 => ⟨_, rfl, ?_⟩⟩
      by_cases c : colA kk = true
      · refine iteD c ?_
        have hval := DEnt.val en2 nd hkv
        refine ⟨_, rfl, _, rfl, d, v, rfl, .inl ⟨kvs, kk, .inr ⟨od, (s1.trans s2) _ _ upd_same⟩, rfl, hval.symm⟩, ?_⟩
        refine ⟨dv, v, rfl, hav.same s2, hs1, fun H3 s3 => put _ H3 (s2.trans s3) ?_⟩
        unfold enA
        rw [c, Bool.true_and]
      · refine iteN (by simpa using c) (put _ H2 s2 ?_)
        unfold enA
        simp [c]
    · rintro H1 ⟨eD, s1⟩
      have eD : H1 D = some (.lst ((es.map enA).map V.bl)) := by
        rw [eD, show es.take kvs.length = es by rw [hlen, List.take_length]]
      refine ⟨D, _, rfl, SqL.of eD, s1, fun H9 s2 _ => ⟨_, rfl, ?_⟩⟩
      rw [all_map]
      by_cases ca : es.all enA = true
      rotate_left
      · have ca : es.all enA = false := by simpa using ca
        have e : shapeA es = false := by unfold shapeA; rw [ca, Bool.false_and]
        rw [e] at k
        exact iteD (by rw [ca]; rfl) (k H9 s2)
      refine iteN (by rw [ca]; rfl) ?_
      have so := shp_of ca nd hl
      have tl := tms_shp ca
      have hv' : ShpR K H (.ref d) (shpOf es) := ⟨d, kvs, rfl, .inl hd, ent_shp en ca⟩
      refine ⟨_, rfl, _, _, rfl, hv'.same s2, so, fun p H2 s3 ep => ?_⟩
      refine ⟨_, _, rfl, .inl ⟨_, SqL.of ep, rfl⟩, ?_⟩
      have e : shapeA es = (decide ((es.filter timA).length ≤ 2) && decide (es.length - (es.filter timA).length ≤ 3)) := by unfold shapeA; rw [ca, Bool.true_and]
      rw [e, ← tl] at k
      have t2 : (tms (shpOf es)).length ≤ es.length := by rw [tl]; exact List.length_filter_le _ _
      refine ⟨_, rfl, _, _, rfl, rfl, _, rfl, ?_⟩
      rw [List.length_map]
      by_cases c2 : (tms (shpOf es)).length ≤ 2
      rotate_left
      · rw [decide_eq_false c2, Bool.false_and] at k
        exact iteN (decide_eq_false (by omega)) (k H2 (s2.trans s3))
      refine iteD (decide_eq_true (by omega)) ?_
      rw [decide_eq_true c2, Bool.true_and] at k
      refine ⟨_, rfl, _, kvs, rfl, rdSame (.inl hd) (s2.trans s3), _, rfl, _, _, rfl, rfl, _, _, rfl, rfl, ?_⟩
      have q : decide ((kvs.length : Int) - ((tms (shpOf es)).length : Int) ≤ 3) = decide (es.length - (tms (shpOf es)).length ≤ 3) := decide_eq_decide.mpr (by omega)
      show Q (.bl (decide ((kvs.length : Int) - ((tms (shpOf es)).length : Int) ≤ 3))) H2
      rw [q]
      exact k H2 (s2.trans s3)
theorem ok_reqShape {fd : FuncData} (F : FnP K "require_shape" sReqShape fd) (XC : Xcp K mg) (Dis_shape : Df P w K mg base 4 "is_shape" ["value"] (spIsShape K)) : FnOk P w K mg base (L2.CX P w) 5 (He.ga K "require_shape") fd ["shape"] (spReqShape K) := by
  refine F.ok ReqShape (fun vs H Q E h => ?_) (fun cdv A outer s H vs Q E hr h => ?_)
  · obtain ⟨v, dw, rfl, _⟩ := h
    rfl
  · refine ⟨_, (pss_one (ps_if (pt_not (pt_val (pe_df Dis_shape (hr.mono (by decide)) rfl (pa_cons (pv 0) pa_nil)))) (pss_one (ps_raiseM XC.shape (by exact takes_def) rfl rfl)) pss_nil)), ?_⟩
    obtain ⟨v, dw, rfl, hv, hok, k1, k2⟩ := h
    refine ⟨_, rfl, v, dw, rfl, hv, hok, fun H' s1 => ⟨_, rfl, ?_⟩⟩
    cases c : shapeW dw with
    | true => exact iteF (k1 c H' s1)
    | false => exact iteT (k2 c H' s1)
end
theorem in_strs {x : Str} {l : List Str} (h : x ∈ l) : inV (.str x) (l.map V.str) = true := by
  unfold inV
  rw [List.any_eq_true]
  exact ⟨.str x, List.mem_map.mpr ⟨x, h, rfl⟩, by simp [eqV]⟩
theorem flat_strs (l : List Str) : (l.map V.str).all flatV = true := by
  rw [List.all_eq_true]
  intro y hy
  obtain ⟨x, _, rfl⟩ := List.mem_map.mp hy
  rfl
theorem in_strs_ne {x : Str} {l : List Str} (h : x ∉ l) : inV (.str x) (l.map V.str) = false := by
  unfold inV
  rw [List.any_eq_false]
  intro v hv
  obtain ⟨y, hy, rfl⟩ := List.mem_map.mp hv
  have : ¬ x = y := fun z => h (z ▸ hy)
  simp [eqV]
  exact fun z => this z.symm
section
variable {P : Program} {w : World} {K : W.Frag} {mg : Str → Option Value} {base : Heap}
theorem ok_value {fd : FuncData} (F : FnP K "is_value_of" sIsValue fd) (T : Fre mg) (G : Glb K mg) (Dis_integer : Df P w K mg base 1 "is_integer" ["value"] (spIsInt K)) : FnOk P w K mg base CX0 2 (He.ga K "is_value_of") fd ["kind", "value"] (spValue K) := by
  refine F.ok IsValue (fun vs H Q E h => ?_) (fun cdv A outer s H vs Q E hr h => ?_)
  · obtain ⟨kv, v, k, d, rfl, _⟩ := h
    rfl
  · obtain ⟨kv, v, kd, d, rfl, hk, hd, hv, k⟩ := h
    refine ⟨_, PSs.nox (pss_one (ps_ret (pe_ifExp (pt_cmpR (op_eqDK K rfl hr.units) (pv 0) (pe_glob (v := .str "time") rfl G.time.choose_spec ⟨_, rfl⟩) (nomark _)) (pe_df Dis_integer (hr.mono (by decide)) rfl (pa_cons (pv 1) pa_nil)) (pe_and (pe_callB (call_isiE K rfl) (by rfl) T.isinstance EW.boot_isinstance (pa_cons (pv 1) (pa_cons (pe_bltn (v := .ty "str") rfl T.str EW.boot_str rfl) pa_nil))) (pe_one (pe_cmpR (EW.op_inK K rfl) (pv 1) (pv 0) rfl)))))), ?_⟩
    cases kd with
    | time =>
      have hk : kv = .str "time" := hk
      subst hk
      refine ⟨_, rfl, kdD .time, .str "time", .str _, .str _, by decide +kernel, by decide +kernel, _, rfl, iteD (by decide +kernel) ?_⟩
      exact ⟨_, rfl, isInt_av hv k⟩
    | dom l =>
      obtain ⟨a, rfl, hS⟩ := id hk
      refine ⟨_, rfl, kdD (.dom l), .str "time", kd_dp hk, .str _, kd_shaped _ hd, by decide +kernel, _, rfl, iteN rfl ?_⟩
      refine ⟨_, rfl, v, _, .type d.cl, _, d.isS, rfl, .ty "str", hv.ty, avS d, d.isS, rfl, ?_⟩
      cases d with
      | str x =>
        rw [Av] at hv
        subst hv
        refine iteT ⟨_, rfl, _, rfl, a, _, rfl, .inr hS, rfl, flat_strs l, ?_⟩
        by_cases c : x ∈ l
        · rw [in_strs c]
          rw [show valA (.dom l) (.str x) = true from decide_eq_true c] at k
          exact k
        · rw [in_strs_ne c]
          rw [show valA (.dom l) (.str x) = false from decide_eq_false c] at k
          exact k
      | _ => exact iteN rfl k
end
end TM
end

section
set_option maxHeartbeats 2000000
/-! EwLz1: next of a zip whose last tuple is still out, over iterators of any kind. -/
namespace EW
open PySem PySem.Spec PyProof.Rows
section
variable {prog : Program} {w : World} {A : Around} {E : Value → Shared → Prop} {s : Shared} {z TI TO T i1 i2 : Addr} {fp1 fp2 : List Addr} {n1 n2 i : Nat} {P1 P2 : Nat → Value → Prop} {St1 St2 : Nat → Heap → Prop} {f : Bool} {oT : Obj}
theorem held_item {Q : Option Value → Shared → Prop} (S : ZipSep2 z TI TO i1 i2 fp1 fp2) (D1 : Draws prog w A.in1 i1 fp1 n1 P1 St1) (D2 : Draws prog w A.in1 i2 fp2 n2 P2 St2)
    (hz : IsZipHeld s.heap z TI TO T f) (hT : s.heap.get? T = some oT) (hTI : IsTupOf2 s.heap TI (.ref i1) (.ref i2)) (st1 : St1 i s.heap) (st2 : St2 i s.heap) (hlt1 : i < n1) (hlt2 : i < n2)
    (hQ : ∀ x1 x2 h' tk, P1 i x1 → P2 i x2 → IsZipHeld h' z TI TO T true → St1 (i + 1) h' → St2 (i + 1) h' → IsTupOf2 h' s.heap.objs.size x1 x2 → h'.objs.size = s.heap.objs.size + 1 →
      (∀ c o, c ≠ z → c ≠ i1 → c ≠ i2 → s.heap.get? c = some o → h'.get? c = some o) → Q (some (.ref s.heap.objs.size)) { s with heap := h', toks := tk }) :
    wpAny (model prog w) A (pyNext (.ref z)) Q E s := by
  have hTy : s.TypeIs (.ref z) "zip" := ⟨_, hz, rfl⟩
  unfold pyNext
  refine wpAny_bind (wpAny_attempt (wpAny_callSpecial?_slot (name := Str.ofString "__next__") hTy F.slot_zip_next
    (wpAny_call_entry F.slot_zip_next hTy F.entry_zip_next ?_ (F.args_zip_next_1 _))))
  obtain ⟨hp, g, d, tk0, os⟩ := s
  show wpAny _ _ (field (.ref z) 2 >>= _) _ _ _
  refine wpAny_bind (wpAny_field hz rfl (x := .bool false) rfl ?_)
  show wpAny _ _ (field (.ref z) 3 >>= _) _ _ _
  refine wpAny_bind (wpAny_field hz rfl (x := .ref TI) rfl ?_)
  refine wpAny_bind (wpAny_seqItems hTI rfl ?_)
  show wpAny _ _ (Builtin.SmallTypes.ownedTupleIsFree (.ref z) >>= _) _ _ _
  refine wpAny_bind (wpAny_tupleHeld_zip hz hT fun h₁ hz₁ hs₁ => ?_)
  replace hs₁ : Heap.SameBut z hp h₁ := hs₁
  simp only [Bool.false_eq_true, if_false]
  refine wpAny_bind ?_
  rw [← Array.forIn_toList]
  simp only [List.forIn_cons, List.forIn_nil]
  refine wpAny_bind (wpAny_bind (wpAny_holding ?_))
  show wpAny _ _ (Builtin.SmallTypes.nextOf (.ref i1) >>= _) _ _ ⟨h₁, g, d, tk0, os⟩
  refine wpAny_bind (D1.item i _ _ _ hlt1 (D1.over st1 hs₁ S.zf1) fun x1 p1 tk1 hx1 sn1 hp1 => wpAny_pure ?_)
  replace hp1 : Heap.SameBut i1 h₁ p1 := hp1
  refine wpAny_pure ?_
  refine wpAny_bind (wpAny_bind (wpAny_holding ?_))
  show wpAny _ _ (Builtin.SmallTypes.nextOf (.ref i2) >>= _) _ _ ⟨p1, g, d, tk1, os⟩
  refine wpAny_bind (D2.item i _ _ _ hlt2 (D2.over (D2.over st2 hs₁ S.zf2) hp1 S.sep1_2) fun x2 p2 tk2 hx2 sn2 hp2 => wpAny_pure ?_)
  replace hp2 : Heap.SameBut i2 p1 p2 := hp2
  refine wpAny_pure (wpAny_pure ?_)
  show wpAny _ _ (newTuple [x1, x2] >>= _) _ _ ⟨p2, g, d, tk2, os⟩
  refine wpAny_bind (wpAny_newTuple ?_)
  have hsz : p2.objs.size = hp.objs.size := by rw [hp2.1, hp1.1, hs₁.1]
  have hz₃ : IsZipHeld p2 z TI TO T true := hp2.extBut _ _ S.zi2 (hp1.extBut _ _ S.zi1 hz₁)
  have hk : ∀ c o, c ≠ z → c ≠ i1 → c ≠ i2 → hp.get? c = some o → p2.get? c = some o := fun c o c1 c2 c3 e => hp2.extBut _ _ c3 (hp1.extBut _ _ c2 (hs₁.extBut _ _ c1 e))
  have sn1' : St1 (i + 1) p2 := D1.over sn1 hp2 S.sep2_1
  have hpp : IsTupOf2 (p2.push { cls := .type "tuple", data := .seq #[x1, x2] }) p2.objs.size x1 x2 := Heap.get?_push_size _ rfl
  have hz4 : (p2.push { cls := .type "tuple", data := .seq #[x1, x2] }).objs.size = p2.objs.size + 1 := Heap.size_push ..
  refine wpAny_pure ⟨_, rfl, wpAny_pure ?_⟩
  show Q (some (.ref p2.objs.size)) _
  rw [hsz] at hpp hz4 ⊢
  exact hQ x1 x2 _ tk2 hx1 hx2 (Heap.get?_push_of_some _ hz₃) (D1.frame _ _ _ sn1' fun b _ o e => Heap.get?_push_of_some _ e) (D2.frame _ _ _ sn2 fun b _ o e => Heap.get?_push_of_some _ e) hpp hz4 fun c o c1 c2 c3 e => Heap.get?_push_of_some _ (hk c o c1 c2 c3 e)
theorem held_end {Q : Option Value → Shared → Prop} (S : ZipSep2 z TI TO i1 i2 fp1 fp2) (D1 : Draws prog w A.in1 i1 fp1 n1 P1 St1) (D2 : Draws prog w A.in1 i2 fp2 n2 P2 St2)
    (hz : IsZipHeld s.heap z TI TO T f) (hT : s.heap.get? T = some oT) (hTI : IsTupOf2 s.heap TI (.ref i1) (.ref i2)) (st1 : St1 i s.heap) (st2 : St2 i s.heap) (hle1 : i ≤ n1) (hle2 : i ≤ n2) (hend : i = n1 ∨ i = n2)
    (hQ : ∀ h' tk, (∀ c o, c ≠ z → c ≠ i1 → c ≠ i2 → s.heap.get? c = some o → h'.get? c = some o) → Q none { s with heap := h', toks := tk }) : wpAny (model prog w) A (pyNext (.ref z)) Q E s := by
  have hTy : s.TypeIs (.ref z) "zip" := ⟨_, hz, rfl⟩
  have key : ∀ (h' : Heap) (tk : Nat) (e : Addr), (∀ c o, c ≠ z → c ≠ i1 → c ≠ i2 → s.heap.get? c = some o → h'.get? c = some o) → (∃ o, h'.get? e = some o ∧ o.cls = .type "StopIteration") →
      Q none { s with heap := h', toks := tk } := fun h' tk e hk he => hQ h' tk hk
  unfold pyNext
  refine wpAny_bind (wpAny_attempt (wpAny_callSpecial?_slot (name := Str.ofString "__next__") hTy F.slot_zip_next
    (wpAny_call_entry F.slot_zip_next hTy F.entry_zip_next ?_ (F.args_zip_next_1 _))))
  obtain ⟨hp, g, d, tk0, os⟩ := s
  show wpAny _ _ (field (.ref z) 2 >>= _) _ _ _
  refine wpAny_bind (wpAny_field hz rfl (x := .bool false) rfl ?_)
  show wpAny _ _ (field (.ref z) 3 >>= _) _ _ _
  refine wpAny_bind (wpAny_field hz rfl (x := .ref TI) rfl ?_)
  refine wpAny_bind (wpAny_seqItems hTI rfl ?_)
  show wpAny _ _ (Builtin.SmallTypes.ownedTupleIsFree (.ref z) >>= _) _ _ _
  refine wpAny_bind (wpAny_tupleHeld_zip hz hT fun h₁ hz₁ hs₁ => ?_)
  replace hs₁ : Heap.SameBut z hp h₁ := hs₁
  simp only [Bool.false_eq_true, if_false]
  refine wpAny_bind ?_
  rw [← Array.forIn_toList]
  simp only [List.forIn_cons, List.forIn_nil]
  refine wpAny_bind (wpAny_bind (wpAny_holding ?_))
  show wpAny _ _ (Builtin.SmallTypes.nextOf (.ref i1) >>= _) _ _ ⟨h₁, g, d, tk0, os⟩
  by_cases hlt1 : i < n1
  · refine wpAny_bind (D1.item i _ _ _ hlt1 (D1.over st1 hs₁ S.zf1) fun x1 p1 tk1 hx1 sn1 hp1 => wpAny_pure ?_)
    replace hp1 : Heap.SameBut i1 h₁ p1 := hp1
    refine wpAny_pure ?_
    have hi2 : i = n2 := by omega
    refine wpAny_bind (wpAny_bind (wpAny_holding ?_))
    show wpAny _ _ (Builtin.SmallTypes.nextOf (.ref i2) >>= _) _ _ ⟨p1, g, d, tk1, os⟩
    refine wpAny_bind (D2.done ⟨p1, g, d, tk1, os⟩ _ _ (by rw [← hi2]; exact D2.over (D2.over st2 hs₁ S.zf2) hp1 S.sep1_2) fun q e hq he => ?_)
    replace hq : Heap.ExtBut i2 p1 q := hq
    obtain ⟨oe, hoe, hce⟩ := he
    refine wpAny_bind (wpAny_isInstance (T := "StopIteration") (b := true) ⟨oe, hoe, hce⟩ isSubtype_stop ?_)
    exact wpAny_pure (hQ q tk1 fun c o c1 c2 c3 x => hq _ _ c3 (hp1.extBut _ _ c2 (hs₁.extBut _ _ c1 x)))
  · have hi1 : i = n1 := by omega
    refine wpAny_bind (D1.done ⟨h₁, g, d, tk0, os⟩ _ _ (by rw [← hi1]; exact D1.over st1 hs₁ S.zf1) fun q e hq he => ?_)
    replace hq : Heap.ExtBut i1 h₁ q := hq
    obtain ⟨oe, hoe, hce⟩ := he
    refine wpAny_bind (wpAny_isInstance (T := "StopIteration") (b := true) ⟨oe, hoe, hce⟩ isSubtype_stop ?_)
    exact wpAny_pure (hQ q tk0 fun c o c1 c2 c3 x => hq _ _ c2 (hs₁.extBut _ _ c1 x))
end
end EW
end

section
set_option maxHeartbeats 4000000
/-! EwLz2: list(zip(l, t)), l a list and t a tuple. -/
namespace EW
open PySem PySem.Spec PyProof.Rows L2
theorem zip_no_len : typeLookup (.type "zip") "__len__" = pure none := am_miss_of_fast (by decide +kernel)
theorem zip_no_hint : typeLookup (.type "zip") "__length_hint__" = pure none := am_miss_of_fast (by decide +kernel)
/-- a zip between two of its items: none is out, or the last one is -/
def LzSt (S z TI TO i1 i2 a b : Addr) (n : Nat) (h : Heap) : Prop := (IsZip h z TI TO .none ∨ ∃ T f oT, IsZipHeld h z TI TO T f ∧ h.get? T = some oT ∧ T ≠ S ∧ T ≠ z ∧ T ≠ i1 ∧ T ≠ i2) ∧ (∃ u v, IsPair h TO u v) ∧ IsPair h TI (.ref i1) (.ref i2) ∧ h.IsListIter i1 a n ∧ h.IsTupleIter i2 b n
theorem LzSt.keep {S z TI TO i1 i2 a b : Addr} {n : Nat} {h h' : Heap} (st : LzSt S z TI TO i1 i2 a b n h) (nS : S ≠ z ∧ S ≠ TI ∧ S ≠ TO ∧ S ≠ i1 ∧ S ≠ i2) (k : ∀ c o, c ≠ S → h.get? c = some o → h'.get? c = some o) : LzSt S z TI TO i1 i2 a b n h' := by
  obtain ⟨h1, ⟨u, v, hO⟩, hI, s1, s2⟩ := st
  obtain ⟨n1, n2, n3, n4, n5⟩ := nS
  refine ⟨?_, ⟨u, v, k _ _ (Ne.symm n3) hO⟩, k _ _ (Ne.symm n2) hI, s1.at fun o q => k i1 o (Ne.symm n4) q, s2.at fun o q => k i2 o (Ne.symm n5) q⟩
  rcases h1 with hz | ⟨T, f, oT, hz, hT, hTS⟩
  · exact .inl (k _ _ (Ne.symm n1) hz)
  · exact .inr ⟨T, f, oT, k _ _ (Ne.symm n1) hz, k _ _ hTS.1 hT, hTS⟩
theorem LzSt.lt {S z TI TO i1 i2 a b : Addr} {n : Nat} {h : Heap} (st : LzSt S z TI TO i1 i2 a b n h) {c : Addr} (hc : c ∈ [z, TI, TO, i1, i2]) : c < h.objs.size := by
  obtain ⟨h1, ⟨u, v, hO⟩, hI, ⟨_, s1, _⟩, ⟨_, s2, _⟩⟩ := st
  simp only [List.mem_cons, List.not_mem_nil, or_false] at hc
  rcases hc with rfl | rfl | rfl | rfl | rfl
  · rcases h1 with hz | ⟨_, _, _, hz, _⟩ <;> exact Heap.lt_size hz
  · exact Heap.lt_size hI
  · exact Heap.lt_size hO
  · exact Heap.lt_size s1
  · exact Heap.lt_size s2
theorem sqL_same {K : W.Frag} {H H' : Hp} {a : Addr} {xs : List V} (h : SqL K H a xs) (s : Same H H') : SqL K H' a xs := by
  rcases h with (h | ⟨o, h⟩) | h
  · exact .inl (.inl (s _ _ h))
  · exact .inl (.inr ⟨o, s _ _ h⟩)
  · exact .inr h
section
variable {X : Cx} {pins : List (Addr × Obj)} {σ : L2.St} {A : Around} {S z TI TO i1 i2 a b : Addr} {us vs : List V} {n : Nat} {H0 : Hp} {R : Result → Shared → Prop}
abbrev chz (z TI TO i1 i2 : Addr) : List Addr := [z, TI, TO, i1, i2]
/-- what the pairs that are made hold -/
def LzPr (us vs : List V) (H : Hp) (as : List Addr) : Prop := ∀ (j : Nat) (c : Addr), as[j]? = some c → ∃ u v, us[j]? = some u ∧ vs[j]? = some v ∧ H c = some (.tup [u, v])
theorem LzPr.same {H H' : Hp} {as : List Addr} (h : LzPr us vs H as) (s : Same H H') : LzPr us vs H' as := fun j c e => by
  obtain ⟨u, v, h1, h2, h3⟩ := h j c e
  exact ⟨u, v, h1, h2, s _ _ h3⟩
theorem LzPr.upd {H : Hp} {as : List Addr} {xs ys : List V} (h : LzPr us vs H as) (e : H S = some (.lst xs)) : LzPr us vs (L2.upd H S (.lst ys)) as := fun j c ej => by
  obtain ⟨u, v, h1, h2, h3⟩ := h j c ej
  refine ⟨u, v, h1, h2, ?_⟩
  rw [upd_ne (fun z => by rw [z, e] at h3; cases h3)]
  exact h3
theorem lz_loop (hA : A.handled = none) (D : ZipApart z TI TO i1 i2 a b) (nS : S ≠ z ∧ S ≠ TI ∧ S ≠ TO ∧ S ≠ i1 ∧ S ≠ i2) (hn1 : n ≤ us.length) (hn2 : n ≤ vs.length) (hn : n = us.length ∨ n = vs.length) (hz : n ≤ sizeLine) (res : Value)
    (qa : SqL X.K H0 a us) (qb : SqT X.K H0 b vs) (h0S : H0 S = none)
    (hR : ∀ s' H' as, Inv X pins σ H' s' → Same H0 H' → H' S = some (.lst (as.map V.ref)) → as.length = n → LzPr us vs H' as → R (.ok (.ret res)) s') :
    ∀ (k i : Nat) (s : Shared) (H : Hp) (as : List Addr), n - i = k → i ≤ n → Inv X pins σ H s → Same H0 H → (∀ c ∈ chz z TI TO i1 i2, FpOk X pins H c) → LzSt S z TI TO i1 i2 a b i s.heap →
      H S = some (.lst (as.map V.ref)) → as.length = i → LzPr us vs H as →
      codeAny (model X.prog X.w) A (.builtin "list.extend.loop" ⟨[.ref S, .ref z, res], []⟩) R s := by
  have hh : A.in1.in1.handled = none := hA
  obtain ⟨n1, n2, n3, n4, n5⟩ := id nS
  have nS' : S ∉ chz z TI TO i1 i2 := by simp [n1, n2, n3, n4, n5]
  intro k
  induction k with
  | zero =>
    intro i s H as hk hi I sm hf st hS hal hpr
    obtain rfl : i = n := by omega
    obtain ⟨is1, r1, p1, _⟩ := I.list (sqL_same qa sm)
    obtain ⟨is2, r2, p2, _⟩ := I.tuple (SqT.same qb sm)
    have l1 : us.length = is1.toArray.size := by rw [r1.length]; simp
    have l2 : vs.length = is2.toArray.size := by rw [r2.length]; simp
    refine codeAny_builtin PySem.F.entry_extend_loop ?_
    rw [Around.under_plainId PySem.F.plain_extend_loop _]
    show wpAny _ A.in1 (pyNext (.ref z) >>= _) _ _ s
    have fin : ∀ (h' : Heap) (tk : Nat), (∀ c o, c ≠ z → c ≠ TO → c ≠ i1 → c ≠ i2 → s.heap.get? c = some o → h'.get? c = some o) → R (.ok (.ret res)) { s with heap := h', toks := tk } := fun h' tk hk => by
      have I2 : Inv X pins σ H { s with heap := h', toks := tk } := I.turnedL (t' := tk) (ch := chz z TI TO i1 i2) (fun c o hb q => by
        simp only [List.mem_cons, List.not_mem_nil, or_false, not_or] at hb
        exact hk c o hb.1 hb.2.2.1 hb.2.2.2.1 hb.2.2.2.2 q) hf
      exact hR _ H as I2 sm hS hal hpr
    obtain ⟨hd, ⟨u0, v0, hO⟩, hI, s1, s2⟩ := id st
    rcases hd with hz0 | ⟨T, f, oT, hz0, hT, hTS⟩
    · exact wpAny_bind (wpAny_pyNext_zipD2_end (zx_sep D) (Draws.list hh i1 a D.l1i1 is1.toArray) (Draws.tuple hh i2 b D.l2i2 is2.toArray) hz0 hI hO ⟨s1, p1.isList⟩ ⟨s2, p2⟩ (by omega) (by omega) (by omega) fun h' tk hk => wpAny_pure (fin h' tk hk))
    · exact wpAny_bind (held_end (zx_sep D) (Draws.list hh i1 a D.l1i1 is1.toArray) (Draws.tuple hh i2 b D.l2i2 is2.toArray) hz0 hT hI ⟨s1, p1.isList⟩ ⟨s2, p2⟩ (by omega) (by omega) (by omega) fun h' tk hk => wpAny_pure (fin h' tk fun c o c1 _ c3 c4 => hk c o c1 c3 c4))
  | succ k ih =>
    intro i s H as hk hi I sm hf st hS hal hpr
    have hlt : i < n := by omega
    obtain ⟨is1, r1, p1, _⟩ := I.list (sqL_same qa sm)
    obtain ⟨is2, r2, p2, _⟩ := I.tuple (SqT.same qb sm)
    have l1 : us.length = is1.toArray.size := by rw [r1.length]; simp
    have l2 : vs.length = is2.toArray.size := by rw [r2.length]; simp
    refine codeAny_builtin PySem.F.entry_extend_loop ?_
    rw [Around.under_plainId PySem.F.plain_extend_loop _]
    show wpAny _ A.in1 (pyNext (.ref z) >>= _) _ _ s
    obtain ⟨_, its, c, rits, lits, hSo⟩ := I.lstM hS
    have zl : S < s.heap.objs.size := Heap.lt_size hSo
    have step : ∀ (x1 x2 : Value) (h' : Heap) (tk : Nat), is1.toArray[i]? = some x1 → is2.toArray[i]? = some x2 → LzSt S z TI TO i1 i2 a b (i + 1) h' → IsPair h' s.heap.objs.size x1 x2 →
        (∀ c o, c ∉ chz z TI TO i1 i2 → s.heap.get? c = some o → h'.get? c = some o) → wpAny (model X.prog X.w) A.in1 (updateSeq S (·.push (Value.ref s.heap.objs.size)) >>= fun _ => again (.builtin "list.extend.loop" ⟨[.ref S, .ref z, res], []⟩))
          (fun fin s' => match fin with | .done f => R (.ok f) s' | .again c' => c'.quiet = true ∧ codeAny (model X.prog X.w) A c' R s') (fun e s' => R (.error e) s') { s with heap := h', toks := tk } := by
      intro x1 x2 h' tk g1 g2 st' hT hk'
      obtain ⟨u, v, hu, hv⟩ : ∃ u v, us[i]? = some u ∧ vs[i]? = some v := ⟨_, _, List.getElem?_eq_getElem (by omega), List.getElem?_eq_getElem (by omega)⟩
      obtain ⟨w1, hw1, rw1⟩ := r1.get hu
      obtain ⟨w2, hw2, rw2⟩ := r2.get hv
      have e1 : x1 = w1 := by
        rw [List.getElem?_toArray, hw1] at g1
        exact (Option.some.inj g1).symm
      have e2 : x2 = w2 := by
        rw [List.getElem?_toArray, hw2] at g2
        exact (Option.some.inj g2).symm
      subst e1 e2
      have hS' := hk' S _ nS' hSo
      have np : H s.heap.objs.size = none := I.hok.fresh (Nat.le_refl _)
      have sm1 : Same H (upd H s.heap.objs.size (.tup [u, v])) := sameN np
      have new : ObjOk X.prog X.w (upd H s.heap.objs.size (.tup [u, v])) h' s.heap.objs.size (.tup [u, v]) :=
        ⟨by show 2 ≤ sizeLine; decide, [x1, x2], .cons rw1 (.cons rw2 .nil), ⟨_, hT, rfl, _, rfl⟩⟩
      have I1 : Inv X pins σ (upd H s.heap.objs.size (.tup [u, v])) { s with heap := h', toks := tk } := I.turnedNew (t' := tk) (ch := chz z TI TO i1 i2) (fun c o hb q => hk' c o hb q) hf (Nat.le_refl _) new
      have hS1 : upd H s.heap.objs.size (.tup [u, v]) S = some (.lst (as.map V.ref)) := sm1 _ _ hS
      have hsz : its.length = i := by rw [← lits, List.length_map, hal]
      have I2 : Inv X pins σ (upd (upd H s.heap.objs.size (.tup [u, v])) S (.lst ((as ++ [s.heap.objs.size]).map V.ref))) { s with heap := h'.update S (Obj.mapSeq (·.push (Value.ref s.heap.objs.size))), toks := tk } :=
        I1.lset (t' := tk) (its' := its ++ [.ref s.heap.objs.size]) hS1 hS' (by simp) (by rw [List.map_append]; exact rits.append (.cons rfl .nil)) (by rw [List.length_map, List.length_append, List.length_singleton]; omega)
      have up : ∀ c o, c ≠ S → h'.get? c = some o → (h'.update S (Obj.mapSeq (·.push (Value.ref s.heap.objs.size)))).get? c = some o := fun c o hc e => (Heap.get?_update_other _ _ (Ne.symm hc)).trans e
      refine wpAny_bind (wpAny_updateSeq hS' rfl (wpAny_pure ⟨plainId_quiet PySem.F.plain_extend_loop _, ?_⟩) (by rw [List.size_toArray, hsz]; omega) (by show (its.toArray.push _).size ≤ sizeLine + 1; rw [Array.size_push, List.size_toArray, hsz]; omega))
      refine ih (i + 1) _ _ (as ++ [s.heap.objs.size]) (by omega) hlt I2 (fun b o e => ?_) (fun c hc => ?_) (st'.keep nS up) upd_same (by rw [List.length_append, hal]; rfl) (LzPr.upd (fun j c' hj => ?_) hS1)
      · rw [upd_ne (ne_of_none e h0S)]
        exact sm1 _ _ (sm _ _ e)
      · refine ⟨?_, (hf c hc).2⟩
        rw [upd_ne (fun z => nS' (by rw [← z]; exact hc)), upd_ne (Nat.ne_of_lt (st.lt hc))]
        exact (hf c hc).1
      · rcases Nat.lt_trichotomy j as.length with q | q | q
        · rw [List.getElem?_append_left q] at hj
          obtain ⟨u', v', h1, h2, h3⟩ := hpr j c' hj
          exact ⟨u', v', h1, h2, sm1 _ _ h3⟩
        · rw [q, List.getElem?_append_right (Nat.le_refl _), Nat.sub_self] at hj
          cases hj
          rw [q, hal]
          exact ⟨u, v, hu, hv, upd_same⟩
        · rw [List.getElem?_eq_none (by rw [List.length_append]; simp; omega)] at hj
          cases hj
    obtain ⟨hd, ⟨u0, v0, hO⟩, hI, s1, s2⟩ := id st
    rcases hd with hz0 | ⟨T, f, oT, hz0, hT, hTS⟩
    · refine wpAny_bind (wpAny_pyNext_zipD2_item (zx_sep D) (Draws.list hh i1 a D.l1i1 is1.toArray) (Draws.tuple hh i2 b D.l2i2 is2.toArray) hz0 hI hO ⟨s1, p1.isList⟩ ⟨s2, p2⟩ (by omega) (by omega) fun x1 x2 h' tk g1 g2 z' O' t1 t2 hT sz hk' => ?_)
      refine step x1 x2 h' tk g1 g2 ⟨.inr ⟨_, false, _, z', hT, Nat.ne_of_gt zl, Nat.ne_of_gt (st.lt (by simp)), Nat.ne_of_gt (st.lt (by simp)), Nat.ne_of_gt (st.lt (by simp))⟩, ⟨x1, x2, O'⟩, hk' _ _ D.TIz D.TITO D.TIi1 D.TIi2 hI, t1.1, t2.1⟩ hT fun c o hc => ?_
      simp only [List.mem_cons, List.not_mem_nil, or_false, not_or] at hc
      exact hk' c o hc.1 hc.2.2.1 hc.2.2.2.1 hc.2.2.2.2
    · refine wpAny_bind (held_item (zx_sep D) (Draws.list hh i1 a D.l1i1 is1.toArray) (Draws.tuple hh i2 b D.l2i2 is2.toArray) hz0 hT hI ⟨s1, p1.isList⟩ ⟨s2, p2⟩ (by omega) (by omega) fun x1 x2 h' tk g1 g2 z' t1 t2 hT' sz hk' => ?_)
      refine step x1 x2 h' tk g1 g2 ⟨.inr ⟨T, true, oT, z', hk' _ _ hTS.2.1 hTS.2.2.1 hTS.2.2.2 hT, hTS⟩, ⟨u0, v0, hk' _ _ D.TOz D.TOi1 D.TOi2 hO⟩, hk' _ _ D.TIz D.TIi1 D.TIi2 hI, t1.1, t2.1⟩ hT' fun c o hc => ?_
      simp only [List.mem_cons, List.not_mem_nil, or_false, not_or] at hc
      exact hk' c o hc.1 hc.2.2.2.1 hc.2.2.2.2
/-- list(zip(..)), the zip at z -/
theorem lz_call {A : Around} {s : Shared} {Q : Value → Shared → Prop} {E : Value → Shared → Prop} (hA : A.handled = none) (D : ZipApart z TI TO i1 i2 a b) (hn1 : n ≤ us.length) (hn2 : n ≤ vs.length) (hn : n = us.length ∨ n = vs.length) (hz : n ≤ sizeLine)
    (I : Inv X pins σ H0 s) (qa : SqL X.K H0 a us) (qb : SqT X.K H0 b vs) (hf : ∀ c ∈ chz z TI TO i1 i2, FpOk X pins H0 c) (st : ∀ S, LzSt S z TI TO i1 i2 a b 0 s.heap) (hz0 : IsZip s.heap z TI TO .none)
    (hQ : ∀ l s' H' as, Inv X pins σ H' s' → Same H0 H' → H0 l = none → H' l = some (.lst (as.map V.ref)) → as.length = n → LzPr us vs H' as → Q (.ref l) s') : wpAny (model X.prog X.w) A (call (.type "list") [.ref z]) Q E s := by
  have hlt : ∀ c ∈ chz z TI TO i1 i2, c < s.heap.objs.size := fun c hc => (st 0).lt hc
  have nS : s.heap.objs.size ≠ z ∧ s.heap.objs.size ≠ TI ∧ s.heap.objs.size ≠ TO ∧ s.heap.objs.size ≠ i1 ∧ s.heap.objs.size ≠ i2 :=
    ⟨Nat.ne_of_gt (hlt _ (by simp)), Nat.ne_of_gt (hlt _ (by simp)), Nat.ne_of_gt (hlt _ (by simp)), Nat.ne_of_gt (hlt _ (by simp)), Nat.ne_of_gt (hlt _ (by simp))⟩
  have st0 := st s.heap.objs.size
  have nS' : s.heap.objs.size ∉ chz z TI TO i1 i2 := fun q => Nat.lt_irrefl _ (hlt _ q)
  have n0 : H0 s.heap.objs.size = none := I.fresh
  refine callType_codes (Q₁ := fun obj s₁ => obj = .ref s.heap.objs.size ∧ s₁ = { s with heap := s.heap.push { cls := .type "list", data := .seq #[] } }) F.called_list (F.typeCall_list_1 _) F.entry_list_init
    (code_list_new _ ⟨rfl, rfl⟩) fun obj s₁ h₁ => ?_
  obtain ⟨rfl, rfl⟩ := h₁
  have hS : (s.heap.push { cls := .type "list", data := .seq #[] }).get? s.heap.objs.size = some { cls := .type "list", data := .seq #[] } := Heap.get?_push_size _ rfl
  have I1 : Inv X pins σ (upd H0 s.heap.objs.size (.lst [])) { s with heap := s.heap.push { cls := .type "list", data := .seq #[] } } := I.lnew (its := []) (t' := s.toks) .nil (Nat.zero_le _)
  have sm1 : Same H0 (upd H0 s.heap.objs.size (.lst [])) := sameN n0
  refine ⟨⟨_, hS, rfl⟩, F.args_list_init_2 _ _, ?_⟩
  generalize hs1 : ({ s with heap := s.heap.push { cls := .type "list", data := .seq #[] } } : Shared) = s1 at hS I1
  have hS : s1.heap.get? s.heap.objs.size = some { cls := .type "list", data := .seq #[] } := by rw [← hs1]; exact hS
  have st1 : LzSt s.heap.objs.size z TI TO i1 i2 a b 0 s1.heap := st0.keep nS fun c o _ e => by rw [← hs1]; exact Heap.get?_push_of_some _ e
  have oth : ∀ {h : Heap} {f : Array Value → Array Value} {b o}, b ≠ s.heap.objs.size → h.get? b = some o → (h.update s.heap.objs.size (Obj.mapSeq f)).get? b = some o := fun hb e => (Heap.get?_update_other _ _ (Ne.symm hb)).trans e
  show wpAny _ A.in1.in1 (do let old ← Builtin.List.listItems (.ref s.heap.objs.size); Builtin.List.listUpdate (.ref s.heap.objs.size) (fun _ => #[]); letGo old.toList.reverse; Builtin.List.listExtendWith (.ref s.heap.objs.size) (.ref z) .none) _ _ s1
  refine wpAny_bind ?_
  unfold Builtin.List.listItems
  refine wpAny_bind (wpAny_seqItems hS rfl (wpAny_pure ?_))
  show wpAny _ A.in1.in1 (updateSeq s.heap.objs.size (fun _ => #[]) >>= fun _ => letGo (#[] : Array Value).toList.reverse >>= fun _ => Builtin.List.listExtendWith (.ref s.heap.objs.size) (.ref z) .none) _ _ s1
  refine wpAny_bind (wpAny_updateSeq hS rfl ?_)
  have hS₂ := Heap.get?_update_self (Obj.mapSeq (fun _ => (#[] : Array Value))) hS rfl
  have I2 := I1.lset (t' := s1.toks) (f := fun _ => (#[] : Array Value)) (its := []) (its' := []) (ys := []) upd_same hS rfl .nil (Nat.zero_le _)
  have st2 : LzSt s.heap.objs.size z TI TO i1 i2 a b 0 (s1.heap.update s.heap.objs.size (Obj.mapSeq (fun _ => (#[] : Array Value)))) := st1.keep nS fun c o hc e => oth hc e
  refine wpAny_bind (wpAny_letGo ?_)
  unfold Builtin.List.listExtendWith
  have hTy : ∀ {s' : Shared}, LzSt s.heap.objs.size z TI TO i1 i2 a b 0 s'.heap → s'.TypeIs (.ref z) "zip" := fun {s'} q => by
    rcases q.1 with hz | ⟨_, _, _, hz, _⟩ <;> exact ⟨_, hz, rfl⟩
  refine wpAny_bind (wpAny_typeOf (hTy st2) ?_)
  have h1 : Builtin.List.listSameRef (.ref s.heap.objs.size) (.ref z) = false := by simp [Builtin.List.listSameRef, nS.1]
  have h2 : (Value.type "zip" == Value.type "list") = false := by decide
  have h3 : (Value.type "zip" == Value.type "tuple") = false := by decide
  simp only [h1, h2, h3, Bool.or_false, Bool.false_eq_true, if_false]
  have hz2 : IsZip (s1.heap.update s.heap.objs.size (Obj.mapSeq (fun _ => (#[] : Array Value)))) z TI TO .none := oth (Ne.symm nS.1) (by rw [← hs1]; exact Heap.get?_push_of_some _ hz0)
  refine wpAny_bind (wpAny_pyIter_zip hz2 ?_)
  refine wpAny_bind (wpAny_holding ?_)
  unfold Builtin.List.listLengthHint
  refine wpAny_bind (wpAny_specialOf (hTy st2) zip_no_len ?_)
  show wpAny _ A.in1.in1 (specialOf (Value.ref z) (Str.ofString "__length_hint__") >>= _) _ _ _
  refine wpAny_bind (wpAny_specialOf (hTy st2) zip_no_hint ?_)
  refine wpAny_pure ?_
  show wpAny _ A.in1.in1 (rule "list.extend.makes-room" >>= fun _ => Builtin.List.listTouch (.ref s.heap.objs.size) >>= fun _ =>
    again (.builtin "list.extend.loop" ⟨[.ref s.heap.objs.size, .ref z, .none], []⟩)) _ _ _
  refine wpAny_bind (wpAny_rule ?_)
  refine wpAny_bind ?_
  show wpAny _ A.in1.in1 (updateSeq s.heap.objs.size (·.push .none) >>= fun _ => updateSeq s.heap.objs.size (·.pop)) _ _ _
  refine wpAny_bind (wpAny_updateSeq hS₂ rfl ?_)
  have hS₃ := Heap.get?_update_self (Obj.mapSeq (·.push Value.none)) hS₂ rfl
  have I3 := I2.lset (t' := s1.toks) (f := (·.push Value.none)) (its := []) (its' := [Value.none]) (ys := [V.non]) upd_same hS₂ rfl (.cons rfl .nil) (by show 1 ≤ sizeLine; decide)
  refine wpAny_updateSeq (hz := by seq_fits) hS₃ rfl ?_
  have I4 := I3.lset (t' := s1.toks) (f := (·.pop)) (its := [Value.none]) (its' := []) (ys := []) upd_same hS₃ rfl .nil (Nat.zero_le _)
  have up : ∀ {x y : HO}, L2.upd (L2.upd H0 s.heap.objs.size x) s.heap.objs.size y = L2.upd H0 s.heap.objs.size y := fun {x y} => by
    funext q
    by_cases hq : q = s.heap.objs.size
    · rw [hq, upd_same, upd_same]
    · rw [upd_ne hq, upd_ne hq, upd_ne hq]
  rw [up, up, up] at I4
  refine wpAny_pure ⟨plainId_quiet PySem.F.plain_extend_loop _, ?_⟩
  refine lz_loop (A := A.in1) (n := n) (R := _) hA D nS hn1 hn2 hn hz .none qa qb n0 (fun s' H' as I' sm' hS' hl hp => ?_) n 0 _ _ [] rfl (Nat.zero_le _) I4 sm1 (fun c hc => ⟨?_, (hf c hc).2⟩) ((st2.keep nS fun c o hc e => oth hc e).keep nS fun c o hc e => oth hc e) upd_same rfl (fun j c e => by simp at e)
  · exact ⟨rfl, hQ _ s' H' as I' sm' n0 hS' hl hp⟩
  · rw [upd_ne (fun q => nS' (by rw [← q]; exact hc))]
    exact (hf c hc).1
/-- list(zip(e, e2)), a list and a tuple -/
def tLz (K : W.Frag) (ta : TA) : TE := fun σ H Q => ta σ H fun xs H1 => ∃ (a b : Addr) (us vs : List V), xs = [.ref a, .ref b] ∧ SqL K H1 a us ∧ SqT K H1 b vs ∧ us.length = vs.length ∧ us.length ≤ sizeLine ∧
  ∀ (l : Addr) (as : List Addr) (H' : Hp), Same H1 H' → H1 l = none → H' l = some (.lst (as.map V.ref)) → as.length = us.length → LzPr us vs H' as → Q (.ref l) H'
theorem pe_lz {X : Cx} {e e2 : Expr} {ta : TA} {p pos p2 pos2 : Pos} (hc : X.calm = true) (hgl : Gl X "list") (hml : X.mg "list" = none) (hg : Gl X "zip") (hm : X.mg "zip" = none) (ha : PA X [e, e2] ta)
    (hs : starEach [e, e2] X.env = (false, eval e X.env) :: starEach [e2] X.env := by rfl) (hpl : (backTo pos (starEach [e2] X.env)).any (·.1) = false := by rfl)
    (na : starEach [Expr.Call (.Name "zip" p) [e, e2] [] pos] X.env = (false, eval (.Call (.Name "zip" p) [e, e2] [] pos) X.env) :: starEach [] X.env := by rfl) :
    PE X (.Call (.Name "list" p2) [.Call (.Name "zip" p) [e, e2] [] pos] [] pos2) (tLz X.K ta) := by
  refine ⟨fun pins s σ H Q I h => ?_⟩
  have inner : wpAny (model X.prog X.w) X.A (eval (.Call (.Name "zip" p) [e, e2] [] pos) X.env) (fun x s' => ∃ (a b z : Addr) (us vs : List V) (H1 : Hp), x = .ref z ∧ Inv X pins σ H1 s' ∧ SqL X.K H1 a us ∧ SqT X.K H1 b vs ∧ us.length = vs.length ∧ us.length ≤ sizeLine ∧
      (∃ TI TO i1 i2, ZipApart z TI TO i1 i2 a b ∧ (∀ S, LzSt S z TI TO i1 i2 a b 0 s'.heap) ∧ IsZip s'.heap z TI TO .none ∧ ∀ c ∈ chz z TI TO i1 i2, FpOk X pins H1 c) ∧
      ∀ (l : Addr) (as : List Addr) (H' : Hp), Same H1 H' → H1 l = none → H' l = some (.lst (as.map V.ref)) → as.length = us.length → LzPr us vs H' as → Q (.ref l) H') X.xe s := by
    refine Call_ (ld_blt I hg hm PyProof.Rows.boot_zip (PyProof.Rows.callWith_type1 (thn (ha.run pos pins s σ H _ I h) fun xs s1 ⟨ys, H1, I1, r1, q1⟩ => ?_) hs hpl))
    obtain ⟨a, b, us, vs, ex, qa, qb, hl, hlz, q⟩ := q1
    subst ex
    obtain ⟨w1, w2, rfl, rr1, rr2⟩ : ∃ w1 w2, xs = [w1, w2] ∧ RelV (.ref a) w1 ∧ RelV (.ref b) w2 := by
      cases r1 with
      | cons y t =>
        cases t with
        | cons y' t =>
          cases t
          exact ⟨_, _, rfl, y, y'⟩
    obtain rfl : w1 = Value.ref a := rr1
    obtain rfl : w2 = Value.ref b := rr2
    obtain ⟨is1, m1, p1, _⟩ := I1.list qa
    obtain ⟨is2, m2, p2, _⟩ := I1.tuple qb
    obtain ⟨o2, e2', _⟩ := id p2
    refine call_zx p1.isList (show s1.heap.IsTuple b is2.toArray from p2) fun h' st hk => ?_
    have I2 : Inv X pins σ H1 { s1 with heap := h' } := I1.kept (t' := s1.toks) hk
    obtain ⟨hz, hI, ⟨u, v, hO⟩, s1', s2'⟩ := st
    refine ⟨a, b, _, us, vs, H1, rfl, I2, qa, qb, hl, hlz, ⟨_, _, _, _, PySem.W.ktu_apart s1.heap.objs.size a b p1.lt (Heap.lt_size e2'), fun S => ⟨.inl hz, ⟨u, v, hO⟩, hI, s1', s2'⟩, hz, fun c hc => ?_⟩, q⟩
    have le : s1.heap.objs.size ≤ c := by
      simp only [List.mem_cons, List.not_mem_nil, or_false] at hc
      rcases hc with rfl | rfl | rfl | rfl | rfl <;> simp
    exact I1.fpOk le (I1.hok.fresh le)
  refine Call_ (ld_blt I hgl hml boot_list (PyProof.Rows.callWith_type1 (args_cons (thn inner fun x s1 ⟨a, b, z, us, vs, H1, ex, I1, qa, qb, hl, hlz, ⟨TI, TO, i1, i2, D, st, hz, hf⟩, q⟩ => args_nil ?_) na) na))
  subst ex
  refine lz_call (n := us.length) (I1.ok.hd hc) D (Nat.le_refl _) (Nat.le_of_eq hl) (.inl rfl) hlz I1 qa qb hf st hz fun l s' H' as I' sm hn hl' hal hp => ?_
  exact ⟨.ref l, H', I', rfl, q l as H' sm hn hl' hal hp⟩
end
end EW
end

section
set_option maxHeartbeats 4000000
/-! EwZnR: rows of a shape, put together of times and values and taken apart. -/
namespace Zr
open EW PySem
def rowV {α : Type} : List Bool → List α → List α → List α
  | [], _, _ => []
  | true :: ks, t :: ts, vs => t :: rowV ks ts vs
  | true :: ks, [], vs => rowV ks [] vs
  | false :: ks, ts, v :: vs => v :: rowV ks ts vs
  | false :: ks, ts, [] => rowV ks ts []
/-- values, times -/
def partsV {α : Type} : List Bool → List α → List α × List α
  | [], _ => ([], [])
  | _ :: _, [] => ([], [])
  | true :: ks, x :: xs => ((partsV ks xs).1, x :: (partsV ks xs).2)
  | false :: ks, x :: xs => (x :: (partsV ks xs).1, (partsV ks xs).2)
theorem row_len {α : Type} : ∀ (ks : List Bool) (ts vs : List α), ks.count true = ts.length → ks.count false = vs.length → (rowV ks ts vs).length = ks.length
  | [], _, _, _, _ => rfl
  | true :: ks, t :: ts, vs, h1, h2 => by
    have h1 : ks.count true = ts.length := by simpa using h1
    have h2 : ks.count false = vs.length := by simpa using h2
    show (rowV ks ts vs).length + 1 = ks.length + 1
    rw [row_len ks ts vs h1 h2]
  | false :: ks, ts, v :: vs, h1, h2 => by
    have h1 : ks.count true = ts.length := by simpa using h1
    have h2 : ks.count false = vs.length := by simpa using h2
    show (rowV ks ts vs).length + 1 = ks.length + 1
    rw [row_len ks ts vs h1 h2]
  | true :: ks, [], vs, h1, _ => by simp at h1
  | false :: ks, ts, [], _, h2 => by simp at h2
theorem parts_row {α : Type} : ∀ (ks : List Bool) (ts vs : List α), ks.count true = ts.length → ks.count false = vs.length → partsV ks (rowV ks ts vs) = (vs, ts)
  | [], ts, vs, h1, h2 => by
    have h1 : ts = [] := List.eq_nil_of_length_eq_zero h1.symm
    have h2 : vs = [] := List.eq_nil_of_length_eq_zero h2.symm
    rw [h1, h2]
    rfl
  | true :: ks, t :: ts, vs, h1, h2 => by
    have h1 : ks.count true = ts.length := by simpa using h1
    have h2 : ks.count false = vs.length := by simpa using h2
    show ((partsV ks (rowV ks ts vs)).1, t :: (partsV ks (rowV ks ts vs)).2) = (vs, t :: ts)
    rw [parts_row ks ts vs h1 h2]
  | false :: ks, ts, v :: vs, h1, h2 => by
    have h1 : ks.count true = ts.length := by simpa using h1
    have h2 : ks.count false = vs.length := by simpa using h2
    show (v :: (partsV ks (rowV ks ts vs)).1, (partsV ks (rowV ks ts vs)).2) = (v :: vs, ts)
    rw [parts_row ks ts vs h1 h2]
  | true :: ks, [], vs, h1, _ => by simp at h1
  | false :: ks, ts, [], _, h2 => by simp at h2
/-- the names in order, and whether they name times -/
def names (S : Shp) : List Str := srt (S.map (·.1))
def isT (S : Shp) (n : Str) : Bool := ((S.find? fun q => decide (q.1 = n)).map fun q => q.2.isT).getD false
def kinds (S : Shp) : List Bool := (names S).map (isT S)
theorem isT_of {S : Shp} {q : Str × Kd} (nd : (S.map (·.1)).Nodup) (h : q ∈ S) : isT S q.1 = q.2.isT := by
  induction S with
  | nil => cases h
  | cons y S ih =>
    rw [List.map_cons, List.nodup_cons] at nd
    unfold isT
    rw [List.find?_cons]
    rcases List.mem_cons.mp h with e | e
    · subst e
      simp
    · have ne : ¬ y.1 = q.1 := fun z => nd.1 (z ▸ List.mem_map.mpr ⟨q, e, rfl⟩)
      rw [decide_eq_false ne]
      exact ih nd.2 e
theorem kinds_count {S : Shp} (nd : (S.map (·.1)).Nodup) (b : Bool) : (kinds S).count b = (S.filter fun q => q.2.isT == b).length := by
  unfold kinds names
  rw [((srt_perm (S.map (·.1))).map (isT S)).count_eq, List.map_map]
  have e : S.map (isT S ∘ fun q => q.1) = S.map fun q => q.2.isT := List.map_congr_left fun q hq => isT_of nd hq
  rw [e, List.count_eq_length_filter, List.filter_map, List.length_map]
  rfl
theorem count_true {S : Shp} (nd : (S.map (·.1)).Nodup) : (kinds S).count true = (tms S).length := by
  rw [kinds_count nd]
  unfold tms
  rw [(srt_perm _).length_eq, List.length_map]
  congr 1
  refine List.filter_congr fun q _ => ?_
  cases q.2.isT <;> rfl
theorem count_false {S : Shp} (nd : (S.map (·.1)).Nodup) : (kinds S).count false = (dms S).length := by
  rw [kinds_count nd]
  unfold dms
  rw [(srt_perm _).length_eq, List.length_map]
  congr 1
  refine List.filter_congr fun q _ => ?_
  cases q.2.isT <;> rfl
end Zr
end

section
set_option maxHeartbeats 4000000
/-! EwRowM: the row of a shape as looked up by its names. -/
namespace Zr
open EW PySem L2
theorem row_look {α : Type} (k : Str → Bool) : ∀ (ns : List Str) (ts zs : List α), (ns.filter k).length = ts.length → (ns.filter fun n => !k n).length = zs.length → ∀ (i : Nat) (n : Str), ns[i]? = some n →
    ∃ x : α, (rowV (ns.map k) ts zs)[i]? = some x ∧ (k n = true → ∃ j : Nat, (ns.filter k)[j]? = some n ∧ ts[j]? = some x) ∧ (k n = false → ∃ j : Nat, (ns.filter fun n => !k n)[j]? = some n ∧ zs[j]? = some x)
  | [], _, _, _, _, i, n, h => by cases h
  | m :: ns, ts, zs, h1, h2, i, n, h => by
    cases hk : k m with
    | true =>
      rw [List.filter_cons_of_pos hk] at h1
      rw [List.filter_cons_of_neg (by rw [hk]; decide)] at h2
      cases ts with
      | nil => cases h1
      | cons t ts =>
        have h1 : (ns.filter k).length = ts.length := Nat.succ.inj h1
        rw [List.map_cons, hk, List.filter_cons_of_pos hk, List.filter_cons_of_neg (by rw [hk]; decide)]
        cases i with
        | zero =>
          cases h
          exact ⟨t, rfl, fun _ => ⟨0, rfl, rfl⟩, fun z => by rw [hk] at z; cases z⟩
        | succ i =>
          obtain ⟨x, e1, e2, e3⟩ := row_look k ns ts zs h1 h2 i n h
          exact ⟨x, e1, fun z => by obtain ⟨j, a, b⟩ := e2 z; exact ⟨j + 1, a, b⟩, e3⟩
    | false =>
      rw [List.filter_cons_of_neg (by rw [hk]; decide)] at h1
      rw [List.filter_cons_of_pos (by rw [hk]; rfl)] at h2
      cases zs with
      | nil => cases h2
      | cons t zs =>
        have h2 : (ns.filter fun n => !k n).length = zs.length := Nat.succ.inj h2
        rw [List.map_cons, hk, List.filter_cons_of_neg (by rw [hk]; decide), List.filter_cons_of_pos (by rw [hk]; rfl)]
        cases i with
        | zero =>
          cases h
          exact ⟨t, rfl, (fun z => by rw [hk] at z; cases z), fun _ => ⟨0, rfl, rfl⟩⟩
        | succ i =>
          obtain ⟨x, e1, e2, e3⟩ := row_look k ns ts zs h1 h2 i n h
          exact ⟨x, e1, e2, fun z => by obtain ⟨j, a, b⟩ := e3 z; exact ⟨j + 1, a, b⟩⟩
theorem srt_filter {l m : List Str} (k : Str → Bool) (p : (l.filter k).Perm m) : (srt l).filter k = srt m :=
  List.Perm.eq_of_pairwise (fun a b _ _ h h' => leS_anti h h') ((srt_pw l).filter _) (srt_pw m) ((((srt_perm l).filter k).trans p).trans (srt_perm m).symm)
theorem map_filter_isT {S : Shp} (nd : (S.map (·.1)).Nodup) (b : Bool) : (S.map (·.1)).filter (fun n => isT S n == b) = (S.filter fun q => q.2.isT == b).map (·.1) := by
  rw [List.filter_map]
  congr 1
  refine List.filter_congr fun q hq => ?_
  show (isT S q.1 == b) = _
  rw [isT_of nd hq]
theorem names_tms {S : Shp} (nd : (S.map (·.1)).Nodup) : (names S).filter (isT S) = tms S := by
  refine srt_filter _ ?_
  have e := map_filter_isT nd true
  have e1 : (S.map (·.1)).filter (isT S) = (S.map (·.1)).filter (fun n => isT S n == true) := List.filter_congr fun n _ => by cases isT S n <;> rfl
  have e2 : (S.filter fun q => q.2.isT) = S.filter fun q => q.2.isT == true := List.filter_congr fun q _ => by cases q.2.isT <;> rfl
  rw [e1, e, e2]
theorem names_dms {S : Shp} (nd : (S.map (·.1)).Nodup) : (names S).filter (fun n => !isT S n) = dms S := by
  refine srt_filter _ ?_
  have e := map_filter_isT nd false
  have e1 : (S.map (·.1)).filter (fun n => !isT S n) = (S.map (·.1)).filter (fun n => isT S n == false) := List.filter_congr fun n _ => by cases isT S n <;> rfl
  have e2 : (S.filter fun q => !q.2.isT) = S.filter fun q => q.2.isT == false := List.filter_congr fun q _ => by cases q.2.isT <;> rfl
  rw [e1, e, e2]
theorem valV_of {kvs : List (Key × V)} (nd : (kvs.map (·.1)).Nodup) {k : Key} {v : V} (h : (k, v) ∈ kvs) : valV kvs k = some v := by
  induction kvs with
  | nil => cases h
  | cons p r ih =>
    rw [List.map_cons, List.nodup_cons] at nd
    rcases List.mem_cons.mp h with e | e
    · rw [← e]
      exact valV_pos rfl
    · rw [valV_neg (fun z => nd.1 (by rw [z]; exact List.mem_map.mpr ⟨_, e, rfl⟩))]
      exact ih nd.2 e
/-- the pairs of names and parts -/
def rowK (S : Shp) (zs ts : List V) : List (Key × V) := ((dms S).map (Sum.inr : Str → Key)).zip zs ++ ((tms S).map (Sum.inr : Str → Key)).zip ts
theorem map_fst_zip {α β : Type} : ∀ {a : List α} {b : List β}, a.length = b.length → (a.zip b).map (·.1) = a
  | [], [], _ => rfl
  | x :: a, y :: b, h => by
    rw [List.zip_cons_cons, List.map_cons, map_fst_zip (Nat.succ.inj h)]
theorem rowK_nd {S : Shp} {zs ts : List V} (nd : (S.map (·.1)).Nodup) (h1 : zs.length = (dms S).length) (h2 : ts.length = (tms S).length) : ((rowK S zs ts).map (·.1)).Nodup := by
  unfold rowK
  rw [List.map_append, map_fst_zip (by rw [List.length_map, h1]), map_fst_zip (by rw [List.length_map, h2]), ← List.map_append]
  have nn : (names S).Nodup := (srt_perm _).nodup_iff.mpr nd
  refine List.pairwise_map.mpr (List.Pairwise.imp (fun {a b} ne e => ne (by cases e; rfl)) (?_ : (dms S ++ tms S).Nodup))
  rw [← names_dms nd, ← names_tms nd]
  refine List.nodup_append.mpr ⟨nn.filter _, nn.filter _, fun a ha b hb e => ?_⟩
  rw [List.mem_filter] at ha hb
  rw [e, hb.2] at ha
  exact absurd ha.2 (by decide)
theorem row_at {S : Shp} {zs ts : List V} (nd : (S.map (·.1)).Nodup) (h1 : zs.length = (dms S).length) (h2 : ts.length = (tms S).length) {i : Nat} {n : Str} (hn : (names S)[i]? = some n) :
    ∃ x, (rowV (kinds S) ts zs)[i]? = some x ∧ valV (rowK S zs ts) (Sum.inr n : Key) = some x := by
  obtain ⟨x, e1, e2, e3⟩ := row_look (isT S) (names S) ts zs (by rw [names_tms nd, h2]) (by rw [names_dms nd, h1]) i n hn
  refine ⟨x, e1, valV_of (rowK_nd nd h1 h2) ?_⟩
  unfold rowK
  rw [List.mem_append]
  cases hk : isT S n with
  | true =>
    obtain ⟨j, a, b⟩ := e2 hk
    rw [names_tms nd] at a
    refine .inr (List.mem_of_getElem? (i := j) ?_)
    rw [List.getElem?_zip_eq_some]
    exact ⟨by rw [List.getElem?_map, a]; rfl, b⟩
  | false =>
    obtain ⟨j, a, b⟩ := e3 hk
    rw [names_dms nd] at a
    refine .inl (List.mem_of_getElem? (i := j) ?_)
    rw [List.getElem?_zip_eq_some]
    exact ⟨by rw [List.getElem?_map, a]; rfl, b⟩
end Zr
end

section
set_option maxHeartbeats 4000000
/-! EwMaxD: max(l, default=d), min(l, default=d) of ints. -/
namespace EW
open PySem PySem.Spec PyProof.Rows L2
def rMaxD (K : W.Frag) : List V → List V → Hp → VK → Prop := fun vs zs H Q => ∃ (a : Addr) (ns : List Int) (dv : V), vs = [.ref a] ∧ zs = [dv] ∧ SqL K H a (ns.map V.int) ∧ (ns = [] → Q dv H) ∧ ∀ n r, ns = n :: r → Q (.int (r.foldl max n)) H
def rMinD (K : W.Frag) : List V → List V → Hp → VK → Prop := fun vs zs H Q => ∃ (a : Addr) (ns : List Int) (dv : V), vs = [.ref a] ∧ zs = [dv] ∧ SqL K H a (ns.map V.int) ∧ (ns = [] → Q dv H) ∧ ∀ n r, ns = n :: r → Q (.int (r.foldl min n)) H
theorem ints_alike (ns : List Int) : W.AlikeAll (ns.map PyData.int) := W.alikeAll_datum ns
theorem reads_int {h : Heap} {u : Value} {m : Int} {bs : List Addr} (r : Reads h u (.int m) bs) : ∃ t, u = Value.int m t := by
  cases r
  exact ⟨_, rfl⟩
section
variable {X : Cx}
theorem cr_maxD (K : W.Frag) (h : X.K = K) (hc : X.calm = true) (hu : X.A.units + 64 < cLine) : CallRK X (.builtin "max") [Str.ofString "default"] (rMaxD K) := by
  subst h
  intro pins s σ H vs zs us ws Q I r rz h
  obtain ⟨a, ns, dv, rfl, rfl, hs, q0, q⟩ := h
  obtain ⟨its, rv, hl, _⟩ := I.list hs
  rw [Vals.ref1 r]
  obtain ⟨w1, rfl, e1⟩ := vals1 rz
  obtain ⟨as, ra⟩ := Dp.readsAll I (ns.map PyData.int) (ns.map V.int) its (ints_dp ns) rv
  have hz : PyData.depthAll (ns.map PyData.int) = 0 := ints_depth ns
  refine W.max_list_default (vs := its.toArray) (I.ok.hd hc) hl.isList (by simpa using ra) (ints_alike ns) (by rw [hz]; omega) (fun e h' tk hk => ?_) fun y ys i u h' tk bs e hi hr hk => ?_
  · exact ⟨dv, H, I.kept hk, e1, q0 (List.map_eq_nil_iff.mp e)⟩
  · cases ns with
    | nil => cases e
    | cons n r0 =>
      cases e
      rw [W.maxD_ints] at hr
      obtain ⟨t, rfl⟩ := reads_int hr
      exact ⟨.int (r0.foldl max n), H, I.kept hk, ⟨t, rfl⟩, q n r0 rfl⟩
theorem cr_minD (K : W.Frag) (h : X.K = K) (hc : X.calm = true) (hu : X.A.units + 64 < cLine) : CallRK X (.builtin "min") [Str.ofString "default"] (rMinD K) := by
  subst h
  intro pins s σ H vs zs us ws Q I r rz h
  obtain ⟨a, ns, dv, rfl, rfl, hs, q0, q⟩ := h
  obtain ⟨its, rv, hl, _⟩ := I.list hs
  rw [Vals.ref1 r]
  obtain ⟨w1, rfl, e1⟩ := vals1 rz
  obtain ⟨as, ra⟩ := Dp.readsAll I (ns.map PyData.int) (ns.map V.int) its (ints_dp ns) rv
  have hz : PyData.depthAll (ns.map PyData.int) = 0 := ints_depth ns
  refine W.min_list_default (vs := its.toArray) (I.ok.hd hc) hl.isList (by simpa using ra) (ints_alike ns) (by rw [hz]; omega) (fun e h' tk hk => ?_) fun y ys i u h' tk bs e hi hr hk => ?_
  · exact ⟨dv, H, I.kept hk, e1, q0 (List.map_eq_nil_iff.mp e)⟩
  · cases ns with
    | nil => cases e
    | cons n r0 =>
      cases e
      rw [W.minD_ints] at hr
      obtain ⟨t, rfl⟩ := reads_int hr
      exact ⟨.int (r0.foldl min n), H, I.kept hk, ⟨t, rfl⟩, q n r0 rfl⟩
end
end EW
end

section
set_option maxHeartbeats 4000000
namespace EW
open PySem PySem.Spec PyProof.Rows L2
/-! ### instances with a period and runs -/
abbrev FS (p : Int) (l : Addr) : List (Str × V) := [("own_period", .int p), ("own_runs", .ref l)]
/-- the runs at l -/
def RunsAt (K : W.Frag) (H : Hp) (l : Addr) (p : Int) (zs : List Rn.Run) : Prop := ∃ ys, SqT K H l ys ∧ Rns K H ys zs ∧ Rn.Canon p zs ∧ zs.length ≤ 10000000
/-- an instance of the class at C with these runs -/
def Ob (K : W.Frag) (C : Addr) (H : Hp) (v : V) (p : Int) (zs : List Rn.Run) : Prop := ∃ a dx l, v = .ref a ∧ H a = some (.ins C dx (FS p l)) ∧ RunsAt K H l p zs ∧ 1 ≤ p ∧ p ≤ 400
section
variable {K : W.Frag} {C a l d : Addr} {H H' : Hp} {v : V} {p : Int} {zs : List Rn.Run}
theorem RunsAt.same (h : RunsAt K H l p zs) (s : Same H H') : RunsAt K H' l p zs := by
  obtain ⟨ys, h1, h2, h3⟩ := h
  exact ⟨ys, SqT.same h1 s, Rns.same h2 s, h3⟩
theorem RunsAt.kept {ys : List V} (h : RunsAt K H l p zs) (hd : H d = some (.lst ys)) (k : Kept d H H') : RunsAt K H' l p zs := by
  obtain ⟨ys, h1, h2, h3⟩ := h
  exact ⟨ys, SqT.kept h1 hd k, Rns.kept h2 hd k, h3⟩
theorem Rns.keptO {o : HO} {vs : List V} (h : Rns K H vs zs) (hd : H d = some o) (n1 : ∀ ys, o ≠ .tup ys) (n2 : ∀ b u, o ≠ .frz b u) (k : Kept d H H') : Rns K H' vs zs := Paired.mono (fun _ _ q => let ⟨a, e, t⟩ := q; ⟨a, e, SqT.keptO t hd n1 n2 k⟩) h
theorem RunsAt.keptI {x dx : Addr} {fs : List (Str × V)} (h : RunsAt K H l p zs) (hd : H x = some (.ins C dx fs)) (k : Kept x H H') : RunsAt K H' l p zs := by
  obtain ⟨ys, h1, h2, h3⟩ := h
  exact ⟨ys, SqT.keptO h1 hd (fun _ z => nomatch z) (fun _ _ z => nomatch z) k, Rns.keptO h2 hd (fun _ z => nomatch z) (fun _ _ z => nomatch z) k, h3⟩
theorem Ob.same (h : Ob K C H v p zs) (s : Same H H') : Ob K C H' v p zs := by
  obtain ⟨a, dx, l, e, h1, h2, h3⟩ := h
  exact ⟨a, dx, l, e, s _ _ h1, h2.same s, h3⟩
theorem Ob.kept {ys : List V} (h : Ob K C H v p zs) (hd : H d = some (.lst ys)) (k : Kept d H H') : Ob K C H' v p zs := by
  obtain ⟨a, dx, l, e, h1, h2, h3⟩ := h
  exact ⟨a, dx, l, e, k _ _ (fun z => by rw [z, hd] at h1; cases h1) h1, h2.kept hd k, h3⟩
theorem Ob.isC (h : Ob K C H v p zs) : IsC H C v := by
  obtain ⟨a, dx, l, e, h1, _⟩ := h
  exact ⟨a, dx, _, e, h1⟩
end
/-! ### what of the text a class must have -/
structure Kl (K : W.Frag) (mg : Str → Option Value) (x : Str) : Prop where
  g : mg x = some (.ref (He.ga K x))
  mkr : Mk K (He.ga K x) (He.ma K (He.ga K x) "__init__")
  cl : Cls K (He.ga K x)
  np : NoAttr K (He.ga K x) "own_period"
  nr : NoAttr K (He.ga K x) "own_runs"
  cls : W.findIn K (.ref (He.ga K x)) "__class__" = some (some (.builtin "object.__class__"))
  cg : W.specialIn K (.builtin "object.__class__") "__get__" = some (some (.builtin "getset_descriptor.__get__"))
  ct : W.takesIn K (.builtin "object.__class__") = some true
  ob : W.mroIn K (He.ga K x) (.type "object") = some true
  sf : W.selfFirst K (He.ga K x) = true
theorem Kl.ty {K : W.Frag} {mg : Str → Option Value} {x : Str} {H : Hp} {a dx : Addr} {fs : List (Str × V)} (k : Kl K mg x) (e : H a = some (.ins (He.ga K x) dx fs)) : TyX K H (.ref a) (.ref (He.ga K x)) := .base (.ins e k.cl k.cls k.cg k.ct k.ob)
section
variable {X : Cx} {K : W.Frag} {k : Nat} {f C : Addr} {fd : FuncData} {ps : List Str} {sp : Sp} {x : Str} {p pos : Pos} {e o : Expr} {es : List Expr} {t : TA} {ta : TE}
theorem fnR_of {P : Program} {w : World} {mg : Str → Option Value} {base : Heap} {CX : CXT} {dvs : List V} {ds : List Value} (F : FnOk P w K mg base CX k f fd ps sp) (hb : Binds K fd ps ds) (hd : Vals dvs ds) : FnR P w K mg base CX k f (fun vs H Q E => sp (vs ++ dvs) H Q E) := by
  intro A outer s H us vs Q E hr e0 r h
  have r2 := r.append hd
  have KX : K.In s.heap := e0.mod.kin.keeps fun b o e => (e0.bs b o e).1
  have hl : (us ++ ds).length = ps.length := by rw [← r2.length]; exact F.len _ _ _ _ h
  exact F.run A outer s H ⟨us, []⟩ (us ++ ds) (vs ++ dvs) Q E hr e0 (hb s us KX hl) r2 h
theorem pe_fldK (K : W.Frag) (h : X.K = K) {f : Str} (he : PE X e ta) (hb : attributeBase e f X.env (eval e X.env) = eval e X.env := by rfl) : PE X (.Attribute e f pos) (tFld K ta f) := by
  subst h
  exact pe_fld he hb
/-- cls(e, ..), cls a local name that holds the class at C -/
theorem pe_makeL {i : Nat} {E : XK} {CX : CXT} (M : Mk X.K C f) (F : FnR X.prog X.w X.K X.mg X.base CX k f sp) (hr : Room (k + 1) X.A) (hN : X.N[i]? = some x) (hv : Vis X.env.scope x) (hx : Passes CX X E) (ha : PA X (e :: es) t)
    (hdb : (x == ("__debug__" : Str)) = false := by decide) (hcd : (x == ("__classdict__" : Str)) = false := by decide)
    (he : starEach (e :: es) X.env = (false, eval e X.env) :: starEach es X.env := by rfl) (hpl : (backTo pos (starEach es X.env)).any (·.1) = false := by rfl) : PE X (.Call (.Name x p) (e :: es) [] pos) (fun σ H Q => σ[i]? = some (some (.ref C)) ∧ StX.tMakeR C sp E t σ H Q) := by
  refine ⟨fun pins s σ H Q I h => ?_⟩
  obtain ⟨hs, ht⟩ := h
  refine wpAny_Call_Name_kw (thn ((pe_var (pos := p) hN hv hdb hcd).run pins s σ H (fun v H1 => v = .ref C ∧ H1 = H) I ⟨.ref C, hs, rfl, rfl⟩) fun u s1 z => ?_)
  obtain ⟨v, H1, I1, r1, rfl, rfl⟩ := z
  cases r1
  refine W.callWith_K (h₀ := X.base) I.ok.mod.kin M.kp (thn (ha.run pos pins s1 σ _ _ I1 ht) fun us s2 z => ?_) he hpl
  obtain ⟨vs, H2, I2, r, q⟩ := z
  exact ⟨I2.kIn, StX.run_makeR M F hr hx I2 r q⟩
end
/-- the promise of an __init__ that keeps its two values -/
def spRInit (C : Addr) : Sp := fun vs H Q _ => ∃ (x dx : Addr) (u v : V), vs = [.ref x, u, v] ∧ H x = some (.ins C dx []) ∧ ∀ H', Kept x H H' → H' x = some (.ins C dx [("own_period", u), ("own_runs", v)]) → Q .non H'
section
variable {X : Cx} {k : Nat} {C f : Addr} {fd : FuncData} {ps : List Str} {x : Str} {p pos : Pos} {e : Expr} {es : List Expr} {t : TA}
theorem pe_mk2 (M : Mk X.K C f) (F : FnOk X.prog X.w X.K X.mg X.base CX0 k f fd ps (spRInit C)) (hb : Binds X.K fd ps []) (hr : Room (k + 1) X.A) (hg : Gl X x) (hm : X.mg x = some (.ref C)) (ha : PA X (e :: es) t)
    (hdb : (x == ("__debug__" : Str)) = false := by decide) (he : starEach (e :: es) X.env = (false, eval e X.env) :: starEach es X.env := by rfl) (hpl : (backTo pos (starEach es X.env)).any (·.1) = false := by rfl) :
    PE X (.Call (.Name x p) (e :: es) [] pos) (fun σ H Q => t σ H fun vs H1 => ∃ u v, vs = [u, v] ∧ ∀ (a dx : Addr) (H' : Hp), H1 a = none → Same H1 H' → H' a = some (.ins C dx [("own_period", u), ("own_runs", v)]) → Q (.ref a) H') := by
  refine PE.imp (pe_make M F hr hg hm hb .nil pass0 (PA.cl ha) hdb he hpl) fun σ H Q q => ⟨_, q, fun vs H1 z => ?_⟩
  obtain ⟨u, v, rfl, z⟩ := z
  intro a dx n1 n2 ne
  refine ⟨a, dx, u, v, rfl, upd_same, fun H' kp e => ⟨rfl, z a dx H' n1 (fun b o h => ?_) e⟩⟩
  have h1 : b ≠ a := fun z => by rw [z, n1] at h; cases h
  have h2 : b ≠ dx := fun z => by rw [z, n2] at h; cases h
  exact kp b o h1 (by rw [upd_ne h1, upd_ne h2]; exact h)
end
end EW
end

section
set_option maxHeartbeats 4000000
namespace EW
open PySem PySem.Spec PyProof.Rows L2
/-! ### methods, properties, classmethods by what of them is known -/
structure Mtk (P : Program) (w : World) (K : W.Frag) (mg : Str → Option Value) (base : Heap) (k : Nat) (C : Addr) (m : Str) (ps : List Str) (ds : List Value) (dvs : List V) (sp : Sp) : Prop where
  ex : ∃ f fd, FnOk P w K mg base CX0 k f fd ps sp ∧ Binds K fd ps ds ∧ Vals dvs ds ∧ Meth K C m f
structure Prp (P : Program) (w : World) (K : W.Frag) (mg : Str → Option Value) (base : Heap) (k : Nat) (C : Addr) (f : Str) (sp : Sp) : Prop where
  ex : ∃ p g fd, PropOf K C f p g ∧ FnOk P w K mg base CX0 k g fd ["self"] sp ∧ Binds K fd ["self"] []
structure CMt (P : Program) (w : World) (K : W.Frag) (mg : Str → Option Value) (base : Heap) (k : Nat) (C : Addr) (m : Str) (sp : Sp) : Prop where
  ex : ∃ mc p g, ClX.CRead K C mc ∧ ClX.CMet K C mc m p g ∧ FnR P w K mg base CX0 k g sp
section
variable {X : Cx} {k : Nat} {C : Addr} {m f : Str} {ps : List Str} {ds : List Value} {dvs : List V} {sp : Sp} {o e : Expr} {es : List Expr} {ta : TE} {t : TA} {pos apos : Pos}
theorem pe_mtk {pl : Sem Bool} (he : PE X o ta) (c : Cls X.K C) (M : Mtk X.prog X.w X.K X.mg X.base k C m ps ds dvs sp) (hr : Room k X.A) (ha : PA X (e :: es) t)
    (hst : starEach (e :: es) X.env = (false, eval e X.env) :: starEach es X.env := by rfl) (hpl : (backTo pos (starEach es X.env)).any (·.1) = false := by rfl)
    (ht : eval (.Call (.Attribute o m apos) (e :: es) [] pos) X.env = (do
      let ov ← eval o X.env
      standAt apos.atName
      let (f, first) ← holding [ov] (getMethod ov m pl)
      callWith pos f first (backTo pos (starEach (e :: es) X.env)) (backToKw pos (keywordEach [] X.env))) := by rfl) :
    PE X (.Call (.Attribute o m apos) (e :: es) [] pos) (tMeth C m sp dvs E0 ta t) := by
  obtain ⟨f, fd, F, b, hd, hm⟩ := M.ex
  exact pe_meth he c hm F hr b hd pass0 ha hst hpl ht
theorem pe_mtk0 {pl : Sem Bool} (he : PE X o ta) (c : Cls X.K C) (M : Mtk X.prog X.w X.K X.mg X.base k C m ps ds dvs sp) (hr : Room k X.A)
    (ht : eval (.Call (.Attribute o m apos) [] [] pos) X.env = (do
      let ov ← eval o X.env
      standAt apos.atName
      let (f, first) ← holding [ov] (getMethod ov m pl)
      callWith pos f first (backTo pos (starEach [] X.env)) (backToKw pos (keywordEach [] X.env))) := by rfl) :
    PE X (.Call (.Attribute o m apos) [] [] pos) (tMeth C m sp dvs E0 ta tNil) := by
  obtain ⟨f, fd, F, b, hd, hm⟩ := M.ex
  exact pe_meth0 he c hm F hr b hd pass0 ht
theorem pe_prp (he : PE X e ta) (c : Cls X.K C) (R : Prp X.prog X.w X.K X.mg X.base k C f sp) (hr : Room (k + 1) X.A) (hab : attributeBase e f X.env (eval e X.env) = eval e X.env := by rfl) : PE X (.Attribute e f pos) (tProp C sp [] E0 ta) := by
  obtain ⟨p, g, fd, h1, F, b⟩ := R.ex
  exact pe_prop he c h1 F hr b .nil pass0 hab
theorem pe_cmt {pl : Sem Bool} (he : PE X o ta) (M : CMt X.prog X.w X.K X.mg X.base k C m sp) (hr : Room k X.A) (ha : PA X (e :: es) t)
    (hst : starEach (e :: es) X.env = (false, eval e X.env) :: starEach es X.env := by rfl) (hpl : (backTo pos (starEach es X.env)).any (·.1) = false := by rfl)
    (ht : eval (.Call (.Attribute o m apos) (e :: es) [] pos) X.env = (do
      let ov ← eval o X.env
      standAt apos.atName
      let (f, first) ← holding [ov] (getMethod ov m pl)
      callWith pos f first (backTo pos (starEach (e :: es) X.env)) (backToKw pos (keywordEach [] X.env))) := by rfl) :
    PE X (.Call (.Attribute o m apos) (e :: es) [] pos) (ClX.tCMeth C sp E0 ta t) := by
  obtain ⟨mc, p, g, h1, h2, F⟩ := M.ex
  exact ClX.pe_cmeth he h1 h2 F hr pass0 ha hst hpl ht
/-- a list some times, sealed -/
def rRepS : R2 := fun x y H Q => ∃ l k xs, x = .ref l ∧ y = .int k ∧ H l = some (.lst xs) ∧ -(2 ^ 63) ≤ k ∧ k < 2 ^ 63 ∧ xs.length * k.toNat ≤ sizeLine ∧ New H (fun _ => .lst (List.replicate k.toNat xs).flatten) Q
theorem op_repS : OpR X (binaryOp .Mult) rRepS := by
  intro pins s σ H x y v u Q I rx ry h
  obtain ⟨l, k, xs, h1, h2, h3, h4, h5, h6, h7⟩ := h
  exact op_rep pins s σ H x y v u Q I rx ry ⟨l, k, xs, h1, h2, h3, h4, h5, h6, fun _ hp => h7.at hp⟩
/-- is True, is False -/
def tIsB (ta : TE) (b : Bool) : TE := fun σ H Q => ta σ H fun x H1 => ∃ c, x = .bl c ∧ Q (.bl (decide (c = b))) H1
theorem is_bool {M : Model} {A : Around} {E : Value → Shared → Prop} {Q : Value → Shared → Prop} {s : Shared} {c b : Bool} (h : Q (.bool (decide (c = b))) s) : wpAny M A (compareOp .Is (.bool c) (.bool b)) Q E s := by
  cases c <;> cases b <;> exact wpAny_pure h
theorem pc_isB {a : Expr} {b : Bool} {j pos'} (ha : PE X a ta) : PC X .Is a (.Constant (.bool b) j pos') (tIsB ta b) := by
  refine ⟨fun pins s σ H Q I h => ?_⟩
  refine thn (ha.run pins s σ H _ I h) fun v s1 ⟨x, H1, I1, r1, c, ex, q1⟩ => ?_
  subst ex
  cases r1
  exact Constant_bool (is_bool ⟨.bl _, H1, I1, rfl, q1⟩)
end
end EW
end

section
set_option maxHeartbeats 4000000
/-! EwZnL: items of lists or tuples; what the drawn shapes need. -/
namespace EW
open PySem PySem.Spec PyProof.Rows L2
def rIxQ (K : W.Frag) : R2 := fun x y H Q => ∃ p xs i v, x = .ref p ∧ y = .int i ∧ Sq K H p xs ∧ atI xs i = some v ∧ Q v H
theorem ix_seqK {X : Cx} (K : W.Frag) (h : X.K = K) : IxR X (rIxQ K) := by
  subst h
  intro value slice pins s σ H x y v u Q I rx ry q hs
  obtain ⟨p, xs, i, z, rfl, rfl, hq, he, q⟩ := q
  rcases hq with hq | hq
  · exact ix_list value slice pins s σ H _ _ v u Q I rx ry ⟨p, xs, i, z, rfl, rfl, hq, he, q⟩ hs
  · exact ix_tup value slice pins s σ H _ _ v u Q I rx ry ⟨p, xs, i, z, rfl, rfl, hq, he, q⟩ hs
end EW
end

section
set_option maxHeartbeats 4000000
namespace TM
open PySem PySem.Spec PyProof.Rows L2 EW
abbrev NSplitR : List Str := ["shape", "row", "pairs", "values", "column", "one"]
theorem SplitR : FnScope NSplitR ["shape", "row"] (defScope sSplitR) := ⟨rfl, rfl, rfl, by decide +kernel, rfl, by decide +kernel, by decide +kernel⟩
abbrev NIsRowIn : List Str := ["shape", "value", "column", "one"]
theorem IsRowIn : FnScope NIsRowIn ["shape", "value"] (defScope sIsRowIn) := ⟨rfl, rfl, rfl, by decide +kernel, rfl, by decide +kernel, by decide +kernel⟩
abbrev NSizeIn : List Str := ["shape", "row", "time"]
theorem SizeIn : FnScope NSizeIn ["shape", "row"] (defScope sSizeIn) := ⟨rfl, rfl, rfl, by decide +kernel, rfl, by decide +kernel, by decide +kernel⟩
abbrev NIsRow : List Str := ["shape", "value"]
theorem IsRow : FnScope NIsRow ["shape", "value"] (defScope sIsRow) := ⟨rfl, rfl, rfl, by decide +kernel, rfl, by decide +kernel, by decide +kernel⟩
abbrev NReqRow : List Str := ["shape", "row"]
theorem ReqRow : FnScope NReqRow ["shape", "row"] (defScope sReqRow) := ⟨rfl, rfl, rfl, by decide +kernel, rfl, by decide +kernel, by decide +kernel⟩
abbrev NSizeOf : List Str := ["shape", "row"]
theorem SizeOf : FnScope NSizeOf ["shape", "row"] (defScope sSizeOf) := ⟨rfl, rfl, rfl, by decide +kernel, rfl, by decide +kernel, by decide +kernel⟩
theorem parts_snoc {α : Type} : ∀ (ks : List Bool) (xs : List α) (b : Bool) (x : α), ks.length = xs.length → Zr.partsV (ks ++ [b]) (xs ++ [x]) = if b = true then ((Zr.partsV ks xs).1, (Zr.partsV ks xs).2 ++ [x]) else ((Zr.partsV ks xs).1 ++ [x], (Zr.partsV ks xs).2)
  | [], [], b, x, _ => by cases b <;> rfl
  | true :: ks, y :: xs, b, x, h => by
    have ih := parts_snoc ks xs b x (Nat.succ.inj h)
    show ((Zr.partsV (ks ++ [b]) (xs ++ [x])).1, y :: (Zr.partsV (ks ++ [b]) (xs ++ [x])).2) = _
    rw [ih]
    cases b <;> rfl
  | false :: ks, y :: xs, b, x, h => by
    have ih := parts_snoc ks xs b x (Nat.succ.inj h)
    show (y :: (Zr.partsV (ks ++ [b]) (xs ++ [x])).1, (Zr.partsV (ks ++ [b]) (xs ++ [x])).2) = _
    rw [ih]
    cases b <;> rfl
theorem parts_len {α : Type} : ∀ (ks : List Bool) (xs : List α), (Zr.partsV ks xs).1.length ≤ xs.length ∧ (Zr.partsV ks xs).2.length ≤ xs.length
  | [], _ => ⟨Nat.zero_le _, Nat.zero_le _⟩
  | _ :: _, [] => ⟨Nat.le_refl _, Nat.le_refl _⟩
  | true :: ks, x :: xs => by
    obtain ⟨h1, h2⟩ := parts_len ks xs
    exact ⟨Nat.le_succ_of_le h1, Nat.succ_le_succ h2⟩
  | false :: ks, x :: xs => by
    obtain ⟨h1, h2⟩ := parts_len ks xs
    exact ⟨Nat.succ_le_succ h1, Nat.le_succ_of_le h2⟩
theorem names_len (S : Shp) : (Zr.names S).length = S.length := by
  unfold Zr.names
  rw [(srt_perm _).length_eq, List.length_map]
theorem names_mem {S : Shp} {n : Str} (h : n ∈ Zr.names S) : ∃ k, (n, k) ∈ S := by
  unfold Zr.names at h
  rw [(srt_perm _).mem_iff] at h
  obtain ⟨⟨x, k⟩, hq, rfl⟩ := List.mem_map.mp h
  exact ⟨k, hq⟩
/-- the parts of a row: times where times belong, values of their domains elsewhere -/
def RowOk (S : Shp) (xs : List V) : Prop := xs.length = S.length ∧ ∀ (i : Nat) (n : Str) (kd : Kd) (x : V), (Zr.names S)[i]? = some n → (n, kd) ∈ S → xs[i]? = some x → (kd = .time → ∃ t, x = .int t) ∧ ∀ l, kd = .dom l → ∃ z ∈ l, x = .str z
def spSplit (K : W.Frag) : Sp := fun vs H Q _ => ∃ (u v : V) (S : Shp) (xs : List V), vs = [u, v] ∧ ShpR K H u S ∧ ShpOk S ∧ Tp K H v xs ∧ xs.length = S.length ∧
  ∀ (w : V) (a b : Addr) (H' : Hp), Same H H' → Tp K H' w [.ref a, .ref b] → SqT K H' a (Zr.partsV (Zr.kinds S) xs).1 → SqT K H' b (Zr.partsV (Zr.kinds S) xs).2 → Q w H'
/-- the greatest absolute value -/
def absMax : List Int → Int
  | [] => 0
  | t :: r => max (t.natAbs : Int) (absMax r)
def intsD (l : List Dv) : List Int := l.filterMap fun d => match d with
  | .int i => some i
  | _ => none
/-- whether a value is a row -/
def rowA (S : Shp) (d : Dv) : Bool := tupA (valsA S (Zr.names S)) d
def spRowInA (K : W.Frag) : Sp := fun vs H Q _ => ∃ (u v : V) (S : Shp) (d : Dv), vs = [u, v] ∧ ShpR K H u S ∧ ShpOk S ∧ Av K H d v ∧ ∀ H', Same H H' → Q (.bl (rowA S d)) H'
def spSize (K : W.Frag) : Sp := fun vs H Q _ => ∃ (u v : V) (S : Shp) (xs : List V) (ts : List Int), vs = [u, v] ∧ ShpR K H u S ∧ ShpOk S ∧ Tp K H v xs ∧ RowOk S xs ∧ (Zr.partsV (Zr.kinds S) xs).2 = ts.map V.int ∧ ∀ H', Same H H' → Q (.int (absMax ts)) H'
def spIsRow (K : W.Frag) : Sp := fun vs H Q E => (∃ (u v : V) (S : Shp) (d : Dv), vs = [u, v] ∧ ShpAt K H u S ∧ ShpOk S ∧ Av K H d v ∧ ∀ H', Same H H' → Q (.bl (rowA S d)) H') ∨ ∃ (u v : V) (dw : Dw), vs = [u, v] ∧ Aw K H dw u ∧ dw.ok ∧ shapeW dw = false ∧ Rse K H E .shape
def spReqRow (K : W.Frag) : Sp := fun vs H Q E => ∃ (u v : V) (S : Shp) (d : Dv), vs = [u, v] ∧ ShpAt K H u S ∧ ShpOk S ∧ Av K H d v ∧ (rowA S d = true → ∀ H', Same H H' → Q .non H') ∧ (rowA S d = false → Rse K H E .op)
def spSizeOf (K : W.Frag) : Sp := fun vs H Q E => (∃ (u v : V) (S : Shp) (d : Dv), vs = [u, v] ∧ ShpAt K H u S ∧ ShpOk S ∧ Av K H d v ∧ (rowA S d = false → Rse K H E .op) ∧ ∀ l, d = .tup l → rowA S d = true → ∀ H', Same H H' → Q (.int (absMax (intsD l))) H') ∨
  ∃ (u v : V) (dw : Dw), vs = [u, v] ∧ Aw K H dw u ∧ dw.ok ∧ shapeW dw = false ∧ Rse K H E .shape
theorem isT_kind {S : Shp} {n : Str} {k : Kd} (nd : (S.map (·.1)).Nodup) (h : (n, k) ∈ S) : Zr.isT S n = k.isT := Zr.isT_of (q := (n, k)) nd h
/-- the times of a row are its ints -/
theorem parts_ints {K : W.Frag} {H : Hp} : ∀ (ks : List Bool) (l : List Dv) (xs : List V), AvL K H l xs → ks.length = l.length → (∀ (i : Nat) (k : Bool) (d : Dv), ks[i]? = some k → l[i]? = some d → (k = true → ∃ t, d = .int t) ∧ (k = false → ∃ z, d = .str z)) → (Zr.partsV ks xs).2 = (intsD l).map V.int
  | [], [], xs, h, _, _ => by rw [AvL] at h; rw [h]; rfl
  | [], _ :: _, _, _, hl, _ => by cases hl
  | _ :: _, [], _, _, hl, _ => by cases hl
  | k :: ks, d :: l, xs, h, hl, hk => by
    rw [AvL] at h
    obtain ⟨x, ys, rfl, h1, h⟩ := h
    have ih := parts_ints ks l ys h (Nat.succ.inj hl) fun i a b e1 e2 => hk (i + 1) a b e1 e2
    obtain ⟨f1, f2⟩ := hk 0 k d rfl rfl
    cases k with
    | true =>
      obtain ⟨t, rfl⟩ := f1 rfl
      rw [Av] at h1
      subst h1
      show V.int t :: (Zr.partsV ks ys).2 = _
      rw [ih]
      rfl
    | false =>
      obtain ⟨z, rfl⟩ := f2 rfl
      show (Zr.partsV ks ys).2 = _
      rw [ih]
      rfl
theorem rowA_val {S : Shp} {l : List Dv} (h : rowA S (.tup l) = true) : l.length = S.length ∧ ∀ (i : Nat) (n : Str) (d : Dv), (Zr.names S)[i]? = some n → l[i]? = some d → valA (kindOf S n) d = true := by
  have h : valsA S (Zr.names S) l = true := h
  unfold valsA at h
  rw [Bool.and_eq_true, decide_eq_true_eq, List.all_eq_true] at h
  refine ⟨by rw [h.1, names_len], fun i n d e1 e2 => h.2 (n, d) (List.mem_of_getElem? (i := i) ?_)⟩
  rw [List.getElem?_zip_eq_some]
  exact ⟨e1, e2⟩
theorem rowA_ints {K : W.Frag} {H : Hp} {S : Shp} {l : List Dv} {xs : List V} (so : ShpOk S) (h : rowA S (.tup l) = true) (hl : AvL K H l xs) : (Zr.partsV (Zr.kinds S) xs).2 = (intsD l).map V.int ∧ RowOk S xs := by
  obtain ⟨h1, h2⟩ := rowA_val h
  have nl : (Zr.names S).length = S.length := names_len S
  refine ⟨parts_ints _ l xs hl (by unfold Zr.kinds; rw [List.length_map, nl, h1]) fun i k d e1 e2 => ?_, by rw [hl.len, h1], fun i n kd x e1 hm e2 => ?_⟩
  · unfold Zr.kinds at e1
    rw [List.getElem?_map] at e1
    obtain ⟨n, hn, rfl⟩ := Option.map_eq_some_iff.mp e1
    have hv := h2 i n d hn e2
    obtain ⟨kd, hm⟩ := names_mem (List.mem_of_getElem? hn)
    rw [kindOf_eq so.nd hm] at hv
    rw [isT_kind so.nd hm]
    cases kd with
    | time =>
      refine ⟨fun _ => ?_, fun z => by cases z⟩
      cases d <;> first | exact ⟨_, rfl⟩ | cases hv
    | dom m =>
      refine ⟨(fun z => by cases z), fun _ => ?_⟩
      cases d <;> first | exact ⟨_, rfl⟩ | cases hv
  · obtain ⟨d, hd, hav⟩ := hl.get e2
    have hv := h2 i n d e1 hd
    rw [kindOf_eq so.nd hm] at hv
    refine ⟨fun e => ?_, fun m e => ?_⟩
    · subst e
      cases d <;> first | cases hv | skip
      rename_i t
      rw [Av] at hav
      exact ⟨t, hav⟩
    · subst e
      cases d <;> first | cases hv | skip
      rename_i z
      rw [Av] at hav
      exact ⟨z, of_decide_eq_true hv, hav⟩
theorem all_take {α : Type} {f : α → Bool} {l : List α} {i : Nat} {x : α} (h : l[i]? = some x) : (l.take (i + 1)).all f = ((l.take i).all f && f x) := by
  rw [List.take_add_one, h, List.all_append]
  simp
theorem zip_at {α β : Type} {l : List α} {m : List β} {i : Nat} {a : α} {b : β} (h1 : l[i]? = some a) (h2 : m[i]? = some b) : (l.zip m)[i]? = some (a, b) := by
  rw [List.getElem?_zip_eq_some]
  exact ⟨h1, h2⟩
section
variable {P : Program} {w : World} {K : W.Frag} {mg : Str → Option Value} {base : Heap}
/-- sorted(shape) -/
theorem srtd {H : Hp} {d : Addr} {S : Shp} (hu : ShpR K H (.ref d) S) (so : ShpOk S) : ∃ (kvs : List (Key × V)) (ks : List Str), Rd H d (.dK kvs) ∧ kvs.map (·.1) = ks.map Sum.inr ∧ ks.length < 64 ∧ ∀ ys : List Str, ys.Perm ks → sortedS ys = true → ys = Zr.names S := by
  obtain ⟨d, kvs, e, hd, en⟩ := hu
  cases e
  refine ⟨kvs, S.map (·.1), hd, ?_, ?_, fun ys pe so' => srt_eq pe so'⟩
  · clear hd so
    induction en with
    | nil => rfl
    | cons h _ ih => rw [List.map_cons, List.map_cons, List.map_cons, ih, h.1]
  · rw [List.length_map]
    exact so.all
theorem ok_split {fd : FuncData} (F : FnP K "split_row" sSplitR fd) (T : Fre mg) (G : Glb K mg) : FnOk P w K mg base CX0 1 (He.ga K "split_row") fd ["shape", "row"] (spSplit K) := by
  refine F.ok SplitR (fun vs H Q E h => ?_) (fun cdv A outer s H vs Q E hr h => ?_)
  · obtain ⟨u, v, S, xs, rfl, _⟩ := h
    rfl
  · obtain ⟨u, v, S, xs, rfl, hu, so, ⟨a, rfl, hS⟩, hl, k⟩ := h
    obtain ⟨d, kvs, rfl, hd, en⟩ := id hu
    have hbig : (64 : Nat) ≤ sizeLine := by decide
    have hls := so.all
    have nl : (Zr.names S).length = S.length := names_len S
    have kl : (Zr.kinds S).length = S.length := by
      unfold Zr.kinds
      rw [List.length_map, names_len]
    refine ⟨_, PSs.nox (pss_cons (ps_cut (ps_set (i := 2) SplitR.nd rfl (Or.inl rfl) (EW.pe_lz rfl (by rfl) T.list (by rfl) T.zip (pa_cons (pe_callB (call_sortedD rfl) (by rfl) T.sorted EW.boot_sorted (pa_cons (pv 0) pa_nil)) (pa_cons (pv 1) pa_nil)))))
      (pss_cons (ps_cut (ps_set (i := 3) SplitR.nd rfl (Or.inl rfl) (pe_callTy (call_tupS K rfl) (by rfl) T.tuple EW.boot_tuple (pa_cons (pe_lc (own := [("column", 4), ("one", 5)]) (g := gTup K 2 (gCons (gName 4) (gCons (gName 5) gNil))) (tt := _) (by rfl) SplitR.nd (pi_seqK (K := K) rfl (pv 2)) (blkOk_by (own := [("column", 4), ("one", 5)]) (N := NSplitR) (sc := defScope sSplitR) (by decide +kernel)) (fun _ _ _ _ _ => (pg_tup rfl (pgs_cons (pg_name (i := 4) SplitR.nd rfl (Or.inl rfl)) (pgs_cons (pg_name (i := 5) SplitR.nd rfl (Or.inl rfl)) pgs_nil)))) (fun _ _ _ _ _ => (pts_one (pt_cmpR (op_neDK K rfl hr.units) (pe_dget hr.u1 (pv 0) (pv 4) (fun _ _ => rfl)) (pe_glob (v := .str "time") rfl G.time.choose_spec ⟨_, rfl⟩) (nomark _)))) (fun _ _ _ _ _ => (pv 5))) pa_nil))))
      (pss_one (ps_ret (pe_tupS (pa_cons (pv 3) (pa_cons (pe_callTy (call_tupS K rfl) (by rfl) T.tuple EW.boot_tuple (pa_cons (pe_lc (own := [("column", 4), ("one", 5)]) (g := gTup K 2 (gCons (gName 4) (gCons (gName 5) gNil))) (tt := _) (by rfl) SplitR.nd (pi_seqK (K := K) rfl (pv 2)) (blkOk_by (own := [("column", 4), ("one", 5)]) (N := NSplitR) (sc := defScope sSplitR) (by decide +kernel)) (fun _ _ _ _ _ => (pg_tup rfl (pgs_cons (pg_name (i := 4) SplitR.nd rfl (Or.inl rfl)) (pgs_cons (pg_name (i := 5) SplitR.nd rfl (Or.inl rfl)) pgs_nil)))) (fun _ _ _ _ _ => (pts_one (pt_cmpR (op_eqDK K rfl hr.units) (pe_dget hr.u1 (pv 0) (pv 4) (fun _ _ => rfl)) (pe_glob (v := .str "time") rfl G.time.choose_spec ⟨_, rfl⟩) (nomark _)))) (fun _ _ _ _ _ => (pv 5))) pa_nil)) pa_nil))))))), ?_⟩
    refine ⟨fun σ' H' => ∃ (l : Addr) (as : List Addr), σ' = [some (.ref d), some (.ref a), some (.ref l), none, none, none] ∧ Same H H' ∧ H' l = some (.lst (as.map V.ref)) ∧ as.length = S.length ∧ LzPr ((Zr.names S).map V.str) xs H' as, ?_, ?_⟩
    · obtain ⟨kv1, ks1, f1, f2, f3, f4⟩ := srtd hu so
      refine ⟨_, rfl, nil_ ⟨d, kv1, ks1, rfl, f1, f2, f3, fun ys p pe so' np => ?_⟩⟩
      rw [f4 ys pe so']
      have s1 : Same H (upd H p (.lst ((Zr.names S).map V.str))) := sameN np
      have e1 : upd H p (.lst ((Zr.names S).map V.str)) p = some (.lst ((Zr.names S).map V.str)) := upd_same
      generalize upd H p (.lst ((Zr.names S).map V.str)) = H1 at s1 e1
      refine ⟨_, rfl, p, a, _, _, rfl, SqL.of e1, SqT.same hS s1, by rw [List.length_map, nl, hl], by rw [List.length_map]; omega, fun l as H2 s2 n2 e2 hal hp => ?_⟩
      exact ⟨l, as, rfl, s1.trans s2, e2, by rw [hal, List.length_map, nl], hp⟩
    rintro σ' H1 ⟨l, as, rfl, s1, e1, hal, hp⟩
    have part : ∀ (i : Nat) (c : Addr), as[i]? = some c → ∃ n kd y, (Zr.names S)[i]? = some n ∧ (n, kd) ∈ S ∧ xs[i]? = some y ∧ H1 c = some (.tup [.str n, y]) ∧ (Zr.kinds S).take (i + 1) = (Zr.kinds S).take i ++ [kd.isT] ∧ xs.take (i + 1) = xs.take i ++ [y] ∧ i < S.length := fun i c hc => by
      obtain ⟨x, y, hx, hy, ec⟩ := hp i c hc
      rw [List.getElem?_map] at hx
      obtain ⟨n, hn, rfl⟩ := Option.map_eq_some_iff.mp hx
      obtain ⟨kd, hm⟩ := names_mem (List.mem_of_getElem? hn)
      have hi : i < S.length := by
        rw [← hl]
        exact (List.getElem?_eq_some_iff.mp hy).1
      refine ⟨n, kd, y, hn, hm, hy, ec, ?_, ?_, hi⟩
      · have hk : (Zr.kinds S)[i]? = some kd.isT := by
          unfold Zr.kinds
          rw [List.getElem?_map, hn]
          exact congrArg some (Zr.isT_of so.nd hm)
        rw [List.take_add_one, hk]
        rfl
      · rw [List.take_add_one, hy]
        rfl
    refine ⟨fun σ' H' => ∃ va : Addr, σ' = [some (.ref d), some (.ref a), some (.ref l), some (.ref va), none, none] ∧ Same H1 H' ∧ SqT K H' va (Zr.partsV (Zr.kinds S) xs).1, ?_, ?_⟩
    · refine Or.inl ⟨_, rfl, l, rfl, ⟨_, SqL.of e1⟩, fun D hD => ?_⟩
      refine loop_list (xs := as.map V.ref) (fun i H' => H' D = some (.lst (Zr.partsV ((Zr.kinds S).take i) (xs.take i)).1) ∧ Same H1 H') ⟨?_, upd_new hD⟩ ?_ ?_ ?_
      · rw [upd_same]
        rfl
      · rintro i H' _ ⟨_, s2⟩
        exact SqL.of (s2 _ _ e1)
      · rintro i xc H2 hc ⟨eD, s2⟩
        rw [List.getElem?_map] at hc
        obtain ⟨c, hc', rfl⟩ := Option.map_eq_some_iff.mp hc
        obtain ⟨n, kd, y, hn, hm, hy, ec, ek, ex, hi⟩ := part i c hc'
        have et2 := parts_snoc ((Zr.kinds S).take i) (xs.take i) kd.isT y (by rw [List.length_take, List.length_take, kl, hl])
        obtain ⟨pl1, pl2⟩ := parts_len ((Zr.kinds S).take i) (xs.take i)
        rw [List.length_take] at pl1 pl2
        obtain ⟨d', kvs', e', hd', en'⟩ := hu.same (s1.trans s2)
        cases e'
        obtain ⟨q, hq, kq⟩ := ent_val en' so.nd hm
        refine ⟨c, _, rfl, SqT.of (s2 _ _ ec), rfl, _, _, rfl, _, _, rfl, rfl, rfl, ?_⟩
        refine ⟨_, rfl, _, rfl, d, q, rfl, .inl ⟨kvs', Sum.inr n, hd', rfl, hq.symm⟩, ?_⟩
        refine ⟨kdD kd, .str "time", kd_dp kq, .str _, kd_shaped kd (so.dom _ hm), by decide +kernel, _, rfl, ?_⟩
        rw [kd_eqv, ek, ex, et2]
        cases h : kd.isT with
        | true => exact iteF ⟨eD, s2⟩
        | false =>
          refine iteT ⟨_, rfl, ?_⟩
          exact ⟨_, eD, by omega, upd_same, same_upd s2 hD⟩
      · rintro H2 ⟨eD, s2⟩
        rw [List.length_map, hal, List.take_of_length_le (by omega), List.take_of_length_le (by omega)] at eD
        exact nil_ ⟨D, _, rfl, SqL.of eD, fun va H3 n3 s3 e3 => ⟨va, rfl, s2.trans s3, SqT.of e3⟩⟩
    rintro σ' H2 ⟨va, rfl, s2, e2⟩
    refine ⟨_, rfl, Or.inl ⟨_, rfl, l, rfl, ⟨_, SqL.of (s2 _ _ e1)⟩, fun D hD => ?_⟩⟩
    refine loop_list (xs := as.map V.ref) (fun i H' => H' D = some (.lst (Zr.partsV ((Zr.kinds S).take i) (xs.take i)).2) ∧ Same H2 H') ⟨?_, upd_new hD⟩ ?_ ?_ ?_
    · rw [upd_same]
      rfl
    · rintro i H' _ ⟨_, s3⟩
      exact SqL.of (s3 _ _ (s2 _ _ e1))
    · rintro i xc H3 hc ⟨eD, s3⟩
      rw [List.getElem?_map] at hc
      obtain ⟨c, hc', rfl⟩ := Option.map_eq_some_iff.mp hc
      obtain ⟨n, kd, y, hn, hm, hy, ec, ek, ex, hi⟩ := part i c hc'
      have et2 := parts_snoc ((Zr.kinds S).take i) (xs.take i) kd.isT y (by rw [List.length_take, List.length_take, kl, hl])
      obtain ⟨pl1, pl2⟩ := parts_len ((Zr.kinds S).take i) (xs.take i)
      rw [List.length_take] at pl1 pl2
      obtain ⟨d', kvs', e', hd', en'⟩ := hu.same (s1.trans (s2.trans s3))
      cases e'
      obtain ⟨q, hq, kq⟩ := ent_val en' so.nd hm
      refine ⟨c, _, rfl, SqT.of (s3 _ _ (s2 _ _ ec)), rfl, _, _, rfl, _, _, rfl, rfl, rfl, ?_⟩
      refine ⟨_, rfl, _, rfl, d, q, rfl, .inl ⟨kvs', Sum.inr n, hd', rfl, hq.symm⟩, ?_⟩
      refine ⟨kdD kd, .str "time", kd_dp kq, .str _, kd_shaped kd (so.dom _ hm), by decide +kernel, _, rfl, ?_⟩
      rw [kd_eqv, ek, ex, et2]
      cases h : kd.isT with
      | false => exact iteF ⟨eD, s3⟩
      | true =>
        refine iteT ⟨_, rfl, ?_⟩
        exact ⟨_, eD, by omega, upd_same, same_upd s3 hD⟩
    · rintro H3 ⟨eD, s3⟩
      rw [List.length_map, hal, List.take_of_length_le (by omega), List.take_of_length_le (by omega)] at eD
      refine nil_ ⟨D, _, rfl, SqL.of eD, fun ta H4 n4 s4 e4 => nil_ ⟨(by show 2 ≤ sizeLine; decide), fun q H5 n5 s5 e5 => ?_⟩⟩
      exact k _ va ta H5 (s1.trans (s2.trans (s3.trans (s4.trans s5)))) (Tp.of e5) (SqT.same e2 (s3.trans (s4.trans s5))) (SqT.of (s5 _ _ e4))
theorem fold_max : ∀ (r : List Int) (a : Int), (r.map fun t : Int => if t < 0 then -t else t).foldl max a = max a (absMax r) ∨ (a < 0)
  | [], a => by
    by_cases h : a < 0
    · exact .inr h
    · refine .inl ?_
      show a = max a 0
      omega
  | t :: r, a => by
    rcases fold_max r (max a (if t < 0 then -t else t)) with h | h
    · refine .inl ?_
      rw [List.map_cons, List.foldl_cons, h]
      show _ = max a (max (t.natAbs : Int) (absMax r))
      split <;> omega
    · exfalso
      revert h
      split <;> omega
theorem ok_sizeIn {fd : FuncData} (F : FnP K "size_in" sSizeIn fd) (T : Fre mg) (Dsplit_row : Df P w K mg base 1 "split_row" ["shape", "row"] (spSplit K)) : FnOk P w K mg base CX0 2 (He.ga K "size_in") fd ["shape", "row"] (spSize K) := by
  refine F.ok SizeIn (fun vs H Q E h => ?_) (fun cdv A outer s H vs Q E hr h => ?_)
  · obtain ⟨u, v, S, xs, ts, rfl, _⟩ := h
    rfl
  · obtain ⟨u, v, S, xs, ts, rfl, hu, so, hv, ⟨hl, ho⟩, hts, k⟩ := h
    have hbig : (128 : Nat) ≤ sizeLine := by decide
    have hls := so.all
    have hpl : ts.length ≤ 64 := by
      have q := (parts_len (Zr.kinds S) xs).2
      rw [hts, List.length_map] at q
      omega
    refine ⟨_, PSs.nox (pss_one (ps_ret (pe_callBK (EW.cr_maxD K rfl rfl hr.units) (by rfl) T.max EW.boot_max (pa_cons (pe_lc (own := [("time", 2)]) (g := gName 2) (tt := tYes) (by rfl) SizeIn.nd (pi_tupK (K := K) rfl (pe_ix (ix_tupK K rfl) (pe_df Dsplit_row (hr.mono (by decide)) rfl (pa_cons (pv 0) (pa_cons (pv 1) pa_nil))) pe_int (fun _ _ => rfl))) (blkOk_by (own := [("time", 2)]) (N := NSizeIn) (sc := defScope sSizeIn) (by decide +kernel)) (fun _ _ _ _ _ => (pg_name (i := 2) SizeIn.nd rfl (Or.inl rfl))) (fun _ _ _ _ _ => pts_nil) (fun _ _ _ _ _ => (pe_callB call_abs (by rfl) T.abs EW.boot_abs (pa_cons (pv 2) pa_nil)))) pa_nil) (pk_cons pe_int pk_nil)))), ?_⟩
    refine ⟨_, rfl, _, rfl, nil_ ⟨u, v, S, xs, rfl, hu, so, hv, hl, fun w va ta H1 s1 hw e1 e2 => ?_⟩⟩
    obtain ⟨wa, rfl, hw⟩ := hw
    rw [hts] at e2
    refine ⟨wa, _, _, _, rfl, rfl, hw, rfl, ta, rfl, ⟨_, e2⟩, fun D hD => ?_⟩
    refine loop_tup (xs := ts.map V.int) (fun i H' => H' D = some (.lst (((ts.take i).map fun t : Int => if t < 0 then -t else t).map V.int)) ∧ Same H1 H') ⟨?_, upd_new hD⟩ ?_ ?_ ?_
    · rw [upd_same]
      rfl
    · rintro i H' _ ⟨_, s3⟩
      exact SqT.same e2 s3
    · rintro i xn H3 hx ⟨eD, s3⟩
      rw [List.getElem?_map] at hx
      obtain ⟨t, ht, rfl⟩ := Option.map_eq_some_iff.mp hx
      refine ⟨rfl, ?_⟩
      refine ⟨_, rfl, t, rfl, ?_⟩
      exact ⟨_, eD, by simp only [List.length_map, List.length_take]; omega, by rw [upd_same, List.take_add_one, ht]; simp, same_upd s3 hD⟩
    · rintro H3 ⟨eD, s3⟩
      rw [List.length_map, List.take_length] at eD
      have s13 := s1.trans s3
      refine nil_ ⟨D, _, .int 0, rfl, rfl, SqL.of eD, fun e => ?_, fun n r e => ?_⟩
      · cases ts with
        | nil => exact k H3 s13
        | cons t r => cases e
      · cases ts with
        | nil => cases e
        | cons t r' =>
          cases e
          have q := k H3 s13
          rcases fold_max r' (if t < 0 then -t else t) with h | h
          · rw [h]
            have e0 : (if t < 0 then -t else t) = (t.natAbs : Int) := by split <;> omega
            rw [e0]
            exact q
          · exfalso
            revert h
            split <;> omega
theorem ok_rowIn {fd : FuncData} (F : FnP K "is_row_in" sIsRowIn fd) (T : Fre mg) (Dis_value_of : Df P w K mg base 2 "is_value_of" ["kind", "value"] (spValue K)) : FnOk P w K mg base CX0 3 (He.ga K "is_row_in") fd ["shape", "value"] (spRowInA K) := by
  refine F.ok IsRowIn (fun vs H Q E h => ?_) (fun cdv A outer s H vs Q E hr h => ?_)
  · obtain ⟨u, v, S, d, rfl, _⟩ := h
    rfl
  · obtain ⟨u, v, S, dv, rfl, hu, so, hv, k⟩ := h
    obtain ⟨d, kvs, rfl, hd, en⟩ := id hu
    have hlen := Paired.length en
    have hbig : (64 : Nat) ≤ sizeLine := by decide
    have hls := so.all
    have nl : (Zr.names S).length = S.length := names_len S
    refine ⟨_, PSs.nox (pss_cons (ps_cut (ps_if (PW.pt (pw_or (pt_not (pt_val (pe_callB (call_isiE K rfl) (by rfl) T.isinstance EW.boot_isinstance (pa_cons (pv 1) (pa_cons (pe_bltn (v := .ty "tuple") rfl T.tuple EW.boot_tuple rfl) pa_nil))))) (pw_or1 (pt_cmpR op_ne (pe_callB (call_lenK K rfl) (by rfl) T.len PySem.boot_len (pa_cons (pv 1) pa_nil)) (pe_callB EW.call_lenDR (by rfl) T.len PySem.boot_len (pa_cons (pv 0) pa_nil)) (nomark _))))) (pss_one (ps_ret pe_bl)) pss_nil))
      (pss_one (ps_ret (pe_callB (cr_allK K rfl rfl) (by rfl) T.all EW.boot_all (pa_cons (pe_lc (own := [("column", 2), ("one", 3)]) (g := gTup K 2 (gCons (gName 2) (gCons (gName 3) gNil))) (tt := tYes) (by rfl) IsRowIn.nd (EW.pi_zipX (by rfl) T.zip (pa_cons (pe_callB (call_sortedD rfl) (by rfl) T.sorted EW.boot_sorted (pa_cons (pv 0) pa_nil)) (pa_cons (pv 1) pa_nil))) (blkOk_by (own := [("column", 2), ("one", 3)]) (N := NIsRowIn) (sc := defScope sIsRowIn) (by decide +kernel)) (fun _ _ _ _ _ => (pg_tup rfl (pgs_cons (pg_name (i := 2) IsRowIn.nd rfl (Or.inl rfl)) (pgs_cons (pg_name (i := 3) IsRowIn.nd rfl (Or.inl rfl)) pgs_nil)))) (fun _ _ _ _ _ => pts_nil) (fun _ _ _ _ _ => (pe_df Dis_value_of (hr.mono (by decide)) rfl (pa_cons (pe_dget hr.u1 (pv 0) (pv 2) (fun _ _ => rfl)) (pa_cons (pv 3) pa_nil))))) pa_nil))))), ?_⟩
    refine ⟨fun σ' H' => ∃ (a : Addr) (xs : List V) (l : List Dv), σ' = [some (.ref d), some (.ref a), none, none] ∧ H' = H ∧ v = .ref a ∧ dv = .tup l ∧ SqT K H a xs ∧ AvL K H l xs ∧ xs.length = S.length, ?_, ?_⟩
    · by_cases c : dv.isT = true
      rotate_left
      · have c : dv.isT = false := by simpa using c
        have e : rowA S dv = false := by cases dv <;> first | rfl | cases c
        rw [e] at k
        exact ⟨_, rfl, v, _, .type dv.cl, _, dv.isT, rfl, .ty "tuple", hv.ty, avTu dv, _, rfl, iteD (by rw [c]; rfl) (k H (Same.refl H))⟩
      obtain ⟨l, rfl⟩ := tup_of c
      obtain ⟨a, xs, rfl, hS, hl⟩ := hv.tup_inv
      refine ⟨_, rfl, _, _, .type "tuple", _, true, rfl, .ty "tuple", tyT hS, kit_ty kb4, _, rfl, iteF ?_⟩
      by_cases n : xs.length = S.length
      · refine ⟨_, rfl, _, _, rfl, .inr ⟨_, hS, rfl⟩, _, rfl, _, kvs, rfl, hd, rfl, _, rfl, iteN ?_ ⟨a, xs, l, rfl, rfl, rfl, rfl, hS, hl, n⟩⟩
        simp [n, hlen]
      · have e : rowA S (.tup l) = false := by
          show valsA S (Zr.names S) l = false
          unfold valsA
          rw [decide_eq_false (by rw [← hl.len, nl]; exact n), Bool.false_and]
        rw [e] at k
        exact ⟨_, rfl, _, _, rfl, .inr ⟨_, hS, rfl⟩, _, rfl, _, kvs, rfl, hd, rfl, _, rfl, iteD (by simp [hlen]; omega) (k H (Same.refl H))⟩
    rintro σ' H' ⟨a, xs, l, rfl, rfl, rfl, rfl, hS, hl, n⟩
    have e0 : rowA S (.tup l) = ((Zr.names S).zip l).all fun q => valA (kindOf S q.1) q.2 := by
      show valsA S (Zr.names S) l = _
      unfold valsA
      rw [decide_eq_true (by rw [← hl.len, nl]; exact n), Bool.true_and]
    rw [e0] at k
    obtain ⟨kv1, ks1, f1, f2, f3, f4⟩ := srtd hu so
    refine ⟨_, rfl, nil_ ⟨d, kv1, ks1, rfl, f1, f2, f3, fun ys p pe so' np => ?_⟩⟩
    rw [f4 ys pe so']
    have s1 : Same H' (upd H' p (.lst ((Zr.names S).map V.str))) := sameN np
    have e1 : upd H' p (.lst ((Zr.names S).map V.str)) p = some (.lst ((Zr.names S).map V.str)) := upd_same
    generalize upd H' p (.lst ((Zr.names S).map V.str)) = H1 at s1 e1
    refine ⟨_, rfl, p, a, _, _, rfl, SqL.of e1, SqT.same hS s1, fun D hD => ?_⟩
    refine loop_zipX (us := (Zr.names S).map V.str) (vs := xs) (by rw [List.length_map, nl, n]) (fun i H' => ∃ bs : List Bool, H' D = some (.lst (bs.map V.bl)) ∧ Same H1 H' ∧ bs.length = i ∧ bs.all id = (((Zr.names S).zip l).take i).all fun q => valA (kindOf S q.1) q.2) ⟨[], upd_same, upd_new hD, rfl, rfl⟩ ?_ ?_ ?_
    · rintro i H2 _ ⟨_, _, s2, _⟩
      exact ⟨SqL.of (s2 _ _ e1), SqT.same (SqT.same hS s1) s2⟩
    · rintro i x y cc H2 H3 hxx hy ⟨bs, eD, s2, hl', ha⟩ s3 ec
      rw [List.getElem?_map] at hxx
      obtain ⟨n', hn, rfl⟩ := Option.map_eq_some_iff.mp hxx
      have hi : i < (Zr.names S).length := (List.getElem?_eq_some_iff.mp hn).1
      obtain ⟨kd, hm⟩ := names_mem (List.mem_of_getElem? hn)
      obtain ⟨d', kvs', e', hd', en'⟩ := hu.same (s1.trans (s2.trans s3))
      cases e'
      obtain ⟨q, hq, kq⟩ := ent_val en' so.nd hm
      obtain ⟨dd, hdd, avy⟩ := hl.get hy
      have ek := kindOf_eq so.nd hm
      refine ⟨cc, _, rfl, SqT.of ec, rfl, _, _, rfl, _, _, rfl, rfl, rfl, ?_⟩
      refine ⟨_, rfl, _, rfl, d, q, rfl, .inl ⟨kvs', Sum.inr n', hd', rfl, hq.symm⟩, _, rfl, ?_⟩
      refine ⟨q, y, kd, dd, rfl, kq, so.dom _ hm, avy.same (s1.trans (s2.trans s3)), ?_⟩
      exact ⟨_, s3 _ _ eD, by rw [List.length_map]; omega, bs ++ [valA kd dd], by rw [upd_same, List.map_append]; rfl, same_upd (s2.trans s3) hD, by rw [List.length_append, hl']; rfl, by rw [List.all_append, ha, all_take (zip_at hn hdd), ek]; simp⟩
    · rintro H2 ⟨bs, eD, s2, hl', ha⟩
      rw [List.take_of_length_le (by rw [List.length_zip, List.length_map]; omega)] at ha
      refine ⟨D, bs, rfl, SqL.of eD, ?_⟩
      rw [ha]
      exact k H2 (s1.trans s2)
theorem ok_isRow {fd : FuncData} (F : FnP K "is_row" sIsRow fd) (Drequire_shape : DfX P w K mg base 5 "require_shape" ["shape"] (spReqShape K)) (Dis_row_in : Df P w K mg base 3 "is_row_in" ["shape", "value"] (spRowInA K)) :
    FnOk P w K mg base (L2.CX P w) 6 (He.ga K "is_row") fd ["shape", "value"] (spIsRow K) := by
  refine F.ok IsRow (fun vs H Q E h => ?_) (fun cdv A outer s H vs Q E hr h => ?_)
  · rcases h with ⟨u, v, S, d, rfl, _⟩ | ⟨u, v, dw, rfl, _⟩ <;> rfl
  · refine ⟨_, (pss_cons (ps_expr (pe_dfX Drequire_shape (hr.mono (by decide)) (by exact takes_def) rfl (pa_cons (pv 0) pa_nil)))
      (pss_one (ps_ret (pe_df Dis_row_in (hr.mono (by decide)) rfl (pa_cons (pv 0) (pa_cons (pv 1) pa_nil)))))), ?_⟩
    rcases h with ⟨u, v, S, d, rfl, hu, so, hv, k⟩ | ⟨u, v, dw, rfl, hu, hok, hn, k⟩
    · refine ⟨_, rfl, nil_ ⟨u, _, rfl, shpAt_aw hu, des_ok so.w (by have := so.tms; have := so.few; omega), fun _ H1 s1 => ?_, fun e => ?_⟩⟩
      · exact ⟨_, rfl, _, rfl, u, v, S, d, rfl, (hu.same s1).r, so, hv.same s1, fun H2 s2 => k H2 (s1.trans s2)⟩
      · rw [show shapeW (.dic (desOf S)) = true from des_shape so] at e
        cases e
    · refine ⟨_, rfl, nil_ ⟨u, dw, rfl, hu, hok, fun e => ?_, fun _ => k⟩⟩
      rw [hn] at e
      cases e
theorem ok_reqRow {fd : FuncData} (F : FnP K "require_row" sReqRow fd) (XC : Xcp K mg) (Dis_row_in : Df P w K mg base 3 "is_row_in" ["shape", "value"] (spRowInA K)) : FnOk P w K mg base (L2.CX P w) 4 (He.ga K "require_row") fd ["shape", "row"] (spReqRow K) := by
  refine F.ok ReqRow (fun vs H Q E h => ?_) (fun cdv A outer s H vs Q E hr h => ?_)
  · obtain ⟨u, v, S, d, rfl, _⟩ := h
    rfl
  · refine ⟨_, (pss_one (ps_if (pt_not (pt_val (pe_df Dis_row_in (hr.mono (by decide)) rfl (pa_cons (pv 0) (pa_cons (pv 1) pa_nil))))) (pss_one (ps_raiseM XC.op (by exact takes_def) rfl rfl)) pss_nil)), ?_⟩
    obtain ⟨u, v, S, d, rfl, hu, so, hv, k1, k2⟩ := h
    refine ⟨_, rfl, _, rfl, nil_ ⟨u, v, S, d, rfl, hu.r, so, hv, fun H' s1 => ⟨_, rfl, ?_⟩⟩⟩
    cases c : rowA S d with
    | true => exact iteF (k1 c H' s1)
    | false => exact iteT (k2 c H' s1)
theorem ok_sizeOf {fd : FuncData} (F : FnP K "size_of" sSizeOf fd) (Drequire_shape : DfX P w K mg base 5 "require_shape" ["shape"] (spReqShape K)) (Drequire_row : DfX P w K mg base 4 "require_row" ["shape", "row"] (spReqRow K)) (Dsize_in : Df P w K mg base 2 "size_in" ["shape", "row"] (spSize K)) :
    FnOk P w K mg base (L2.CX P w) 6 (He.ga K "size_of") fd ["shape", "row"] (spSizeOf K) := by
  refine F.ok SizeOf (fun vs H Q E h => ?_) (fun cdv A outer s H vs Q E hr h => ?_)
  · rcases h with ⟨u, v, S, d, rfl, _⟩ | ⟨u, v, dw, rfl, _⟩ <;> rfl
  · refine ⟨_, (pss_cons (ps_expr (pe_dfX Drequire_shape (hr.mono (by decide)) (by exact takes_def) rfl (pa_cons (pv 0) pa_nil)))
      (pss_cons (ps_expr (pe_dfX Drequire_row (hr.mono (by decide)) (by exact takes_def) rfl (pa_cons (pv 0) (pa_cons (pv 1) pa_nil))))
      (pss_one (ps_ret (pe_df Dsize_in (hr.mono (by decide)) rfl (pa_cons (pv 0) (pa_cons (pv 1) pa_nil))))))), ?_⟩
    rcases h with ⟨u, v, S, d, rfl, hu, so, hv, k1, k2⟩ | ⟨u, v, dw, rfl, hu, hok, hn, k⟩
    · refine ⟨_, rfl, nil_ ⟨u, _, rfl, shpAt_aw hu, des_ok so.w (by have := so.tms; have := so.few; omega), fun _ H1 s1 => ?_, fun e => ?_⟩⟩
      · refine ⟨_, rfl, _, rfl, nil_ ⟨u, v, S, d, rfl, hu.same s1, so, hv.same s1, fun e H2 s2 => ?_, fun e => (k1 e).mono s1⟩⟩
        have c : d.isT = true := by cases d <;> first | rfl | cases e
        obtain ⟨l, rfl⟩ := tup_of c
        obtain ⟨a, xs, rfl, hS, hl⟩ := (hv.same (s1.trans s2)).tup_inv
        obtain ⟨e1, e2⟩ := rowA_ints so e hl
        exact ⟨_, rfl, _, rfl, u, .ref a, S, xs, _, rfl, (hu.same (s1.trans s2)).r, so, ⟨a, rfl, hS⟩, e2, e1, fun H3 s3 => k2 l rfl e H3 ((s1.trans s2).trans s3)⟩
      · rw [show shapeW (.dic (desOf S)) = true from des_shape so] at e
        cases e
    · refine ⟨_, rfl, nil_ ⟨u, dw, rfl, hu, hok, fun e => ?_, fun _ => k⟩⟩
      rw [hn] at e
      cases e
end
end TM
end

section
set_option maxHeartbeats 4000000
namespace TM
open PySem PySem.Spec PyProof.Rows L2 EW
/-! ### the draws -/
theorem iteB {b : Bool} {A B : Prop} (e : b = true) (h : A) : if b = true then A else B := by
  rw [if_pos e]
  exact h
theorem iteC {b : Bool} {A B : Prop} (e : b = false) (h : B) : if b = true then A else B := by
  rw [if_neg (by rw [e]; decide)]
  exact h
theorem bits58 : (Builtin.Int.intBits ((10 : Int) ^ (58 : Int).toNat) : Int) * 11 ≤ 2 ^ 27 := by decide +kernel
abbrev MOD : Int := ((10 : Int) ^ (58 : Int).toNat) ^ (11 : Int).toNat
theorem mod_pos : 0 < MOD := by decide +kernel
theorem mod_lt : MOD < 2 ^ 2200 := by decide +kernel
theorem great_ok (n : Int) : 0 ≤ n % MOD ∧ n % MOD < 2 ^ 2200 := ⟨Int.emod_nonneg _ (Int.ne_of_gt mod_pos), Int.lt_trans (Int.emod_lt_of_pos _ mod_pos) mod_lt⟩
theorem two_ok {q one c : Int} (p0 : 0 ≤ q) (p1 : q < 36028797018963913) (o0 : 0 ≤ one) (o1 : one < 72057594037927931) (h0 : 0 ≤ c) (h1 : c ≤ 2000000) : (q * one + 15485863 * c).natAbs < 2 ^ 130 := by
  have t1 : q * one ≤ 36028797018963913 * 72057594037927931 := Int.mul_le_mul (by omega) (by omega) o0 (by decide)
  have t0 : 0 ≤ q * one := Int.mul_nonneg p0 o0
  omega
def spDice (K : W.Frag) : Sp := fun vs H Q _ => ∃ (a : Addr) (ns : List Int) (s : Int), vs = [.ref a, .int s] ∧ SqL K H a (ns.map V.int) ∧ 0 ≤ s ∧
  ∀ (d : Addr) (H' : Hp), H d = none → Same H H' → Dc H' d 0 → Q (.ref d) H'
def spRoll : Sp := fun vs H Q _ => ∃ (d : Addr) (m n : Int), vs = [.ref d, .int m] ∧ Dc H d n ∧ n ≤ 1000000 ∧ 0 < m ∧ m < 2 ^ 200 ∧
  ∀ (r : Int) (H' : Hp), 0 ≤ r → r < m → Kept d H H' → Dc H' d (n + 1) → Q (.int r) H'
abbrev NDice : List Str := ["_law_script", "_law_spot", "_law_cell", "_law_great", "_law_blend"]
theorem Dice : FnScope NDice ["_law_script", "_law_spot"] (defScope sDice) := ⟨rfl, rfl, rfl, by decide +kernel, rfl, by decide +kernel, by decide +kernel⟩
abbrev NRoll : List Str := ["_law_dice_here", "_law_many", "_law_found", "_law_one", "_law_two"]
theorem Roll : FnScope NRoll ["_law_dice_here", "_law_many"] (defScope sRoll) := ⟨rfl, rfl, rfl, by decide +kernel, rfl, by decide +kernel, by decide +kernel⟩
abbrev NPick : List Str := ["_law_dice_here", "_law_items"]
theorem Pick : FnScope NPick ["_law_dice_here", "_law_items"] (defScope sPick) := ⟨rfl, rfl, rfl, by decide +kernel, rfl, by decide +kernel, by decide +kernel⟩
theorem sqL_kept {K : W.Frag} {H H' : Hp} {l d : Addr} {xs : List V} (h : SqL K H l xs) (n : l ≠ d) (k : EW.Kept d H H') : SqL K H' l xs := by
  rcases h with (h | ⟨o, h⟩) | h
  · exact .inl (.inl (k _ _ n h))
  · exact .inl (.inr ⟨o, k _ _ n h⟩)
  · exact .inr h
theorem sq_kept {K : W.Frag} {H H' : Hp} {l d : Addr} {xs : List V} {n : Int} (D : Dc H d n) (h : (SqL K H l xs ∧ l ≠ d) ∨ SqT K H l xs) (k : EW.Kept d H H') : Sq K H' l xs := by
  obtain ⟨g, b, c, hd, _⟩ := D
  rcases h with ⟨h, n⟩ | h
  · exact .inl (sqL_kept h n k)
  · exact .inr (SqT.kept h hd k)
def spPick (K : W.Frag) : Sp := fun vs H Q _ => ∃ (d l : Addr) (xs : List V) (n : Int), vs = [.ref d, .ref l] ∧ Dc H d n ∧ n ≤ 1000000 ∧ ((SqL K H l xs ∧ l ≠ d) ∨ SqT K H l xs) ∧ 0 < xs.length ∧ xs.length < 1000 ∧
  ∀ (v : V) (H' : Hp), v ∈ xs → EW.Kept d H H' → Dc H' d (n + 1) → Q v H'
section
variable {P : Program} {w : World} {K : W.Frag} {mg : Str → Option Value} {base : Heap}
/-- what stands behind the drawn cell -/
theorem dice_end {H : Hp} {Q : VK} {great bl : Int} (k : ∀ (d : Addr) (H' : Hp), H d = none → Same H H' → Dc H' d 0 → Q (.ref d) H') (hg : 0 ≤ great ∧ great < 2 ^ 2200) (d : Addr) (hd : H d = none) (m : Int) (hm : m = if great - 10 ^ (18 : Int).toNat > 0 then great - 10 ^ (18 : Int).toNat else 0) :
    Q (.ref d) (upd H d (.lst [.int m, .int (bl % 2305843009213693907), .int 0])) := by
  refine k d _ hd (fun b o e => by rw [upd_ne (ne_of_none e hd)]; exact e) ⟨m, bl % 2305843009213693907, 0, upd_same, ?_, ?_, Int.emod_nonneg _ (by decide), ?_, Int.le_refl _, Int.le_refl _⟩
  · rw [hm]
    split <;> omega
  · have z : (0 : Int) ≤ 10 ^ (18 : Int).toNat := by decide +kernel
    have z2 : (0 : Int) < 2 ^ 2200 := by decide +kernel
    rw [hm]
    split <;> omega
  · have z := Int.emod_lt_of_pos bl (show (0 : Int) < 2305843009213693907 by decide)
    omega
theorem ok_dice {fd : FuncData} (F : FnP K "_law_dice" sDice fd) (T : Fre mg) : FnOk P w K mg base CX0 1 (He.ga K "_law_dice") fd ["_law_script", "_law_spot"] (spDice K) := by
  refine F.ok Dice (fun vs H Q E h => ?_) (fun cdv A outer s H vs Q E hr h => ?_)
  · obtain ⟨a, ns, s, rfl, _⟩ := h
    rfl
  · obtain ⟨a, ns, sp, rfl, hS, h0, k⟩ := h
    refine ⟨_, PSs.nox (pss_cons (ps_set (i := 2) Dice.nd rfl (Or.inl rfl) (pe_op op_add (pe_op op_mul pe_int (pv 1)) pe_int))
      (pss_cons (ps_if (pt_cmpR op_lt (pv 1) (pe_callB (call_lenK K rfl) (by rfl) T.len PySem.boot_len (pa_cons (pv 0) pa_nil)) (nomark _)) (pss_one (ps_set (i := 2) Dice.nd rfl (Or.inl rfl) (pe_ix (ix_listK K rfl) (pv 0) (pv 1) (fun _ _ => rfl)))) pss_nil)
      (pss_cons (ps_set (i := 3) Dice.nd rfl (Or.inl rfl) (pe_op op_mod (pe_callTy call_int1 (by rfl) T.int EW.boot_int (pa_cons (pe_callB call_abs (by rfl) T.abs EW.boot_abs (pa_cons (pv 2) pa_nil)) pa_nil)) (pe_op op_powW (pe_op op_pow pe_int pe_int) pe_int)))
      (pss_cons (ps_set (i := 4) Dice.nd rfl (Or.inl rfl) (pe_op op_mul (pe_op op_mod (pe_callTy call_int1 (by rfl) T.int EW.boot_int (pa_cons (pv 3) pa_nil)) pe_int) pe_int))
      (pss_cons (ps_set (i := 4) Dice.nd rfl (Or.inl rfl) (pe_op op_add (pe_op op_add (pe_op op_add (pv 4) (pe_op op_mul pe_int (pv 1))) (pe_op op_mul pe_int (pe_callTy call_int1 (by rfl) T.int EW.boot_int (pa_cons (pe_cmpR op_lt (pv 2) pe_int (nomark _)) pa_nil)))) pe_int))
      (pss_one (ps_ret (pe_lst (pa_cons (pe_callB (call_max2 rfl) (by rfl) T.max EW.boot_max (pa_cons pe_int (pa_cons (pe_op op_sub (pv 3) (pe_op op_pow pe_int pe_int)) pa_nil))) (pa_cons (pe_op op_mod (pe_callTy call_int1 (by rfl) T.int EW.boot_int (pa_cons (pv 4) pa_nil)) pe_int) (pa_cons pe_int pa_nil))))))))))), ?_⟩
    refine ⟨_, rfl, _, _, rfl, rfl, .inl ⟨by decide, by decide⟩, _, _, rfl, rfl, ?_⟩
    refine ⟨_, rfl, _, rfl, _, (ns.map V.int).length, rfl, Or.inl ⟨_, hS, rfl⟩, _, _, rfl, rfl, _, rfl, ?_⟩
    refine ite2 (fun c => ?_) (fun c => ?_)
    · have c' : sp < ((ns.map V.int).length : Int) := of_decide_eq_true c
      rw [List.length_map] at c'
      obtain ⟨j, rfl⟩ : ∃ j : Nat, sp = (j : Int) := ⟨sp.toNat, by omega⟩
      have hj : j < ns.length := by omega
      have ej : (ns.map V.int)[j]? = some (V.int ns[j]) := by
        rw [List.getElem?_map, List.getElem?_eq_getElem hj]
        rfl
      refine ⟨_, rfl, _, rfl, a, _, _, _, rfl, rfl, hS, atI_nat ej, ?_⟩
      refine ⟨_, rfl, _, rfl, Or.inl ⟨_, rfl, _, _, rfl, rfl, ⟨by decide, by decide, by decide⟩, _, _, rfl, rfl, ⟨by decide, bits58⟩, _, _, rfl, rfl, mod_pos, ?_⟩⟩
      refine ⟨_, rfl, Or.inl ⟨_, rfl, _, _, rfl, rfl, (by show (0 : Int) < 2305843009213693921; decide), _, _, rfl, rfl, .inr ⟨by decide, by decide⟩, ?_⟩⟩
      refine ⟨_, rfl, _, rfl, _, _, rfl, rfl, .inl ⟨by decide, by decide⟩, _, _, rfl, rfl, _, rfl, _, _, rfl, rfl, Or.inr ⟨_, rfl, _, _, rfl, rfl, .inl ⟨by decide, by decide⟩, _, _, rfl, rfl, _, _, rfl, rfl, ?_⟩⟩
      refine ⟨_, rfl, _, _, rfl, rfl, ⟨by decide, by decide, by decide⟩, _, _, rfl, rfl, _, _, rfl, ?_⟩
      refine ⟨_, rfl, Or.inl ⟨_, rfl, _, _, rfl, rfl, (by show (0 : Int) < 2305843009213693907; decide), (by show 3 ≤ sizeLine; decide), fun d hd => ?_⟩⟩
      exact dice_end k (great_ok _) d hd _ rfl
    · refine ⟨_, rfl, _, rfl, Or.inl ⟨_, rfl, _, _, rfl, rfl, ⟨by decide, by decide, by decide⟩, _, _, rfl, rfl, ⟨by decide, bits58⟩, _, _, rfl, rfl, mod_pos, ?_⟩⟩
      refine ⟨_, rfl, Or.inl ⟨_, rfl, _, _, rfl, rfl, (by show (0 : Int) < 2305843009213693921; decide), _, _, rfl, rfl, .inr ⟨by decide, by decide⟩, ?_⟩⟩
      refine ⟨_, rfl, _, rfl, _, _, rfl, rfl, .inl ⟨by decide, by decide⟩, _, _, rfl, rfl, _, rfl, _, _, rfl, rfl, Or.inr ⟨_, rfl, _, _, rfl, rfl, .inl ⟨by decide, by decide⟩, _, _, rfl, rfl, _, _, rfl, rfl, ?_⟩⟩
      refine ⟨_, rfl, _, _, rfl, rfl, ⟨by decide, by decide, by decide⟩, _, _, rfl, rfl, _, _, rfl, ?_⟩
      refine ⟨_, rfl, Or.inl ⟨_, rfl, _, _, rfl, rfl, (by show (0 : Int) < 2305843009213693907; decide), (by show 3 ≤ sizeLine; decide), fun d hd => ?_⟩⟩
      exact dice_end k (great_ok _) d hd _ rfl
theorem ok_roll {fd : FuncData} (F : FnP K "_law_roll" sRoll fd) (T : Fre mg) : FnOk P w K mg base CX0 1 (He.ga K "_law_roll") fd ["_law_dice_here", "_law_many"] spRoll := by
  refine F.ok Roll (fun vs H Q E h => ?_) (fun cdv A outer s H vs Q E hr h => ?_)
  · obtain ⟨d, m, n, rfl, _⟩ := h
    rfl
  · obtain ⟨d, m, n, rfl, D, hn, h0, h1, k⟩ := h
    refine ⟨_, PSs.nox (pss_cons (ps_if (pt_cmpR op_gt (pe_ix (ix_listK K rfl) (pv 0) pe_int (fun _ _ => rfl)) pe_int (nomark _)) (pss_cons (ps_set (i := 2) Roll.nd rfl (Or.inl rfl) (pe_op op_mod (pe_callTy call_int1 (by rfl) T.int EW.boot_int (pa_cons (pe_ix (ix_listK K rfl) (pv 0) pe_int (fun _ _ => rfl)) pa_nil)) (pv 1)))
      (pss_cons (ps_asg (pe_op op_fdivW (pe_ix (ix_listK K rfl) (pv 0) pe_int (fun _ _ => rfl)) (pv 1)) (pg_sub (pv 0) pe_int set_list))
      (pss_one (ps_ret (pv 2))))) pss_nil)
      (pss_cons (ps_asg (pe_op op_add (pe_ix (ix_listK K rfl) (pv 0) pe_int (fun _ _ => rfl)) pe_int) (pg_sub (pv 0) pe_int set_list))
      (pss_cons (ps_set (i := 3) Roll.nd rfl (Or.inl rfl) (pe_op op_mod (pe_callTy call_int1 (by rfl) T.int EW.boot_int (pa_cons (pe_op op_add (pe_ix (ix_listK K rfl) (pv 0) pe_int (fun _ _ => rfl)) (pe_op op_mul pe_int (pe_ix (ix_listK K rfl) (pv 0) pe_int (fun _ _ => rfl)))) pa_nil)) pe_int))
      (pss_cons (ps_set (i := 4) Roll.nd rfl (Or.inl rfl) (pe_op op_add (pe_op op_mul (pe_op op_mod (pe_callTy call_int1 (by rfl) T.int EW.boot_int (pa_cons (pe_op op_mul (pv 3) (pv 3)) pa_nil)) pe_int) (pv 3)) (pe_op op_mul pe_int (pe_ix (ix_listK K rfl) (pv 0) pe_int (fun _ _ => rfl)))))
      (pss_one (ps_ret (pe_op op_mod (pe_callTy call_int1 (by rfl) T.int EW.boot_int (pa_cons (pe_op op_fdivW (pe_op op_mod (pe_callTy call_int1 (by rfl) T.int EW.boot_int (pa_cons (pe_op op_add (pe_op op_mulW (pv 4) (pv 4)) (pe_ix (ix_listK K rfl) (pv 0) pe_int (fun _ _ => rfl))) pa_nil)) pe_int) pe_int) pa_nil)) (pv 1)))))))), ?_⟩
    obtain ⟨g, b, c, hd, hg0, hg1, hb0, hb1, hc0, hc1⟩ := D
    have sq : ∀ {g b c : Int} {H : Hp}, H d = some (.lst [.int g, .int b, .int c]) → SqL K H d [.int g, .int b, .int c] := fun h => SqL.of h
    refine ⟨_, rfl, d, _, _, _, rfl, rfl, sq hd, rfl, _, _, rfl, rfl, _, rfl, ?_⟩
    refine ite2 (fun q => ?_) (fun q => ?_)
    · refine ⟨_, rfl, d, _, _, _, rfl, rfl, sq hd, rfl, Or.inl ⟨_, rfl, ?_⟩⟩
      refine ⟨_, rfl, _, _, rfl, rfl, h0, ?_⟩
      refine ⟨_, rfl, d, _, _, _, rfl, rfl, sq hd, rfl, _, rfl, _, _, rfl, rfl, wide_div h0 (b := 200) (by omega) (by decide) (by decide), ?_⟩
      refine ⟨_, rfl, d, _, _, 0, rfl, rfl, hd, rfl, ?_⟩
      refine ⟨_, rfl, ?_⟩
      refine k _ _ (Int.emod_nonneg _ (by omega)) (Int.emod_lt_of_pos _ h0) Kept.upd ⟨g / m, b, c, upd_same, Int.ediv_nonneg hg0 (by omega), ?_, hb0, hb1, hc0, by omega⟩
      exact Int.lt_of_le_of_lt (Int.ediv_le_self _ hg0) hg1
    · have hc2 : H d = some (.lst [.int g, .int b, .int c]) := hd
      refine ⟨_, rfl, d, _, _, _, rfl, rfl, sq hd, rfl, _, _, rfl, rfl, _, rfl, d, _, _, 2, rfl, rfl, hd, rfl, ?_⟩
      have e1 : (upd H d (.lst ([V.int g, V.int b, V.int c].set 2 (.int (c + 1))))) d = some (.lst [.int g, .int b, .int (c + 1)]) := upd_same
      refine ⟨_, rfl, d, _, _, _, rfl, rfl, sq e1, rfl, _, rfl, d, _, _, _, rfl, rfl, sq e1, rfl, _, _, rfl, rfl, .inl ⟨by decide, by decide⟩, _, _, rfl, rfl, Or.inl ⟨_, rfl, _, _, rfl, rfl, (by show (0 : Int) < 72057594037927931; decide), ?_⟩⟩
      have o0 := Int.emod_nonneg (b + 1000000403 * (c + 1)) (show (72057594037927931 : Int) ≠ 0 by decide)
      have o1 := Int.emod_lt_of_pos (b + 1000000403 * (c + 1)) (show (0 : Int) < 72057594037927931 by decide)
      refine ⟨_, rfl, _, rfl, _, _, rfl, rfl, .inl ⟨by omega, by omega⟩, Or.inl ⟨_, rfl, _, _, rfl, rfl, (by show (0 : Int) < 36028797018963913; decide), ?_⟩⟩
      have p0 := Int.emod_nonneg ((b + 1000000403 * (c + 1)) % 72057594037927931 * ((b + 1000000403 * (c + 1)) % 72057594037927931)) (show (36028797018963913 : Int) ≠ 0 by decide)
      have p1 := Int.emod_lt_of_pos ((b + 1000000403 * (c + 1)) % 72057594037927931 * ((b + 1000000403 * (c + 1)) % 72057594037927931)) (show (0 : Int) < 36028797018963913 by decide)
      refine ⟨_, rfl, _, _, rfl, rfl, .inl ⟨by omega, by omega⟩, _, rfl, d, _, _, _, rfl, rfl, sq e1, rfl, _, _, rfl, rfl, .inl ⟨by decide, by decide⟩, _, _, rfl, rfl, ?_⟩
      have two_lt := two_ok p0 p1 o0 o1 (c := c + 1) (by omega) (by omega)
      refine ⟨_, rfl, _, rfl, _, _, rfl, rfl, wide_mul (a := 130) (b := 130) two_lt two_lt (by decide) (by decide) (by decide), ?_⟩
      refine ⟨_, rfl, d, _, _, _, rfl, rfl, sq e1, rfl, _, _, rfl, rfl, Or.inl ⟨_, rfl, _, _, rfl, rfl, (by show (0 : Int) < 1152921504606846883; decide), _, _, rfl, rfl, ⟨by decide, by decide⟩, Or.inl ⟨_, rfl, ?_⟩⟩⟩
      refine ⟨_, rfl, _, _, rfl, rfl, h0, ?_⟩
      exact k _ _ (Int.emod_nonneg _ (by omega)) (Int.emod_lt_of_pos _ h0) Kept.upd ⟨g, b, c + 1, e1, hg0, hg1, hb0, hb1, by omega, by omega⟩
theorem ok_pick {fd : FuncData} (F : FnP K "_law_pick" sPick fd) (T : Fre mg) (D_law_roll : Df P w K mg base 1 "_law_roll" ["_law_dice_here", "_law_many"] spRoll) : FnOk P w K mg base CX0 2 (He.ga K "_law_pick") fd ["_law_dice_here", "_law_items"] (spPick K) := by
  refine F.ok Pick (fun vs H Q E h => ?_) (fun cdv A outer s H vs Q E hr h => ?_)
  · obtain ⟨d, l, xs, n, rfl, _⟩ := h
    rfl
  · obtain ⟨d, l, xs, n, rfl, D, hn, hS, h0, h1, k⟩ := h
    refine ⟨_, PSs.nox (pss_one (ps_ret (pe_ix (EW.ix_seqK K rfl) (pv 1) (pe_df D_law_roll (hr.mono (by decide)) rfl (pa_cons (pv 0) (pa_cons (pe_callB (call_lenK K rfl) (by rfl) T.len PySem.boot_len (pa_cons (pv 1) pa_nil)) pa_nil))) (fun _ _ => rfl)))), ?_⟩
    refine ⟨_, rfl, _, rfl, _, rfl, _, xs.length, rfl, hS.elim (fun q => Or.inl ⟨_, q.1, rfl⟩) (fun q => Or.inr ⟨_, q, rfl⟩), ?_⟩
    refine ⟨d, _, n, rfl, D, hn, by omega, by omega, fun r H' r0 r1 kp D' => ?_⟩
    obtain ⟨j, rfl⟩ : ∃ j : Nat, r = (j : Int) := ⟨r.toNat, by omega⟩
    have hj : j < xs.length := by omega
    exact ⟨l, xs, _, _, rfl, rfl, sq_kept D hS kp, atI_nat (List.getElem?_eq_getElem hj), k _ _ (List.getElem_mem hj) kp D'⟩
end
end TM
end

section
set_option maxHeartbeats 4000000
namespace EW
open PySem PySem.Spec PyProof.Rows L2
theorem Dc.same {H H' : Hp} {d : Addr} {n : Int} (h : Dc H d n) (s : Same H H') : Dc H' d n := by
  obtain ⟨g, b, c, h1, r⟩ := h
  exact ⟨g, b, c, s _ _ h1, r⟩
theorem Dc.lst {H : Hp} {d : Addr} {n : Int} (h : Dc H d n) : ∃ xs, H d = some (.lst xs) := by
  obtain ⟨g, b, c, h1, _⟩ := h
  exact ⟨_, h1⟩
theorem kept_of {d : Addr} {H H' : Hp} (s : Same H H') : Kept d H H' := fun a o _ e => s a o e
/-- tuples put together, sealed -/
theorem op_catTS {X : Cx} (K : W.Frag) (h : X.K = K) : OpR X (binaryOp .Add) (fun x y H Q => ∃ (a b : Addr) (xs ys : List V), x = .ref a ∧ y = .ref b ∧ SqT K H a xs ∧ SqT K H b ys ∧ xs ≠ [] ∧ ys ≠ [] ∧ xs.length + ys.length ≤ sizeLine ∧ New H (fun _ => .tup (xs ++ ys)) Q) := by
  subst h
  intro pins s σ H x y v u Q I rx ry h
  obtain ⟨a, b, xs, ys, h1, h2, h3, h4, h5, h6, h7, h8⟩ := h
  exact op_catT pins s σ H x y v u Q I rx ry ⟨a, b, xs, ys, h1, h2, h3, h4, h5, h7, fun z => absurd z h6, fun _ p hp => h8.at hp⟩
end EW
namespace TM
open PySem PySem.Spec PyProof.Rows L2 EW
abbrev NNear : List Str := ["_law_dice_here", "_law_far"]
theorem Near : FnScope NNear ["_law_dice_here", "_law_far"] (defScope sNear) := ⟨rfl, rfl, rfl, by decide +kernel, rfl, by decide +kernel, by decide +kernel⟩
/-- a bound that is not too far -/
def Nr (o : Option Int) : Prop := ∀ i, o = some i → -1000000000000 ≤ i ∧ i ≤ 1000000000000
def spNear : Sp := fun vs H Q _ => ∃ (d : Addr) (f n : Int), vs = [.ref d, .int f] ∧ Dc H d n ∧ n ≤ 1000000 ∧ 0 ≤ f ∧ f ≤ 1000 ∧ ∀ (i : Int) (H' : Hp), -f ≤ i → i ≤ f → EW.Kept d H H' → Dc H' d (n + 1) → Q (.int i) H'
section
variable {P : Program} {w : World} {K : W.Frag} {mg : Str → Option Value} {base : Heap}
theorem ok_near {fd : FuncData} (F : FnP K "_law_near" sNear fd) (D_law_roll : Df P w K mg base 1 "_law_roll" ["_law_dice_here", "_law_many"] spRoll) : FnOk P w K mg base CX0 2 (He.ga K "_law_near") fd ["_law_dice_here", "_law_far"] spNear := by
  refine F.ok Near (fun vs H Q E h => ?_) (fun cdv A outer s H vs Q E hr h => ?_)
  · obtain ⟨d, f, n, rfl, _⟩ := h
    rfl
  · obtain ⟨d, f, n, rfl, D, hn, f0, f1, k⟩ := h
    refine ⟨_, PSs.nox (pss_one (ps_ret (pe_op op_sub (pe_df D_law_roll (hr.mono (by decide)) rfl (pa_cons (pv 0) (pa_cons (pe_op op_add (pe_op op_mul pe_int (pv 1)) pe_int) pa_nil))) (pv 1)))), ?_⟩
    refine ⟨_, rfl, _, rfl, _, _, rfl, rfl, .inl ⟨by decide, by decide⟩, _, _, rfl, rfl, d, _, n, rfl, D, hn, by omega, by omega, fun r H1 r0 r1 k1 D1 => ?_⟩
    exact ⟨_, rfl, _, _, rfl, rfl, k _ H1 (by omega) (by omega) k1 D1⟩
end
end TM
end

section
set_option maxHeartbeats 4000000
namespace TM
open PySem PySem.Spec PyProof.Rows L2 EW
abbrev NMixed : List Str := ["_law_dice_here", "_law_items", "_law_left", "_law_found"]
theorem Mixed : FnScope NMixed ["_law_dice_here", "_law_items"] (defScope sMixed) := ⟨rfl, rfl, rfl, by decide +kernel, rfl, by decide +kernel, by decide +kernel⟩
def spMixed (K : W.Frag) : Sp := fun vs H Q _ => ∃ (d l : Addr) (xs : List Str) (n : Int), vs = [.ref d, .ref l] ∧ Dc H d n ∧ n + xs.length ≤ 1000000 ∧ SqL K H l (xs.map V.str) ∧ xs.length ≤ 20 ∧ (∀ x ∈ xs, NameOk x) ∧
  ∀ (p : Addr) (ys : List Str) (H' : Hp), ys.Perm xs → H p = none → EW.Kept d H H' → Dc H' d (n + xs.length) → H' p = some (.lst (ys.map V.str)) → Q (.ref p) H'
section
variable {P : Program} {w : World} {K : W.Frag} {mg : Str → Option Value} {base : Heap}
theorem strs_shaped (l : List Str) (h : ∀ x ∈ l, NameOk x) : SeqAt.shaped (.list (l.map PyData.str)) = true := by
  simp [SeqAt.shaped, PyData.canLay0, strs_lay l h, PyData.depth, strs_depth]
theorem er_map {α β : Type} (f : α → β) : ∀ (l : List α) (j : Nat), (l.map f).eraseIdx j = (l.eraseIdx j).map f
  | [], j => by cases j <;> rfl
  | _ :: _, 0 => rfl
  | x :: r, j + 1 => by
    show f x :: (r.map f).eraseIdx j = f x :: (r.eraseIdx j).map f
    rw [er_map f r j]
theorem er_perm {α : Type} : ∀ (l : List α) (j : Nat) (h : j < l.length), (l[j] :: l.eraseIdx j).Perm l
  | _ :: _, 0, _ => List.Perm.refl _
  | x :: r, j + 1, h => by
    have h' : j < r.length := Nat.lt_of_succ_lt_succ h
    show (r[j] :: x :: r.eraseIdx j).Perm (x :: r)
    exact (List.Perm.swap x r[j] _).trans ((er_perm r j h').cons x)
theorem ok_mixed {fd : FuncData} (F : FnP K "_law_mixed" sMixed fd) (T : Fre mg) (D_law_roll : Df P w K mg base 1 "_law_roll" ["_law_dice_here", "_law_many"] spRoll) : FnOk P w K mg base CX0 2 (He.ga K "_law_mixed") fd ["_law_dice_here", "_law_items"] (spMixed K) := by
  refine F.ok Mixed (fun vs H Q E h => ?_) (fun cdv A outer s H vs Q E hr h => ?_)
  · obtain ⟨d, l, xs, n, rfl, _⟩ := h
    rfl
  · obtain ⟨d, l, xs, n, rfl, D, hn, hS, hl, hN, k⟩ := h
    have hbig : (64 : Nat) ≤ sizeLine := by decide
    refine ⟨_, PSs.nox (pss_cons (ps_cut (ps_par (i := 2) (j := 3) (by rfl) Mixed.nd rfl rfl (by decide) rfl rfl (pa_cons (pe_callTy (call_listS K rfl) (by rfl) T.list EW.boot_list (pa_cons (pv 1) pa_nil)) (pa_cons (pe_lstS pa_nil) pa_nil)) (by rfl)))
      (pss_cons (ps_while PassesOwn.never (pt_cmpR (op_neDK K rfl hr.units) (pv 2) (pe_lstS pa_nil) (nomark _)) (pss_one (ps_expr (pe_bm PySem.F.plainAttrs_list PySem.F.slot_list_append PySem.F.type_list_append mt_append (pv 3) (pa_cons (pe_bm PySem.F.plainAttrs_list PySem.F.slot_list_pop PySem.F.type_list_pop mt_popAt (pv 2) (pa_cons (pe_df D_law_roll (hr.mono (by decide)) rfl (pa_cons (pv 0) (pa_cons (pe_callB (call_lenK K rfl) (by rfl) T.len PySem.boot_len (pa_cons (pv 2) pa_nil)) pa_nil))) pa_nil)) pa_nil)))))
      (pss_one (ps_ret (pv 3))))), ?_⟩
    refine ⟨fun σ' H' => ∃ L Fd : Addr, σ' = [some (.ref d), some (.ref l), some (.ref L), some (.ref Fd)] ∧ H L = none ∧ H Fd = none ∧ L ≠ Fd ∧ Same H H' ∧ H' L = some (.lst (xs.map V.str)) ∧ H' Fd = some (.lst []), ?_, ?_⟩
    · refine ⟨_, rfl, l, _, rfl, .inl hS, fun L H1 n1 s1 e1 => ?_⟩
      refine ⟨by decide, fun Fd H2 n2 s2 e2 => nil_ ⟨_, _, rfl, L, Fd, rfl, n1, ?_, fun z => ?_, s1.trans s2, s2 _ _ e1, e2⟩⟩
      · cases q : H Fd with
        | none => rfl
        | some o =>
          rw [s1 _ _ q] at n2
          cases n2
      · rw [← z, e1] at n2
        cases n2
    · rintro σ' H1 ⟨L, Fd, rfl, nL, nF, ne, s1, eL, eF⟩
      have Ld : L ≠ d := fun z => by
        obtain ⟨g, b, c, h1, _⟩ := D
        rw [z, h1] at nL
        cases nL
      have Fdd : Fd ≠ d := fun z => by
        obtain ⟨g, b, c, h1, _⟩ := D
        rw [z, h1] at nF
        cases nF
      refine ⟨fun m σ' H' => ∃ us vs : List Str, m = us.length ∧ σ' = [some (.ref d), some (.ref l), some (.ref L), some (.ref Fd)] ∧ H' L = some (.lst (us.map V.str)) ∧ H' Fd = some (.lst (vs.map V.str)) ∧ (vs ++ us).Perm xs ∧ EW.Kept d H H' ∧ Dc H' d (n + vs.length), ⟨_, xs, [], rfl, rfl, eL, eF, List.Perm.refl _, kept_of s1, (D.same s1).mono (by simp)⟩, ?_⟩
      rintro m σ' H2 ⟨us, vs, rfl, rfl, eL2, eF2, pe, k2, D2⟩
      have hlen : vs.length + us.length = xs.length := by
        rw [← List.length_append]
        exact pe.length_eq
      have hNu : ∀ x ∈ us, NameOk x := fun x hx => hN x (pe.mem_iff.mp (List.mem_append_right _ hx))
      refine ⟨_, rfl, by decide, fun q H3 n3 s3 e3 => ?_⟩
      refine neNil (.lst (SqL.of (s3 _ _ eL2)) (strs_dp us)) (strs_shaped us hNu) (.lst (SqL.of e3) .nil) ⟨_, rfl, ?_⟩
      have k3 : EW.Kept d H H3 := k2.trans (kept_of s3)
      have D3 := D2.same s3
      have eL3 := s3 _ _ eL2
      have eF3 := s3 _ _ eF2
      cases us with
      | nil =>
        refine iteN rfl ⟨_, rfl, k Fd vs H3 (by rw [List.append_nil] at pe; exact pe) nF k3 (D3.mono ?_) eF3⟩
        simp at hlen
        omega
      | cons u0 us0 =>
        refine iteD rfl ⟨fun σ' H' => ∃ us vs : List Str, us.length < (u0 :: us0).length ∧ σ' = [some (.ref d), some (.ref l), some (.ref L), some (.ref Fd)] ∧ H' L = some (.lst (us.map V.str)) ∧ H' Fd = some (.lst (vs.map V.str)) ∧ (vs ++ us).Perm xs ∧ EW.Kept d H H' ∧ Dc H' d (n + vs.length), fun σ' H' ⟨us, vs, lt, r⟩ => ⟨us.length, lt, us, vs, rfl, r⟩, ?_⟩
        generalize hus : u0 :: us0 = us at *
        have hpos : 0 < us.length := by
          rw [← hus]
          simp
        refine ⟨_, rfl, .inl ⟨rfl, _, SqL.of eF3⟩, _, rfl, .inl ⟨rfl, _, SqL.of eL3⟩, ?_⟩
        refine ⟨_, rfl, _, rfl, _, _, rfl, .inl ⟨_, SqL.of eL3, rfl⟩, nil_ ?_⟩
        refine ⟨d, _, _, rfl, D3, by omega, by rw [List.length_map]; omega, by rw [List.length_map]; omega, fun r H4 r0 r1 k4 D4 => nil_ ?_⟩
        rw [List.length_map] at r1
        obtain ⟨j, rfl⟩ : ∃ j : Nat, r = (j : Int) := ⟨r.toNat, by omega⟩
        have hj : j < us.length := by omega
        have eL4 := k4 _ _ Ld eL3
        have eF4 := k4 _ _ Fdd eF3
        have hy : (us.map V.str)[j]? = some (.str us[j]) := by
          rw [List.getElem?_map, List.getElem?_eq_getElem hj]
          rfl
        refine ⟨L, _, _, j, _, rfl, rfl, eL4, by omega, by omega, by rw [List.length_map]; exact seqIx hj, hy, nil_ ?_⟩
        have eF5 : upd H4 L (.lst ((us.map V.str).eraseIdx j)) Fd = some (.lst (vs.map V.str)) := by
          rw [upd_ne (Ne.symm ne)]
          exact eF4
        refine ⟨Fd, _, _, rfl, rfl, eF5, by rw [List.length_map]; omega, ?_⟩
        refine ⟨us.eraseIdx j, vs ++ [us[j]], by rw [List.length_eraseIdx_of_lt hj]; omega, rfl, ?_, by rw [upd_same, List.map_append]; rfl, ?_, ?_, ?_⟩
        · rw [upd_ne ne, upd_same, er_map]
        · refine List.Perm.trans ?_ pe
          rw [List.append_assoc]
          refine List.Perm.append_left vs ?_
          exact er_perm us j hj
        · intro b o nb hb
          have h4 := k4 b o nb (k3 b o nb hb)
          rw [upd_ne (fun z => by rw [z, nF] at hb; cases hb), upd_ne (fun z => by rw [z, nL] at hb; cases hb)]
          exact h4
        · obtain ⟨g, b, c, h1, r⟩ := D4
          refine Dc.mono ⟨g, b, c, ?_, r⟩ (by rw [List.length_append]; show _ ≤ n + ((vs.length + 1 : Nat) : Int); omega)
          rw [upd_ne (Ne.symm Fdd), upd_ne (Ne.symm Ld)]
          exact h1
end
end TM
end

section
set_option maxHeartbeats 4000000
namespace TM
open PySem PySem.Spec PyProof.Rows L2 EW
abbrev NTimesOf : List Str := ["_law_shape_here", "_law_name"]
theorem TimesOf : FnScope NTimesOf ["_law_shape_here"] (defScope sTimesOf) := ⟨rfl, rfl, rfl, by decide +kernel, rfl, by decide +kernel, by decide +kernel⟩
abbrev NDomsOf : List Str := ["_law_shape_here", "_law_name"]
theorem DomsOf : FnScope NDomsOf ["_law_shape_here"] (defScope sDomsOf) := ⟨rfl, rfl, rfl, by decide +kernel, rfl, by decide +kernel, by decide +kernel⟩
section
variable {P : Program} {w : World} {K : W.Frag} {mg : Str → Option Value} {base : Heap}
theorem ok_timesOf {fd : FuncData} (F : FnP K "_law_times_of" sTimesOf fd) (T : Fre mg) : FnOk P w K mg base CX0 1 (He.ga K "_law_times_of") fd ["_law_shape_here"] (spNames K tms) := by
  refine F.ok TimesOf (fun vs H Q E h => ?_) (fun cdv A outer s H vs Q E hr h => ?_)
  · obtain ⟨v, S, rfl, _⟩ := h
    rfl
  · obtain ⟨v, S, rfl, ⟨d, kvs, rfl, hd, en⟩, so, k⟩ := h
    have hbig : (64 : Nat) ≤ sizeLine := by decide
    refine ⟨_, PSs.nox (pss_one (ps_ret (pe_callB (cr_sortedS (X := _)) (by rfl) T.sorted EW.boot_sorted (pa_cons (pe_lock (pe_lc (own := [("_law_name", 1)]) (g := gName 1) (tt := _) (by rfl) TimesOf.nd (pi_keys (pv 0)) (blkOk_by (own := [("_law_name", 1)]) (N := NTimesOf) (sc := defScope sTimesOf) (by decide +kernel)) (fun _ _ _ _ _ => (pg_name (i := 1) TimesOf.nd rfl (Or.inl rfl))) (fun _ _ _ _ _ => (pts_one (pt_cmpR (op_eqDK K rfl hr.units) (pe_dget hr.u1 (pv 0) (pv 1) (fun _ _ => rfl)) pe_str (nomark _)))) (fun _ _ _ _ _ => (pe_callTy SkE.call_str_str (by rfl) T.str EW.boot_str (pa_cons (pv 1) pa_nil))))) pa_nil)))), ?_⟩
    refine ⟨d, _, hd, True.intro, fun od => ?_⟩
    refine ⟨_, rfl, d, od, rfl, .inl ⟨kvs, upd_same, fun D hD => ?_⟩⟩
    have en2 := en.lock (o := od) hd
    have hlen := Paired.length en
    refine loop_keys (fun i H' => H' D = some (.lst ((((S.take i).filter fun q => q.2.isT).map (·.1)).map V.str)) ∧ Same (upd H d (.frz od (.dK kvs))) H') ⟨upd_same, upd_new hD⟩ ?_ ?_ ?_
    · rintro i H' _ ⟨_, s1⟩
      exact s1 _ _ upd_same
    · rintro i kk v H1 hkv ⟨eD, s1⟩
      obtain ⟨z, kd, hz, rfl, _⟩ := ent_at en2 hkv
      have hi : i < S.length := (List.getElem?_eq_some_iff.mp hz).1
      have et : S.take (i + 1) = S.take i ++ [(z, kd)] := by
        rw [List.take_add_one, hz]
        rfl
      have hm : (z, kd) ∈ S := List.mem_of_getElem? hz
      obtain ⟨x, hx, kx⟩ := ent_val (en2.same s1) so.nd hm
      refine ⟨rfl, ?_⟩
      refine ⟨_, rfl, _, rfl, d, x, rfl, .inl ⟨kvs, Sum.inr z, .inr ⟨od, s1 _ _ upd_same⟩, rfl, hx.symm⟩, ?_⟩
      refine ⟨kdD kd, .str "time", kd_dp kx, .str _, kd_shaped kd (so.dom _ hm), by decide +kernel, _, rfl, ?_⟩
      have hl : (((S.take i).filter fun q => q.2.isT).map (·.1)).length < 64 := by
        have := so.all
        have h2 := List.length_filter_le (fun q : Str × Kd => q.2.isT) (S.take i)
        rw [List.length_map]
        rw [List.length_take] at h2
        omega
      rw [kd_eqv]
      cases h : kd.isT with
      | true =>
        refine iteT ⟨_, rfl, _, rfl, ?_⟩
        refine ⟨_, eD, by rw [List.length_map]; omega, ?_, same_upd s1 hD⟩
        rw [upd_same, et, List.filter_append, List.map_append, List.map_append, List.filter_cons_of_pos (by simp [h])]
        rfl
      | false =>
        refine iteF ⟨?_, s1⟩
        rw [et, List.filter_append, List.filter_cons_of_neg (by simp [h]), List.filter_nil, List.append_nil]
        exact eD
    · rintro H1 ⟨eD, s1⟩
      refine ⟨s1 _ _ upd_same, ?_⟩
      have nD : D ≠ d := fun z => by
        rw [z, upd_same] at hD
        cases hD
      have e1 : S.take kvs.length = S := by rw [hlen, List.take_length]
      rw [e1] at eD
      have hl : (((S.filter fun q => q.2.isT).map (·.1))).length < 64 := by
        have := so.all
        have h2 := List.length_filter_le (fun q : Str × Kd => q.2.isT) S
        rw [List.length_map]
        omega
      refine ⟨D, _, rfl, SqL.of (by rw [upd_ne nD]; exact eD), hl, fun ys p pe so' hp => ?_⟩
      have ey := srt_eq pe so'
      refine k p _ (same_upd (same_lock hd s1) ?_) ?_
      · cases q : H p with
        | none => rfl
        | some o =>
          have := same_lock hd s1 _ _ q
          rw [hp] at this
          cases this
      · rw [upd_same, ey]
        rfl
theorem ok_domsOf {fd : FuncData} (F : FnP K "_law_domains_of" sDomsOf fd) (T : Fre mg) : FnOk P w K mg base CX0 1 (He.ga K "_law_domains_of") fd ["_law_shape_here"] (spNames K dms) := by
  refine F.ok DomsOf (fun vs H Q E h => ?_) (fun cdv A outer s H vs Q E hr h => ?_)
  · obtain ⟨v, S, rfl, _⟩ := h
    rfl
  · obtain ⟨v, S, rfl, ⟨d, kvs, rfl, hd, en⟩, so, k⟩ := h
    have hbig : (64 : Nat) ≤ sizeLine := by decide
    refine ⟨_, PSs.nox (pss_one (ps_ret (pe_callB (cr_sortedS (X := _)) (by rfl) T.sorted EW.boot_sorted (pa_cons (pe_lock (pe_lc (own := [("_law_name", 1)]) (g := gName 1) (tt := _) (by rfl) DomsOf.nd (pi_keys (pv 0)) (blkOk_by (own := [("_law_name", 1)]) (N := NDomsOf) (sc := defScope sDomsOf) (by decide +kernel)) (fun _ _ _ _ _ => (pg_name (i := 1) DomsOf.nd rfl (Or.inl rfl))) (fun _ _ _ _ _ => (pts_one (pt_cmpR (op_neDK K rfl hr.units) (pe_dget hr.u1 (pv 0) (pv 1) (fun _ _ => rfl)) pe_str (nomark _)))) (fun _ _ _ _ _ => (pe_callTy SkE.call_str_str (by rfl) T.str EW.boot_str (pa_cons (pv 1) pa_nil))))) pa_nil)))), ?_⟩
    refine ⟨d, _, hd, True.intro, fun od => ?_⟩
    refine ⟨_, rfl, d, od, rfl, .inl ⟨kvs, upd_same, fun D hD => ?_⟩⟩
    have en2 := en.lock (o := od) hd
    have hlen := Paired.length en
    refine loop_keys (fun i H' => H' D = some (.lst ((((S.take i).filter fun q => !q.2.isT).map (·.1)).map V.str)) ∧ Same (upd H d (.frz od (.dK kvs))) H') ⟨upd_same, upd_new hD⟩ ?_ ?_ ?_
    · rintro i H' _ ⟨_, s1⟩
      exact s1 _ _ upd_same
    · rintro i kk v H1 hkv ⟨eD, s1⟩
      obtain ⟨z, kd, hz, rfl, _⟩ := ent_at en2 hkv
      have hi : i < S.length := (List.getElem?_eq_some_iff.mp hz).1
      have et : S.take (i + 1) = S.take i ++ [(z, kd)] := by
        rw [List.take_add_one, hz]
        rfl
      have hm : (z, kd) ∈ S := List.mem_of_getElem? hz
      obtain ⟨x, hx, kx⟩ := ent_val (en2.same s1) so.nd hm
      refine ⟨rfl, ?_⟩
      refine ⟨_, rfl, _, rfl, d, x, rfl, .inl ⟨kvs, Sum.inr z, .inr ⟨od, s1 _ _ upd_same⟩, rfl, hx.symm⟩, ?_⟩
      refine ⟨kdD kd, .str "time", kd_dp kx, .str _, kd_shaped kd (so.dom _ hm), by decide +kernel, _, rfl, ?_⟩
      have hl : (((S.take i).filter fun q => !q.2.isT).map (·.1)).length < 64 := by
        have := so.all
        have h2 := List.length_filter_le (fun q : Str × Kd => !q.2.isT) (S.take i)
        rw [List.length_map]
        rw [List.length_take] at h2
        omega
      rw [kd_eqv]
      cases h : kd.isT with
      | false =>
        refine iteT ⟨_, rfl, _, rfl, ?_⟩
        refine ⟨_, eD, by rw [List.length_map]; omega, ?_, same_upd s1 hD⟩
        rw [upd_same, et, List.filter_append, List.map_append, List.map_append, List.filter_cons_of_pos (by simp [h])]
        rfl
      | true =>
        refine iteF ⟨?_, s1⟩
        rw [et, List.filter_append, List.filter_cons_of_neg (by simp [h]), List.filter_nil, List.append_nil]
        exact eD
    · rintro H1 ⟨eD, s1⟩
      refine ⟨s1 _ _ upd_same, ?_⟩
      have nD : D ≠ d := fun z => by
        rw [z, upd_same] at hD
        cases hD
      have e1 : S.take kvs.length = S := by rw [hlen, List.take_length]
      rw [e1] at eD
      have hl : (((S.filter fun q => !q.2.isT).map (·.1))).length < 64 := by
        have := so.all
        have h2 := List.length_filter_le (fun q : Str × Kd => !q.2.isT) S
        rw [List.length_map]
        omega
      refine ⟨D, _, rfl, SqL.of (by rw [upd_ne nD]; exact eD), hl, fun ys p pe so' hp => ?_⟩
      have ey := srt_eq pe so'
      refine k p _ (same_upd (same_lock hd s1) ?_) ?_
      · cases q : H p with
        | none => rfl
        | some o =>
          have := same_lock hd s1 _ _ q
          rw [hp] at this
          cases this
      · rw [upd_same, ey]
        rfl
end
end TM
end

section
set_option maxHeartbeats 4000000
namespace TM
open PySem PySem.Spec PyProof.Rows L2 EW
abbrev NShape : List Str := ["_law_dice_here", "_law_most", "_law_names", "_law_times", "_law_domains", "_law_found", "_law_name"]
theorem Shape : FnScope NShape ["_law_dice_here", "_law_most"] (defScope sShape) := ⟨rfl, rfl, rfl, by decide +kernel, rfl, by decide +kernel, by decide +kernel⟩
theorem cut_to (us : List V) (i : Nat) : cutV us none (some (i : Int)) = us.take i := by
  unfold cutV
  rw [HT.sIx_nat, HT.sIx_none, List.drop_zero, Nat.sub_zero, ← List.take_take, List.take_length]
theorem cut_from (us : List V) (i : Nat) (h : i < us.length) : cutV us (some ((i : Int) + 1)) none = us.drop (i + 1) := by
  unfold cutV
  rw [show (i : Int) + 1 = ((i + 1 : Nat) : Int) from rfl, HT.sIx_nat, HT.sIx_none, show min (i + 1) us.length = i + 1 by omega]
  exact List.take_of_length_le (by simp)
def NM : List Str := ["a", "begin", "day", "end", "room", "x", "zz"]
def DOMS : List (List Str) := [["blue", "red"], ["a"], ["b", "begin", "c"]]
theorem nm_ok : ∀ x ∈ NM, NameOk x ∧ x ≠ "now" := by decide +kernel
theorem nm_nodup : NM.Nodup := by decide +kernel
theorem doms_ok : ∀ l ∈ DOMS, DomOk l := by
  have h : ∀ l ∈ DOMS, 1 ≤ l.length ∧ l.length ≤ 8 ∧ (∀ z ∈ l, NameOk z ∧ z ≠ "time") ∧ Rise l := by decide +kernel
  exact fun l hl => ⟨(h l hl).1, (h l hl).2.1, (h l hl).2.2.1, (h l hl).2.2.2⟩
/-- a drawn shape -/
structure Drawn (S : Shp) : Prop where
  ok : ShpOk S
  nm : ∀ q ∈ S, q.1 ∈ NM
  kd : ∀ q ∈ S, ∀ l, q.2 = .dom l → l ∈ DOMS
  two : S.length - (tms S).length ≤ 2
def spShapeL (K : W.Frag) : Sp := fun vs H Q _ => ∃ (d : Addr) (most n : Int), vs = [.ref d, .int most] ∧ Dc H d n ∧ n + 20 ≤ 1000000 ∧ 0 ≤ most ∧ most ≤ 2 ∧
  ∀ (p : Addr) (S : Shp) (H' : Hp), H p = none → ShpAt K H' (.ref p) S → Drawn S → ((tms S).length : Int) ≤ most → EW.Kept d H H' → Dc H' d (n + 20) → Q (.ref p) H'
theorem mergeK_new : ∀ (more acc : List (Key × V)), (∀ q ∈ more, valV acc q.1 = none) → (more.map (·.1)).Nodup → mergeK acc more = acc ++ more
  | [], acc, _, _ => (List.append_nil acc).symm
  | p :: r, acc, h, nd => by
    rw [List.map_cons, List.nodup_cons] at nd
    show mergeK (putK acc p.1 p.2) r = _
    have h0 := h p List.mem_cons_self
    rw [putK_new p.2 h0, mergeK_new r _ (fun q hq => ?_) nd.2, List.append_assoc]
    · rfl
    · rw [valV_snoc p.1 q.1 p.2 acc h0, if_neg (fun e => nd.1 (List.mem_map.mpr ⟨q, hq, e⟩))]
      exact h q (List.mem_cons_of_mem _ hq)
theorem ent_none {K : W.Frag} {H : Hp} {z : Str} : ∀ {kvs : List (Key × V)} {S : Shp}, Ent K H kvs S → z ∉ S.map (·.1) → valV kvs (Sum.inr z : Key) = none
  | _, _, .nil, _ => rfl
  | (key, x) :: kvs, (y, k) :: S, .cons h t, hz => by
    have e : key = Sum.inr y := h.1
    rw [List.map_cons, List.mem_cons, not_or] at hz
    rw [show valV ((key, x) :: kvs) (Sum.inr z : Key) = valV kvs (Sum.inr z) from valV_neg (fun w => by rw [e] at w; cases w; exact hz.1 rfl)]
    exact ent_none t hz.2
theorem ent_times {K : W.Frag} {H : Hp} : ∀ l : List Str, Ent K H (l.map fun x => ((Sum.inr x : Key), V.str "time")) (l.map fun x => (x, Kd.time))
  | [] => .nil
  | x :: r => .cons ⟨rfl, rfl⟩ (ent_times r)
theorem tms_len (S : Shp) : (tms S).length = (S.filter fun q => q.2.isT).length := by
  unfold tms
  rw [(srt_perm _).length_eq, List.length_map]
section
variable {P : Program} {w : World} {K : W.Frag} {mg : Str → Option Value} {base : Heap}
theorem ok_shapeL {fd : FuncData} (F : FnP K "_law_shape" sShape fd) (T : Fre mg) (D_law_mixed : Df P w K mg base 2 "_law_mixed" ["_law_dice_here", "_law_items"] (spMixed K)) (D_law_pick : Df P w K mg base 2 "_law_pick" ["_law_dice_here", "_law_items"] (spPick K)) :
    FnOk P w K mg base CX0 3 (He.ga K "_law_shape") fd ["_law_dice_here", "_law_most"] (spShapeL K) := by
  refine F.ok Shape (fun vs H Q E h => ?_) (fun cdv A outer s H vs Q E hr h => ?_)
  · obtain ⟨d, most, n, rfl, _⟩ := h
    rfl
  · obtain ⟨d, most, n, rfl, D, hn, m0, m2, k⟩ := h
    have hbig : (64 : Nat) ≤ sizeLine := by decide
    refine ⟨_, PSs.nox (pss_cons (ps_cut (ps_set (i := 2) Shape.nd rfl (Or.inl rfl) (pe_df D_law_mixed (hr.mono (by decide)) rfl (pa_cons (pv 0) (pa_cons (pe_lstS (pa_cons pe_str (pa_cons pe_str (pa_cons pe_str (pa_cons pe_str (pa_cons pe_str (pa_cons pe_str (pa_cons pe_str pa_nil)))))))) pa_nil)))))
      (pss_cons (ps_cut (ps_par (i := 3) (j := 4) (by rfl) Shape.nd rfl rfl (by decide) rfl rfl (pa_cons (pe_df D_law_pick (hr.mono (by decide)) rfl (pa_cons (pv 0) (pa_cons (pe_slice (sl_listS K rfl) (pe_lstS (pa_cons pe_int (pa_cons pe_int (pa_cons pe_int (pa_cons pe_int (pa_cons pe_int pa_nil)))))) po_none (po_some (pe_op op_add pe_int (pv 1)))) pa_nil))) (pa_cons (pe_df D_law_pick (hr.mono (by decide)) rfl (pa_cons (pv 0) (pa_cons (pe_lstS (pa_cons pe_int (pa_cons pe_int (pa_cons pe_int (pa_cons pe_int (pa_cons pe_int pa_nil)))))) pa_nil))) pa_nil)) (by rfl)))
      (pss_cons (ps_cut (ps_if (pt_cmpR op_gt (pv 3) (pv 1) (nomark _)) (pss_one (ps_set (i := 3) Shape.nd rfl (Or.inl rfl) (pv 1))) pss_nil))
      (pss_cons (ps_cut (ps_set (i := 5) Shape.nd rfl (Or.inl rfl) (pe_callTy (call_dictP rfl) (by rfl) T.dict EW.boot_dict (pa_cons (pe_lc (own := [("_law_name", 6)]) (g := gName 6) (tt := tYes) (by rfl) Shape.nd (pi_listK (K := K) rfl (pe_slice (sl_listS K rfl) (pv 2) po_none (po_some (pv 3)))) (blkOk_by (own := [("_law_name", 6)]) (N := NShape) (sc := defScope sShape) (by decide +kernel)) (fun _ _ _ _ _ => (pg_name (i := 6) Shape.nd rfl (Or.inl rfl))) (fun _ _ _ _ _ => pts_nil) (fun _ _ _ _ _ => (pe_tupS (pa_cons (pv 6) (pa_cons pe_str pa_nil))))) pa_nil))))
      (pss_cons (ps_cut (ps_for PassesOwn.never rfl (pi_listK (K := K) rfl (pe_slice (sl_listS K rfl) (pv 2) (po_some (pv 3)) (po_some (pe_op op_add (pv 3) (pv 4))))) (pg_name (i := 6) Shape.nd rfl (Or.inl rfl)) (pss_one (ps_dput hr.u1 (pv 5) (pv 6) (pe_df D_law_pick (hr.mono (by decide)) rfl (pa_cons (pv 0) (pa_cons (pe_lstS (pa_cons (pe_tupS (pa_cons pe_str (pa_cons pe_str pa_nil))) (pa_cons (pe_tupS (pa_cons pe_str pa_nil)) (pa_cons (pe_tupS (pa_cons pe_str (pa_cons pe_str (pa_cons pe_str pa_nil)))) pa_nil)))) pa_nil))) rfl))))
      (pss_one (ps_ret (pv 5)))))))), ?_⟩
    -- names
    refine ⟨fun σ' H' => ∃ (pn : Addr) (ys : List Str), σ' = [some (.ref d), some (.int most), some (.ref pn), none, none, none, none] ∧ ys.Perm NM ∧ H pn = none ∧ EW.Kept d H H' ∧ Dc H' d (n + 7) ∧ H' pn = some (.lst (ys.map V.str)), ?_, ?_⟩
    · refine ⟨_, rfl, (by show 7 ≤ sizeLine; decide), fun q H1 n1 s1 e1 => nil_ ?_⟩
      refine ⟨d, q, NM, n, rfl, D.same s1, by show n + ((7 : Nat) : Int) ≤ _; omega, SqL.of e1, by decide, fun x hx => (nm_ok x hx).1, fun p ys H2 pe np k2 D2 e2 => ?_⟩
      refine ⟨p, ys, rfl, pe, ?_, (kept_of s1).trans k2, D2, e2⟩
      cases q2 : H p with
      | none => rfl
      | some o =>
        rw [s1 _ _ q2] at np
        cases np
    · rintro σ' H1 ⟨pn, ys, rfl, pe, nn, k1, D1, e1⟩
      have pnd : pn ≠ d := fun z => by
        obtain ⟨g, b, c, h1, _⟩ := D
        rw [z, h1] at nn
        cases nn
      have ylen : ys.length = 7 := pe.length_eq
      have ynd : ys.Nodup := pe.nodup_iff.mpr nm_nodup
      have ymem : ∀ x ∈ ys, x ∈ NM := fun x hx => pe.mem_iff.mp hx
      -- numbers
      refine ⟨fun σ' H' => ∃ t m : Nat, σ' = [some (.ref d), some (.int most), some (.ref pn), some (.int t), some (.int m), none, none] ∧ t ≤ 2 ∧ m ≤ 2 ∧ EW.Kept d H H' ∧ Dc H' d (n + 9) ∧ H' pn = some (.lst (ys.map V.str)), ?_, ?_⟩
      · refine ⟨_, rfl, (by show 5 ≤ sizeLine; decide), fun q H2 n2 s2 e2 => ?_⟩
        refine ⟨_, rfl, _, _, rfl, rfl, _, rfl, q, _, rfl, SqL.of e2, fun q2 H3 n3 s3 e3 => nil_ ?_⟩
        rw [show 3 + most = ((3 + most.toNat : Nat) : Int) by omega, cut_to] at e3
        refine ⟨d, q2, _, _, rfl, D1.same (s2.trans s3), by omega, .inl ⟨SqL.of e3, (D1.same s2).nn n3⟩, by rw [List.length_take]; show 0 < min _ 5; omega, by rw [List.length_take]; show min _ 5 < 1000; omega, fun v H4 hv k4 D4 => ?_⟩
        obtain ⟨t, rfl, ht⟩ : ∃ t : Nat, v = .int t ∧ t ≤ 2 := by
          have hv := List.mem_of_mem_take hv
          simp only [List.mem_cons, List.not_mem_nil, or_false] at hv
          rcases hv with rfl | rfl | rfl | rfl | rfl
          · exact ⟨1, rfl, by decide⟩
          · exact ⟨1, rfl, by decide⟩
          · exact ⟨2, rfl, by decide⟩
          · exact ⟨2, rfl, by decide⟩
          · exact ⟨0, rfl, by decide⟩
        refine ⟨_, rfl, (by show 5 ≤ sizeLine; decide), fun q3 H5 n5 s5 e5 => nil_ ?_⟩
        refine ⟨d, q3, _, _, rfl, D4.same s5, by omega, .inl ⟨SqL.of e5, D4.nn n5⟩, by decide, by decide, fun v H6 hv k6 D6 => ?_⟩
        obtain ⟨m, rfl, hm⟩ : ∃ t : Nat, v = .int t ∧ t ≤ 2 := by
          simp only [List.mem_cons, List.not_mem_nil, or_false] at hv
          rcases hv with rfl | rfl | rfl | rfl | rfl
          · exact ⟨0, rfl, by decide⟩
          · exact ⟨0, rfl, by decide⟩
          · exact ⟨1, rfl, by decide⟩
          · exact ⟨1, rfl, by decide⟩
          · exact ⟨2, rfl, by decide⟩
        exact nil_ ⟨_, _, rfl, t, m, rfl, ht, hm, k1.trans ((kept_of (s2.trans s3)).trans (k4.trans ((kept_of s5).trans k6))), D6.mono (by omega), k6 _ _ pnd (s5 _ _ (k4 _ _ pnd (s3 _ _ (s2 _ _ e1))))⟩
      · rintro σ' H2 ⟨t0, m, rfl, ht0, hm, k2, D2, e2⟩
        refine ⟨fun σ' H' => ∃ t : Nat, σ' = [some (.ref d), some (.int most), some (.ref pn), some (.int t), some (.int m), none, none] ∧ t ≤ 2 ∧ (t : Int) ≤ most ∧ H' = H2, ?_, ?_⟩
        · refine ⟨_, rfl, _, rfl, _, _, rfl, rfl, _, rfl, ite2 (fun c => ?_) fun c => ?_⟩
          · exact ⟨_, rfl, most.toNat, by rw [Int.toNat_of_nonneg m0]; rfl, by omega, by omega, rfl⟩
          · have c := not_of c
            exact ⟨t0, rfl, ht0, by omega, rfl⟩
        · rintro σ' H2' ⟨t, rfl, ht, htm, rfl⟩
          -- found
          refine ⟨fun σ' H' => ∃ (F : Addr) (kvs : List (Key × V)), σ' = [some (.ref d), some (.int most), some (.ref pn), some (.int t), some (.int m), some (.ref F), none] ∧ H F = none ∧ F ≠ pn ∧ Same H2' H' ∧ H' F = some (.dK kvs) ∧ Ent K H' kvs ((ys.take t).map fun x => (x, Kd.time)), ?_, ?_⟩
          · refine ⟨_, rfl, _, rfl, _, rfl, pn, _, rfl, SqL.of e2, fun q3 H3 n3 s3 e3 => ?_⟩
            rw [cut_to, ← List.map_take] at e3
            refine ⟨q3, rfl, ⟨_, SqL.of e3⟩, fun D0 hD => ?_⟩
            refine loop_list (xs := (ys.take t).map V.str) (fun i H' => ∃ ps : List Addr, H' D0 = some (.lst (ps.map V.ref)) ∧ Same H3 H' ∧ ps.length = i ∧ Paired (fun p (kv : Key × V) => SqT K H' p [kV kv.1, kv.2]) ps (((ys.take t).take i).map fun x => ((Sum.inr x : Key), V.str "time"))) ⟨[], upd_same, upd_new hD, rfl, .nil⟩ ?_ ?_ ?_
            · rintro i H4 _ ⟨_, _, s4, _⟩
              exact SqL.of (s4 _ _ e3)
            · rintro i v H4 hv ⟨ps, eD, s4, hl, hP⟩
              rw [List.getElem?_map] at hv
              obtain ⟨x, hx, rfl⟩ := Option.map_eq_some_iff.mp hv
              have hi : i < (ys.take t).length := (List.getElem?_eq_some_iff.mp hx).1
              rw [List.length_take] at hi
              refine ⟨rfl, ?_⟩
              refine ⟨_, rfl, (by show 2 ≤ sizeLine; decide), fun q5 H5 n5 s5 e5 => ?_⟩
              have kD : EW.Kept D0 H5 (upd H5 D0 (.lst ((ps ++ [q5]).map V.ref))) := Kept.upd
              refine ⟨_, s5 _ _ eD, by rw [List.length_map]; omega, ps ++ [q5], by rw [upd_same, List.map_append]; rfl, same_upd (s4.trans s5) hD, by rw [List.length_append, hl]; rfl, ?_⟩
              have em : ((ps.map V.ref) ++ [V.ref q5]) = (ps ++ [q5]).map V.ref := by
                rw [List.map_append]
                rfl
              have eT : (((ys.take t).take (i + 1)).map fun x => ((Sum.inr x : Key), V.str "time")) = (((ys.take t).take i).map fun x => ((Sum.inr x : Key), V.str "time")) ++ [(Sum.inr x, V.str "time")] := by
                rw [List.take_add_one, hx]
                exact List.map_append
              rw [em, eT]
              refine pr_append (Paired.mono (fun _ _ r => SqT.kept (SqT.same r s5) (s5 _ _ eD) kD) hP) (.cons ?_ .nil)
              exact SqT.kept (SqT.of e5) (s5 _ _ eD) kD
            · rintro H4 ⟨ps, eD, s4, hl, hP⟩
              rw [List.length_map, List.take_length] at hP
              refine ⟨D0, ps, _, rfl, SqL.of eD, hP, fun F0 hF => ?_⟩
              have k4 : EW.Kept d H H4 := k2.trans (kept_of (s3.trans s4))
              have F0d : F0 ≠ d := (D2.same (s3.trans s4)).nn hF
              have nF := k4.free hF F0d
              have Fp : F0 ≠ pn := fun z => by
                rw [z, s4 _ _ (s3 _ _ e2)] at hF
                cases hF
              have em : mergeK [] ((ys.take t).map fun x => ((Sum.inr x : Key), V.str "time")) = (ys.take t).map fun x => ((Sum.inr x : Key), V.str "time") := by
                refine (mergeK_new _ [] (fun _ _ => rfl) ?_).trans (List.nil_append _)
                rw [List.map_map]
                exact List.Pairwise.map _ (fun a b h e => h (Sum.inr.inj e)) (ynd.sublist (List.take_sublist _ _))
              rw [em]
              exact ⟨F0, _, rfl, nF, Fp, same_upd (s3.trans s4) (by
                cases q : H2' F0 with
                | none => rfl
                | some o =>
                  rw [(s3.trans s4) _ _ q] at hF
                  cases hF), upd_same, ent_times _⟩
          · rintro σ' H3 ⟨F0, kvs, rfl, nF, Fp, s3, eF, en⟩
            have F0d : F0 ≠ d := fun z => by
              obtain ⟨g, b, c, h1, _⟩ := D
              rw [z, h1] at nF
              cases nF
            have e3 := s3 _ _ e2
            refine ⟨fun σ' H' => ∃ (kvs : List (Key × V)) (S : Shp) (u6 : Option V), σ' = [some (.ref d), some (.int most), some (.ref pn), some (.int t), some (.int m), some (.ref F0), u6] ∧ H' F0 = some (.dK kvs) ∧ Ent K H' kvs S ∧ S.map (·.1) = ys.take (t + m) ∧ (∀ q ∈ S, ∀ l, q.2 = .dom l → l ∈ DOMS) ∧ (S.filter fun q => q.2.isT).length = t ∧ EW.Kept d H H' ∧ Dc H' d (n + 11), ?_, ?_⟩
            · refine ⟨_, rfl, _, rfl, _, rfl, _, rfl, _, rfl, _, _, rfl, rfl, _, rfl, pn, _, rfl, SqL.of e3, fun q4 H4 n4 s4 e4 => ?_⟩
              have ec : cutV (ys.map V.str) (some (t : Int)) (some ((t : Int) + (m : Int))) = ((ys.drop t).take m).map V.str := by
                unfold cutV
                rw [show (t : Int) + (m : Int) = ((t + m : Nat) : Int) from rfl, HT.sIx_nat, HT.sIx_nat, List.length_map, ylen, show min t 7 = t by omega, show min (t + m) 7 - t = m by omega, List.map_take, List.map_drop]
              rw [ec] at e4
              have q4d : q4 ≠ d := (D2.same s3).nn n4
              have q4F : q4 ≠ F0 := fun z => by
                rw [z, eF] at n4
                cases n4
              refine ⟨q4, rfl, ⟨_, SqL.of e4⟩, ?_⟩
              refine for_list (xs := ((ys.drop t).take m).map V.str) (fun j σ' H' => ∃ (kvs : List (Key × V)) (S : Shp) (u6 : Option V), σ' = [some (.ref d), some (.int most), some (.ref pn), some (.int t), some (.int m), some (.ref F0), u6] ∧ H' F0 = some (.dK kvs) ∧ Ent K H' kvs S ∧ S.map (·.1) = ys.take (t + j) ∧ (∀ q ∈ S, ∀ l, q.2 = .dom l → l ∈ DOMS) ∧ (S.filter fun q => q.2.isT).length = t ∧ EW.Kept d H H' ∧ Dc H' d (n + 9 + (j : Int)) ∧ H' q4 = some (.lst (((ys.drop t).take m).map V.str))) ?_ ?_ ?_ ?_
              · refine ⟨kvs, _, none, rfl, s4 _ _ eF, en.same s4, ?_, ?_, ?_, k2.trans (kept_of (s3.trans s4)), (D2.same (s3.trans s4)).mono (by omega), e4⟩
                · rw [List.map_map]
                  exact List.map_id _
                · intro q hq l e
                  obtain ⟨x, _, rfl⟩ := List.mem_map.mp hq
                  cases e
                · rw [List.filter_eq_self.mpr (fun q hq => by
                    obtain ⟨x, _, rfl⟩ := List.mem_map.mp hq
                    rfl), List.length_map, List.length_take]
                  omega
              · rintro j σ' H5 _ ⟨_, _, _, _, _, _, _, _, _, _, _, e5⟩
                exact SqL.of e5
              · rintro j xv σ' H5 hxv ⟨kvs, S, u6, rfl, eF5, en5, nm5, kd5, t5, k5, D5, e5⟩
                rw [List.getElem?_map] at hxv
                obtain ⟨x, hx, rfl⟩ := Option.map_eq_some_iff.mp hxv
                have hj : j < ((ys.drop t).take m).length := (List.getElem?_eq_some_iff.mp hx).1
                rw [List.length_take, List.length_drop] at hj
                have hx2 : ys[t + j]? = some x := by
                  rw [List.getElem?_take_of_lt (by omega), List.getElem?_drop] at hx
                  exact hx
                have slen : S.length = t + j := by
                  have := congrArg List.length nm5
                  rw [List.length_map, List.length_take] at this
                  omega
                refine ⟨_, rfl, (by show 2 ≤ sizeLine; decide), fun a1 H6 _ s6 e6 => (⟨(by show 1 ≤ sizeLine; decide), fun a2 H7 _ s7 e7 => (⟨(by show 3 ≤ sizeLine; decide), fun a3 H8 _ s8 e8 => ?_⟩)⟩)⟩
                refine ⟨(by show 3 ≤ sizeLine; decide), fun q9 H9 n9 s9 e9 => nil_ ?_⟩
                have sA := s6.trans (s7.trans (s8.trans s9))
                refine ⟨d, q9, [.ref a1, .ref a2, .ref a3], _, rfl, D5.same sA, by omega, .inl ⟨SqL.of e9, (D5.same (s6.trans (s7.trans s8))).nn n9⟩, by show 0 < 3; decide, by show 3 < 1000; decide, fun v HA hv kA DA => ?_⟩
                have nd5 : ∀ b : Addr, ∀ xs, H9 b = some (.tup xs) → HA b = some (.tup xs) := fun b xs e => kA b _ (fun z => by
                  obtain ⟨g, b', c, h1, _⟩ := D5.same sA
                  rw [z, h1] at e
                  cases e) e
                obtain ⟨l, hl, kl⟩ : ∃ l, l ∈ DOMS ∧ KdV K HA v (.dom l) := by
                  simp only [List.mem_cons, List.not_mem_nil, or_false] at hv
                  rcases hv with rfl | rfl | rfl
                  · exact ⟨["blue", "red"], by simp [DOMS], Tp.of (nd5 _ _ (s9 _ _ (s8 _ _ (s7 _ _ e6))))⟩
                  · exact ⟨["a"], by simp [DOMS], Tp.of (nd5 _ _ (s9 _ _ (s8 _ _ e7)))⟩
                  · exact ⟨["b", "begin", "c"], by simp [DOMS], Tp.of (nd5 _ _ (s9 _ _ e8))⟩
                have eFA := kA _ _ F0d (sA _ _ eF5)
                have enA : Ent K HA kvs S := Paired.mono (fun _ _ r => ⟨r.1, by
                  obtain ⟨g, b', c, h1, _⟩ := D5.same sA
                  exact (r.2.same sA).keptL h1 kA⟩) en5
                have klen : kvs.length = S.length := Paired.length enA
                have hnew : x ∉ S.map (·.1) := by
                  rw [nm5]
                  intro hm
                  obtain ⟨i, hi⟩ := List.getElem?_of_mem hm
                  have hi' := (List.getElem?_eq_some_iff.mp hi).1
                  rw [List.length_take] at hi'
                  rw [List.getElem?_take_of_lt (by omega)] at hi
                  have := (List.getElem?_inj (by omega) ynd).mp (hi.trans hx2.symm)
                  omega
                have vn := ent_none enA hnew
                have kF : EW.Kept F0 HA (upd HA F0 (.dK (putK kvs (Sum.inr x) v))) := Kept.upd
                refine ⟨_, rfl, _, rfl, F0, _, rfl, DPut.k (k := Sum.inr x) eFA (by omega), ?_⟩
                refine ⟨putK kvs (Sum.inr x) v, S ++ [(x, .dom l)], _, rfl, upd_same, ?_, ?_, ?_, ?_, ?_, ?_, ?_⟩
                · rw [putK_new v vn] at kF ⊢
                  exact pr_append (Paired.mono (fun _ _ r => ⟨r.1, r.2.keptD eFA kF⟩) enA) (.cons ⟨rfl, kl.keptD eFA kF⟩ .nil)
                · rw [List.map_append, nm5, ← Nat.add_assoc, List.take_add_one, hx2]
                  rfl
                · intro q hq l' e
                  rcases List.mem_append.mp hq with hq | hq
                  · exact kd5 q hq l' e
                  · rw [List.mem_singleton.mp hq] at e
                    cases e
                    exact hl
                · rw [List.filter_append, List.length_append, t5]
                  rfl
                · intro b o nb hb
                  rw [upd_ne (fun z => by rw [z, nF] at hb; cases hb)]
                  exact kA b o nb (sA _ _ (k5 b o nb hb))
                · obtain ⟨g, b', c, h1, r⟩ := DA
                  refine Dc.mono ⟨g, b', c, ?_, r⟩ (by omega)
                  rw [upd_ne (Ne.symm F0d)]
                  exact h1
                · rw [upd_ne q4F]
                  exact kA _ _ q4d (sA _ _ e5)
              · rintro σ' H5 ⟨kvs, S, u6, rfl, eF5, en5, nm5, kd5, t5, k5, D5, e5⟩
                refine ⟨kvs, S, u6, rfl, eF5, en5, ?_, kd5, t5, k5, D5.mono ?_⟩
                · rw [nm5, List.length_map, List.length_take, List.length_drop, ylen, show min m (7 - t) = m by omega]
                · rw [List.length_map, List.length_take, List.length_drop, ylen]
                  omega
            · rintro σ' H4 ⟨kvs, S, u6, rfl, eF4, en4, nm4, kd4, t4, k4, D4⟩
              have slen : S.length = t + m := by
                have := congrArg List.length nm4
                rw [List.length_map, List.length_take] at this
                omega
              have nmS : ∀ q ∈ S, q.1 ∈ NM := fun q hq => by
                have h : q.1 ∈ S.map (·.1) := List.mem_map.mpr ⟨q, hq, rfl⟩
                rw [nm4] at h
                exact ymem _ (List.mem_of_mem_take h)
              refine ⟨_, rfl, k F0 S H4 nF ⟨F0, kvs, rfl, eF4, en4⟩ ⟨⟨?_, fun q hq => nm_ok _ (nmS q hq), fun q hq l e => doms_ok l (kd4 q hq l e), ?_, ?_, by omega⟩, nmS, kd4, ?_⟩ ?_ k4 (D4.mono (by omega))⟩
              · rw [nm4]
                exact ynd.sublist (List.take_sublist _ _)
              · rw [tms_len, t4]
                exact ht
              · rw [tms_len, t4]
                omega
              · rw [tms_len, t4]
                omega
              · rw [tms_len, t4]
                exact htm
end
end TM
end

section
set_option maxHeartbeats 4000000
/-! EwEqNil: == of any small value and an empty tuple. -/
namespace EW
open PySem PySem.Spec PyProof.Rows PySem.SeqAt L2
theorem dict_declines_tuple (l b : Addr) (dd : Option Addr) (sl : Array (Option Value)) (es : Array DictEntry) (ep : Nat) (items2 : Array Value) (n2 : Nat) (dd2 : Option Addr) (sl2 : Array (Option Value)) :
    Meets (Builtin.«dict.__eq__» ⟨[.ref l, .ref b], []⟩) (fun _ R s => s.heap.get? l = some { cls := .type "dict", dict := dd, data := .dict es ep, slots := sl } ∧ s.heap.get? b = some { cls := .type "tuple", dict := dd2, data := .seq items2 n2, slots := sl2 } ∧ R (.ok (.ret .notImplemented)) s) :=
  .of_wp fun prog w A R s h => by
    obtain ⟨hp, g, d, tk, os⟩ := s
    obtain ⟨hl, hb, h⟩ := h
    have f1 := F.sub_tuple_dict
    wp_walk using wpAny_loadPart' hl, wpAny_loadPart' hb
    exact ⟨_, rfl, h⟩
theorem tuple_declines_dict (l b : Addr) (dd : Option Addr) (sl : Array (Option Value)) (es : Array DictEntry) (ep : Nat) (items2 : Array Value) (n2 : Nat) (dd2 : Option Addr) (sl2 : Array (Option Value)) :
    Meets (Builtin.«tuple.__eq__» ⟨[.ref b, .ref l], []⟩) (fun _ R s => s.heap.get? b = some { cls := .type "tuple", dict := dd2, data := .seq items2 n2, slots := sl2 } ∧ s.heap.get? l = some { cls := .type "dict", dict := dd, data := .dict es ep, slots := sl } ∧ R (.ok (.ret .notImplemented)) s) :=
  .of_wp fun prog w A R s h => by
    obtain ⟨hp, g, d, tk, os⟩ := s
    obtain ⟨hb, hl, h⟩ := h
    have f1 := F.sub_dict_tuple
    wp_walk using wpAny_loadPart' hb, wpAny_loadPart' hl
    exact ⟨_, rfl, h⟩
theorem rc_dict_tuple {A : Around} {s : Shared} {l b : Addr} {od : Obj} {es : Array DictEntry} {ep : Nat} {items2 : Array Value} (hl : s.heap.get? l = some od) (hcl : od.cls = .type "dict") (hdl : od.data = .dict es ep) (hb : s.heap.IsTuple b items2) (hu : A.units < cLine) : RcAt A s (.ref l) (.ref b) false := fun prog w E Q h => by
  obtain ⟨cls, dd, data, sl⟩ := od
  obtain ⟨⟨cls2, dd2, data2, sl2⟩, ho2, hc2, n2, hd2⟩ := id hb
  simp only at hcl hdl hc2 hd2
  subst hcl hdl hc2 hd2
  have hne : l ≠ b := fun e => by
    rw [e, ho2] at hl
    have z := congrArg Obj.cls (Option.some.inj hl)
    simp at z
  exact (rc_eq_decline_or (k := false) ⟨_, hl, rfl⟩ ⟨_, ho2, rfl⟩ (by decide) F.sub_tuple_dict F.slot_dict_eq F.slot_tuple_eq_refl
    (fun _ hq => call_meets F.slot_dict_eq ⟨_, hl, rfl⟩ F.entry_dict_eq (F.args_dict_eq_2 _ _) (dict_declines_tuple l b dd sl es ep items2 n2 dd2 sl2) ⟨hl, ho2, hq⟩)
    (fun _ hq => call_meets F.slot_tuple_eq_refl ⟨_, ho2, rfl⟩ F.entry_tuple_eq (F.args_tuple_eq_2 _ _) (tuple_declines_dict l b dd sl es ep items2 n2 dd2 sl2) ⟨ho2, hl, hq⟩)
    (fun _ hq => wpAny_isSame_ref_other hne hl ho2 (by simp) hq) (.inr hu) h)
/-- x == () -/
def rEqNil (K : W.Frag) : R2 := fun x y H Q => ∃ b, y = .ref b ∧ SqT K H b [] ∧ ((∃ a xs, x = .ref a ∧ SqT K H a xs ∧ Q (.bl xs.isEmpty) H) ∨
  ((x = .non ∨ (∃ i, x = .int i) ∨ (∃ b, x = .bl b) ∨ (∃ z, x = .str z) ∨ (∃ a xs, x = .ref a ∧ H a = some (.lst xs)) ∨ ∃ a kvs, x = .ref a ∧ H a = some (.dK kvs)) ∧ Q (.bl false) H))
theorem op_eqNilK {X : Cx} (K : W.Frag) (h : X.K = K) (hu : X.A.units + 64 < cLine) : OpR X (compareOp .Eq) (rEqNil K) := by
  subst h
  intro pins s σ H x y v u Q I rx ry h
  have hu0 : X.A.units < cLine := by omega
  obtain ⟨b, rfl, hb, h⟩ := h
  obtain rfl := ry
  obtain ⟨its, rv, ht, _⟩ := I.tuple hb
  cases rv
  have fin : ∀ {k : Bool}, Q (.bl k) H → EP X pins σ Q (.bool k) s := fun {k} q => ⟨.bl k, H, I, rfl, q⟩
  rcases h with ⟨a, xs, rfl, ha, q⟩ | ⟨h, q⟩
  · obtain rfl := rx
    obtain ⟨its, rv, hx, _⟩ := I.tuple ha
    have e := RcAt.tuples (A := X.A) (e := fun _ => true) hx ht hu0 (fun j h1 h2 => absurd h2 (by simp))
    refine e X.prog X.w X.xe _ (fin ?_)
    have el : xs.length = its.length := rv.length
    have : ((List.range (min its.toArray.size ([] : List Value).toArray.size)).all (fun _ => true) && its.toArray.size == ([] : List Value).toArray.size) = xs.isEmpty := by
      cases xs with
      | nil =>
        cases its with
        | nil => rfl
        | cons _ _ => cases el
      | cons _ _ =>
        cases its with
        | nil => cases el
        | cons _ _ => simp
    rw [this]
    exact q
  · have dt : Dp X.K H (.ref b) (.tuple []) := .tup hb .nil
    rcases h with rfl | ⟨i, rfl⟩ | ⟨k, rfl⟩ | ⟨z, rfl⟩ | ⟨a, xs, rfl, ha⟩ | ⟨a, kvs, rfl, ha⟩
    · exact op_eqD hu pins s σ H _ (.ref b) _ _ Q I rx rfl ⟨.none, _, .non, dt, by decide, by decide, q⟩
    · exact op_eqD hu pins s σ H _ (.ref b) _ _ Q I rx rfl ⟨.int i, _, .int i, dt, by simp [SeqAt.shaped, PyData.canLay0, PyData.depth], by decide, q⟩
    · exact op_eqD hu pins s σ H _ (.ref b) _ _ Q I rx rfl ⟨.bool k, _, .bl k, dt, by cases k <;> decide, by decide, q⟩
    · obtain ⟨t, rfl⟩ := rx
      exact RcAt.str_tuple z t ht hu0 X.prog X.w X.xe _ (fin q)
    · obtain rfl := rx
      obtain ⟨_, its, n, rv, hg⟩ := I.hok a _ ha
      exact RcAt.list_tuple ⟨_, hg, rfl, n, rfl⟩ ht hu0 X.prog X.w X.xe _ (fin q)
    · obtain rfl := rx
      obtain ⟨_, _, vs, _, o, es, ep, hg, ex, hd, _⟩ := I.hok a _ ha
      exact rc_dict_tuple hg ex.1 hd ht hu0 X.prog X.w X.xe _ (fin q)
end EW
end

section
set_option maxHeartbeats 4000000
/-! EwNeNil: xs != [] and xs == [] of a list of any values. -/
namespace EW
open PySem PySem.Spec PyProof.Rows PySem.SeqAt L2
def rNeNil (K : W.Frag) : R2 := fun x y H Q => ∃ (a b : Addr) (xs : List V), x = .ref a ∧ y = .ref b ∧ H a = some (.lst xs) ∧ H b = some (.lst []) ∧ Q (.bl (!xs.isEmpty)) H
theorem op_neNilK {X : Cx} (K : W.Frag) (h : X.K = K) (hu : X.A.units + 64 < cLine) : OpR X (compareOp .NotEq) (rNeNil K) := by
  subst h
  intro pins s σ H x y v u Q I rx ry h
  have hu0 : X.A.units < cLine := by omega
  obtain ⟨a, b, xs, rfl, rfl, ha, hb, q⟩ := h
  obtain rfl := rx
  obtain rfl := ry
  obtain ⟨_, its, n, rv, hg⟩ := I.hok a _ ha
  obtain ⟨_, its2, n2, rv2, hg2⟩ := I.hok b _ hb
  cases rv2
  have hl : s.heap.IsList a its.toArray := ⟨_, hg, rfl, n, rfl⟩
  have hl2 : s.heap.IsList b ([] : List Value).toArray := ⟨_, hg2, rfl, n2, rfl⟩
  cases xs with
  | nil =>
    cases rv
    exact RcNeAt.lists (A := X.A) (e := fun _ => true) hl hl2 rfl hu0 (fun j h1 h2 => absurd h2 (by simp)) X.prog X.w X.xe _ ⟨.bl false, H, I, rfl, q⟩
  | cons x xs =>
    cases rv with
    | cons r1 r2 =>
      exact RcNeAt.lists_lengths hl hl2 (by simp) hu0 X.prog X.w X.xe _ ⟨.bl true, H, I, rfl, q⟩
end EW
end

section
set_option maxHeartbeats 4000000
/-! EwStrs: xs == ys and xs != ys of lists of texts of any kind. -/
namespace EW
open PySem PySem.Spec PyProof.Rows PySem.SeqAt L2
/-- values that are these texts -/
inductive StrsAre : List Value → List Str → Prop
  | nil : StrsAre [] []
  | cons {z : Str} {t : Tok} {vs : List Value} {zs : List Str} : StrsAre vs zs → StrsAre (.str z t :: vs) (z :: zs)
theorem strsAre : ∀ {zs : List Str} {vs : List Value}, Vals (zs.map V.str) vs → StrsAre vs zs
  | [], _, h => by cases h; exact .nil
  | z :: zs, _, h => by
    cases h with
    | cons r t =>
      obtain ⟨u, rfl⟩ := r
      exact .cons (strsAre t)
theorem StrsAre.len : ∀ {vs : List Value} {zs : List Str}, StrsAre vs zs → vs.length = zs.length
  | _, _, .nil => rfl
  | _, _, .cons h => congrArg (· + 1) h.len
theorem StrsAre.get : ∀ {vs : List Value} {zs : List Str}, StrsAre vs zs → ∀ (j : Nat) (h : j < vs.length), ∃ (t : Tok) (z : Str), vs[j] = .str z t ∧ zs[j]? = some z
  | _, _, .cons (z := z) (t := t) h, 0, _ => ⟨t, z, rfl, rfl⟩
  | _, _, .cons h, j + 1, hj => by
    obtain ⟨t, z, e1, e2⟩ := h.get j (Nat.lt_of_succ_lt_succ hj)
    exact ⟨t, z, e1, e2⟩
def sameAt (xs ys : List Str) (j : Nat) : Bool := xs[j]? == ys[j]?
theorem all_same {xs ys : List Str} (h : xs.length = ys.length) : (List.range xs.length).all (sameAt xs ys) = decide (xs = ys) := by
  rw [Bool.eq_iff_iff, List.all_eq_true, decide_eq_true_iff]
  constructor
  · intro q
    apply List.ext_getElem? 
    intro i
    by_cases c : i < xs.length
    · have := q i (List.mem_range.mpr c)
      simpa [sameAt] using this
    · rw [List.getElem?_eq_none (by omega), List.getElem?_eq_none (by omega)]
  · rintro rfl i _
    simp [sameAt]
def rEqStrs (neg : Bool) : R2 := fun x y H Q => ∃ (a b : Addr) (xs ys : List Str), x = .ref a ∧ y = .ref b ∧ H a = some (.lst (xs.map V.str)) ∧ H b = some (.lst (ys.map V.str)) ∧ Q (.bl (if neg then !decide (xs = ys) else decide (xs = ys))) H
section
variable {A : Around} {s : Shared} {vs ws : List Value} {xs ys : List Str}
theorem at_same (h1 : StrsAre vs xs) (h2 : StrsAre ws ys) : ∀ j (g1 : j < vs.toArray.size) (g2 : j < ws.toArray.size), EqAt A.in1 s vs.toArray[j] ws.toArray[j] (sameAt xs ys j) := fun j g1 g2 => by
  obtain ⟨t, z, e1, e2⟩ := h1.get j (by simpa using g1)
  obtain ⟨u, y, e3, e4⟩ := h2.get j (by simpa using g2)
  have : sameAt xs ys j = (z == y) := by
    unfold sameAt
    rw [e2, e4]
    rfl
  rw [this]
  have f1 : vs.toArray[j] = .str z t := by simpa using e1
  have f2 : ws.toArray[j] = .str y u := by simpa using e3
  rw [f1, f2]
  exact EqAt.str_str z t y u
end
theorem op_neStrK {X : Cx} (hu : X.A.units + 64 < cLine) : OpR X (compareOp .NotEq) (rEqStrs true) := by
  intro pins s σ H x y v u Q I rx ry h
  have hu0 : X.A.units < cLine := by omega
  obtain ⟨a, b, xs, ys, rfl, rfl, ha, hb, q⟩ := h
  obtain rfl := rx
  obtain rfl := ry
  obtain ⟨_, its, n, rv, hg⟩ := I.hok a _ ha
  obtain ⟨_, its2, n2, rv2, hg2⟩ := I.hok b _ hb
  have r1 := strsAre rv
  have r2 := strsAre rv2
  have hl : s.heap.IsList a its.toArray := ⟨_, hg, rfl, n, rfl⟩
  have hl2 : s.heap.IsList b its2.toArray := ⟨_, hg2, rfl, n2, rfl⟩
  have q : Q (.bl (!decide (xs = ys))) H := q
  by_cases c : xs.length = ys.length
  · have e := RcNeAt.lists (A := X.A) (e := sameAt xs ys) hl hl2 (by simp [r1.len, r2.len, c]) hu0 (at_same r1 r2)
    refine e X.prog X.w X.xe _ ?_
    have ee : (List.range its.toArray.size).all (sameAt xs ys) = decide (xs = ys) := by
      rw [← all_same c]
      simp [r1.len]
    rw [ee]
    exact ⟨.bl _, H, I, rfl, q⟩
  · have ne : xs ≠ ys := fun z => c (by rw [z])
    rw [decide_eq_false ne] at q
    exact RcNeAt.lists_lengths hl hl2 (by simp [r1.len, r2.len, c]) hu0 X.prog X.w X.xe _ ⟨.bl true, H, I, rfl, q⟩
theorem op_eqStrK {X : Cx} (hu : X.A.units + 64 < cLine) : OpR X (compareOp .Eq) (rEqStrs false) := by
  intro pins s σ H x y v u Q I rx ry h
  have hu0 : X.A.units < cLine := by omega
  obtain ⟨a, b, xs, ys, rfl, rfl, ha, hb, q⟩ := h
  obtain rfl := rx
  obtain rfl := ry
  obtain ⟨_, its, n, rv, hg⟩ := I.hok a _ ha
  obtain ⟨_, its2, n2, rv2, hg2⟩ := I.hok b _ hb
  have r1 := strsAre rv
  have r2 := strsAre rv2
  have hl : s.heap.IsList a its.toArray := ⟨_, hg, rfl, n, rfl⟩
  have hl2 : s.heap.IsList b its2.toArray := ⟨_, hg2, rfl, n2, rfl⟩
  have q : Q (.bl (decide (xs = ys))) H := q
  by_cases c : xs.length = ys.length
  · have e := RcAt.lists (A := X.A) (e := sameAt xs ys) hl hl2 (by simp [r1.len, r2.len, c]) hu0 (at_same r1 r2)
    refine e X.prog X.w X.xe _ ?_
    have ee : (List.range its.toArray.size).all (sameAt xs ys) = decide (xs = ys) := by
      rw [← all_same c]
      simp [r1.len]
    rw [ee]
    exact ⟨.bl _, H, I, rfl, q⟩
  · have ne : xs ≠ ys := fun z => c (by rw [z])
    rw [decide_eq_false ne] at q
    exact RcAt.lists_lengths hl hl2 (by simp [r1.len, r2.len, c]) hu0 X.prog X.w X.xe _ ⟨.bl false, H, I, rfl, q⟩
end EW
end

section
set_option maxHeartbeats 4000000
/-! EwSetT: sets of texts: set(l), set(t) of texts, sorted(s): any number of members. -/
namespace EW
open PySem PySem.Spec PyProof.Rows L2
def txKey (e : Int × Value) : Str := strOf e.2
def TxE (w : World) (e : Int × Value) : Prop := ∃ k tk, e.2 = Value.str k tk ∧ e.1 = hashStr w k
/-- the set of texts at a: S its members, n their number; its table can be walked -/
def TxR (w : World) (h : Heap) (a : Addr) (S : Str → Bool) (n : Nat) : Prop :=
  ∃ o es ep t, h.get? a = some o ∧ o.ExactSet ∧ o.data = .set es ep t ∧ (∀ e ∈ es.toList, TxE w e) ∧ (es.toList.map txKey).Nodup ∧ (∀ k, S k = true ↔ k ∈ es.toList.map txKey) ∧
    es.size < scanBound ∧ t.fits es.size = true ∧ es.size = n ∧ Ris t.place.toList ∧ (w.params.followText "set-order" = true ∨ t.led = true)
section
variable {P : Program} {w : World} {h h' : Heap} {a : Addr} {S : Str → Bool} {n : Nat}
theorem TxR.at (R : TxR w h a S n) (k : ∀ o, h.get? a = some o → h'.get? a = some o) : TxR w h' a S n := let ⟨o, es, ep, t, ho, r⟩ := R; ⟨o, es, ep, t, k o ho, r⟩
theorem TxR.congr {S' : Str → Bool} (R : TxR w h a S n) (e : ∀ k, S' k = S k) : TxR w h a S' n := by rw [show S' = S from funext e]; exact R
theorem tx_elems {l : List (Int × Value)} (g : ∀ e ∈ l, TxE w e) : ElemsOf (PySem.strKind P w) l := fun e he => by
  obtain ⟨k, tk, h1, h2⟩ := g e he
  exact ⟨⟨k, by rw [h1]; exact strKind_is P w k tk, h2⟩, by rw [h1] <;> rfl⟩
theorem tx_is {e : Int × Value} (g : TxE w e) (k : Str) : (PySem.strKind P w).is k e.2 = true ↔ txKey e = k := by
  obtain ⟨k0, tk, h1, _⟩ := g
  unfold txKey
  rw [h1]
  show ((k0 == k) = true) ↔ k0 = k
  exact beq_iff_eq
theorem tx_mem {l : List (Int × Value)} (g : ∀ e ∈ l, TxE w e) (k : Str) : k ∈ l.map txKey ↔ ∃ e ∈ l, (PySem.strKind P w).is k e.2 = true := by
  rw [List.mem_map]
  exact ⟨fun ⟨e, he, q⟩ => ⟨e, he, (tx_is (g e he) k).2 q⟩, fun ⟨e, he, q⟩ => ⟨e, he, (tx_is (g e he) k).1 q⟩⟩
end
section
variable {P : Program} {w : World} {A : Around} {E : Value → Shared → Prop} {s : Shared} {a : Addr} {S : Str → Bool} {n : Nat}
/-- what stands behind the new member's laying down -/
theorem tx_tail {g : Bool → Sem Unit} (hg : ∀ (b : Bool) (s₁ : Shared) (Q' : Unit → Shared → Prop), Q' () s₁ → wpAny (model P w) A (g b) Q' E s₁)
    {o : Obj} {es : Array (Int × Value)} {ep : Nat} {t : SetTable} (ho : s.heap.get? a = some o) (hex : o.ExactSet) (hd : o.data = .set es ep t)
    {es1 : Array (Int × Value)} {t2 : SetTable} {S' : Str → Bool} (g1 : ∀ e ∈ es1.toList, TxE w e) (nd1 : (es1.toList.map txKey).Nodup) (m1 : ∀ k, S' k = true ↔ k ∈ es1.toList.map txKey)
    (hb1 : es1.size < scanBound) (hf2 : t2.fits es1.size = true) (hr : Ris t2.place.toList) (hl : w.params.followText "set-order" = true ∨ t2.led = true) {wasDummy : Bool} {R : Option Bool → Shared → Prop}
    (hR : ∀ h', Heap.SameBut a s.heap h' → TxR w h' a S' es1.size → R (some true) { s with heap := h' }) :
    wpAny (model P w) A (do
      storeSet a es1 t2
      if (!wasDummy && t2.tooFull) = true then do
        g (relayAll t2 es1 (SetTable.grown es1.size)).2.2
        storeSet a (relayAll t2 es1 (SetTable.grown es1.size)).1 (relayAll t2 es1 (SetTable.grown es1.size)).2.1
        pure (some true)
      else pure (some true)) R E s := by
  refine wpAny_bind (wpAny_storeSet_of ho hd ?_ (fits_of_scanBound hb1))
  have ho1 := store_at (es' := es1) (t' := t2) ho hd
  have sb1 := Heap.SameBut.update s.heap a (Obj.putSet es1 t2)
  split
  · obtain ⟨Z, hZ⟩ : ∃ Z, Z = relayAll t2 es1 (SetTable.grown es1.size) := ⟨_, rfl⟩
    have pm := relayAll_perm t2 es1 (SetTable.grown es1.size)
    have hf3 := relayAll_fits t2 es1 (SetTable.grown es1.size)
    have hr3 := relayAll_ris t2 es1 (SetTable.grown es1.size)
    have hl3 := relayAll_led t2 es1 (SetTable.grown es1.size)
    rw [← hZ] at pm hf3 hr3 hl3 ⊢
    have hsz : Z.1.size = es1.size := by rw [← Array.length_toList, pm.length_eq, Array.length_toList]
    have hb2 : Z.1.size < scanBound := by omega
    refine wpAny_bind (hg _ _ _ ?_)
    refine wpAny_bind (wpAny_storeSet_of ho1 rfl ?_ (fits_of_scanBound hb2))
    have ho2 := store_at (es' := Z.1) (t' := Z.2.1) ho1 rfl
    refine wpAny_pure (hR _ (sb1.trans (Heap.SameBut.update _ a _)) ⟨_, Z.1, _, Z.2.1, ho2, hex, rfl, fun e he => g1 e (pm.mem_iff.mp he), (pm.map txKey).nodup_iff.mpr nd1, fun k => (m1 k).trans (pm.map txKey).mem_iff.symm, hb2, hf3, hsz, hr3, ?_⟩)
    exact hl.imp id fun z => by rw [hl3]; exact z
  · exact wpAny_pure (hR _ sb1 ⟨_, es1, _, t2, ho1, hex, rfl, g1, nd1, m1, hb1, hf2, rfl, hr, hl⟩)
theorem tx_add_hashed {k : Str} {tk : Tok} {Q : Bool → Shared → Prop} (R : TxR w s.heap a S n) (room : n + 1 < scanBound)
    (hQ : ∀ h', Heap.SameBut a s.heap h' → TxR w h' a (fun j => S j || decide (j = k)) (if S k = true then n else n + 1) → Q (!S k) { s with heap := h' }) :
    wpAny (model P w) A (setAddHashed a (.str k tk) ((PySem.strKind P w).hash k)) Q E s := by
  obtain ⟨o, es, ep, t, ho, hex, hd, g, nd, hm, hb, hf, hn, hr, hl⟩ := R
  have hkey : (PySem.strKind P w).is k (.str k tk) = true := strKind_is P w k tk
  have hsc : (Value.str k tk).scannable = true := rfl
  have hel : ElemsOf (PySem.strKind P w) es.toList := tx_elems g
  unfold setAddHashed setAddHashedIn
  refine wpAny_holding (wpAny_bind (wpAny_setState_of ho hd hf ?_))
  dsimp only
  rw [byScan_of hsc hb hel]
  simp only [↓reduceIte]
  unfold setAddByScan
  refine wpAny_bind (wpAny_bind (wpAny_rule (wpAny_bind (wpAny_setScan_of hkey ho hd hf hel ?_))))
  cases hfi : List.findIdx? (fun e => (PySem.strKind P w).is k e.2) es.toList with
  | some j =>
    dsimp only
    obtain ⟨hj, pj, _⟩ := List.findIdx?_eq_some_iff_getElem.mp hfi
    have hSk : S k = true := (hm k).2 ((tx_mem (P := P) (w := w) g k).2 ⟨es.toList[j], List.getElem_mem hj, pj⟩)
    refine wpAny_pure (wpAny_pure ?_)
    have q := hQ s.heap (Heap.SameBut.refl a s.heap) ⟨o, es, ep, t, ho, hex, hd, g, nd, fun i => by
      rw [Bool.or_eq_true, decide_eq_true_eq, ← hm i]
      exact ⟨fun z => z.elim id (fun e => e ▸ hSk), .inl⟩, hb, hf, by rw [if_pos hSk]; exact hn, hr, hl⟩
    rw [hSk] at q
    exact q
  | none =>
    dsimp only
    have hnk : k ∉ es.toList.map txKey := fun z => by
      obtain ⟨e, he, q⟩ := (tx_mem (P := P) (w := w) g k).1 z
      have c := List.findIdx?_eq_none_iff.mp hfi e he
      rw [q] at c
      cases c
    have hSk : S k = false := by
      cases q : S k with
      | false => rfl
      | true => exact absurd ((hm k).1 q) hnk
    have hgw : ∀ (b : Bool) {s₁ : Shared} {Q' : Unit → Shared → Prop}, Q' () s₁ → wpAny (model P w) A (match b with | true => rule "set.scan.the-table-gave-way" | false => pure ()) Q' E s₁ := fun b s₁ Q' q => by
      cases b with
      | true => exact wpAny_rule q
      | false => exact wpAny_pure q
    obtain ⟨Z, hZ⟩ : ∃ Z, Z = layNew t es ((PySem.strKind P w).hash k) (.str k tk) := ⟨_, rfl⟩
    have pm := layNew_perm t es ((PySem.strKind P w).hash k) (.str k tk)
    have hf1 := layNew_fits t es ((PySem.strKind P w).hash k) (.str k tk)
    have hr1 := layNew_ris t es ((PySem.strKind P w).hash k) (.str k tk) hr
    have hl1 := layNew_led t es ((PySem.strKind P w).hash k) (.str k tk)
    rw [← hZ] at pm hf1 hr1 hl1 ⊢
    clear hZ
    obtain ⟨es1, t1, wasDummy, gave⟩ := Z
    dsimp only at pm hf1 hr1 hl1 ⊢
    rw [Array.toList_push] at pm
    have pc : es1.toList.Perm (((PySem.strKind P w).hash k, Value.str k tk) :: es.toList) := pm.trans (List.perm_append_singleton _ _)
    have pk : (es1.toList.map txKey).Perm (k :: es.toList.map txKey) := pc.map txKey
    have g1 : ∀ e ∈ es1.toList, TxE w e := fun e he => by
      rcases List.mem_cons.mp (pc.mem_iff.mp he) with z | z
      · rw [z]
        exact ⟨k, tk, rfl, rfl⟩
      · exact g e z
    have nd1 : (es1.toList.map txKey).Nodup := pk.nodup_iff.mpr (List.nodup_cons.mpr ⟨hnk, nd⟩)
    have m1 : ∀ i, (S i || decide (i = k)) = true ↔ i ∈ es1.toList.map txKey := fun i => by
      rw [Bool.or_eq_true, decide_eq_true_eq, hm i, pk.mem_iff, List.mem_cons]
      exact Or.comm
    have hsz : es1.size = n + 1 := by rw [← Array.length_toList, pc.length_eq, List.length_cons, Array.length_toList, hn]
    have hb1 : es1.size < scanBound := by omega
    have hled : w.params.followText "set-order" = true ∨ t1.led = true := hl.imp id fun z => by rw [hl1]; exact z
    have fin : ∀ h', Heap.SameBut a s.heap h' → TxR w h' a (fun j => S j || decide (j = k)) es1.size → Q true { s with heap := h' } := fun h' sb r => by
      have q := hQ h' sb
      rw [hSk] at q
      rw [hsz] at r
      exact q r
    have hgu : ∀ (b : Bool) (s₁ : Shared) (Q' : Unit → Shared → Prop), Q' () s₁ → wpAny (model P w) A (match b with | true => rule "set.scan.the-table-gave-way" | false => pure ()) Q' E s₁ := fun b _ _ q => hgw b q
    refine wpAny_bind (hgw _ ?_)
    split
    · refine wpAny_bind ?_
      rw [hashByValue_scannable 8 hsc]
      refine wpAny_pure ?_
      refine tx_tail ?_ ho hex hd g1 nd1 m1 hb1 ?_ ?_ ?_ ?_
      · intro b s₁ Q' q
        cases b <;> first | exact wpAny_pure q | exact wpAny_rule q
      · first | (split <;> first | exact hf1 | exact SetTable.fits_plain_off hf1) | exact hf1
      · first | (split <;> exact hr1) | exact hr1
      · first | (split <;> exact hled) | exact hled
      · intro h' sb r
        dsimp only
        exact wpAny_pure (fin h' sb r)
    · refine wpAny_bind (wpAny_pure ?_)
      simp only [↓reduceIte]
      refine tx_tail ?_ ho hex hd g1 nd1 m1 hb1 hf1 hr1 hled ?_
      · intro b s₁ Q' q
        cases b <;> first | exact wpAny_pure q | exact wpAny_rule q
      · intro h' sb r
        dsimp only
        exact wpAny_pure (fin h' sb r)
theorem tx_new {w : World} {h : Heap} {a : Addr} {ns : List Str} (ho : h.get? a = some (eset w)) : TxR w h a (fun j => decide (j ∈ ns.take 0)) 0 :=
  ⟨_, #[], 0, _, ho, ⟨rfl, rfl, rfl⟩, rfl, (fun e he => by simp at he), (by simp), (fun k => by simp), (by decide), (by rfl), rfl, List.Pairwise.nil, by
    show _ ∨ (!w.params.followText "set-order") = true
    cases w.params.followText "set-order"
    · exact .inr rfl
    · exact .inl rfl⟩
theorem tx_update {I : Addr} {fp wr : List Addr} {G : Array GenState → Array GenState → Prop} {n : Nat} {Pv : Nat → Value → Prop} {St : Nat → Shared → Prop} {R : Result → Shared → Prop}
    (W : WalksS P w A.in1 I fp wr G n Pv St) (S : Addr) (hSf : S ∉ fp) (ns : List Str) (hn : n = ns.length) (hb : ns.length + 1 < scanBound) (hval : ∀ i v, Pv i v → ∃ k t, ns[i]? = some k ∧ v = .str k t) :
    ∀ (k i : Nat) (s : Shared), n - i = k → i ≤ n → St i s → (∃ c, c ≤ i ∧ TxR w s.heap S (fun j => decide (j ∈ ns.take i)) c) →
      (∀ s' c, Moved (S :: wr) G s s' → c ≤ n → TxR w s'.heap S (fun j => decide (j ∈ ns)) c → R (.ok (.ret .none)) s') →
      codeAny (model P w) A (.builtin "set.update.loop" ⟨[.ref S, .ref I], []⟩) R s := by
  have hSw : S ∉ wr := fun h => hSf (W.sub _ h)
  have hsub : ∀ b ∈ wr, b ∈ S :: wr := fun b hb => List.mem_cons_of_mem _ hb
  intro k
  induction k with
  | zero =>
    intro i s hk' hi hst ⟨c, hc, hS⟩ hR
    obtain rfl : i = n := by omega
    refine codeAny_builtin F.entry_set_update_loop ?_
    rw [Around.under_plainId F.plain_set_update_loop _]
    refine wpAny_bind (W.done s _ _ hst fun s' hm => ?_)
    show wpAny _ A.in1 (ret Value.none) _ _ s'
    have e : ns.take i = ns := List.take_of_length_le (by omega)
    rw [e] at hS
    exact wpAny_pure (hR s' c (hm.mono hsub) hc (hS.at fun o e => hm.heap S o hSw e))
  | succ k ih =>
    intro i s hk' hi hst ⟨c, hc, hS⟩ hR
    have hlt : i < n := by omega
    refine codeAny_builtin F.entry_set_update_loop ?_
    rw [Around.under_plainId F.plain_set_update_loop _]
    refine wpAny_bind (W.item i s _ _ hlt hst fun v s' hP hst' hm => ?_)
    obtain ⟨z, t, hz, rfl⟩ := hval i v hP
    have hS' : TxR w s'.heap S (fun j => decide (j ∈ ns.take i)) c := hS.at fun o e => hm.heap S o hSw e
    show wpAny _ A.in1 (holding [Value.str z t] (setAdd S (.str z t)) >>= _) _ _ s'
    refine wpAny_bind (wpAny_holding ?_)
    unfold setAdd
    refine wpAny_holding (wpAny_bind ((PySem.strKind P w).pyHash (k := z) (strKind_is _ _ _ _) ?_))
    refine tx_add_hashed (s := { s' with toks := s'.toks + 1 }) hS' (by omega) fun h' hsb hS2 => ?_
    have hS3 : TxR w h' S (fun j => decide (j ∈ ns.take (i + 1))) (if decide (z ∈ ns.take i) = true then c else c + 1) := hS2.congr fun j => by
      rw [List.take_add_one, hz]
      simp [List.mem_append]
    have hc3 : (if decide (z ∈ ns.take i) = true then c else c + 1) ≤ i + 1 := by split <;> omega
    refine wpAny_pure ⟨plainId_quiet F.plain_set_update_loop _, ih (i + 1) _ (by omega) hlt (W.frame _ s' _ _ hst' (Nat.le_succ _) fun b hb o e => ?_) ⟨_, hc3, hS3⟩ fun s'' c2 hm'' hc'' hS'' => ?_⟩
    · rw [hsb.2 b (fun h => hSf (by rw [← h]; exact hb))]
      exact e
    · refine hR s'' c2 (Moved.trans W.gtrans ((hm.mono hsub).then_heap (Nat.le_succ _) fun b o hb e => ?_) hm'') hc'' hS''
      rw [hsb.2 b (fun h => hb (by rw [h]; exact List.mem_cons_self))]
      exact e
/-- what set.__init__ leaves behind -/
def TxFull (w : World) (s : Shared) (ns : List Str) (r : Value) (s₂ : Shared) : Prop := r = .none ∧ ∃ h' tk c, s₂ = { s with heap := h', toks := tk } ∧ TxR w h' s.heap.objs.size (fun j => decide (j ∈ ns)) c ∧ c ≤ ns.length ∧ ∀ b o, s.heap.get? b = some o → h'.get? b = some o
theorem tx_get {items : Array Value} {ns : List Str} (hit : PyProof.Rows.StrsAre items.toList ns) (i : Nat) (v : Value) (hv : items[i]? = some v) : ∃ k t, ns[i]? = some k ∧ v = .str k t := by
  obtain ⟨x, t, e⟩ := hit.all v (List.mem_of_getElem? (by rw [Array.getElem?_toList]; exact hv))
  refine ⟨x, t, ?_, e⟩
  rw [← hit.strs, List.getElem?_map, Array.getElem?_toList, hv, e]
  rfl
theorem tx_init_list {l : Addr} {items : Array Value} {ns : List Str} (hh : A.handled = none) (hl : s.heap.IsList l items) (hit : PyProof.Rows.StrsAre items.toList ns) (hb : ns.length + 1 < scanBound) :
    codeAny (model P w) A (.call (.builtin "set.__init__") ⟨[.ref s.heap.objs.size, .ref l], []⟩) (wants (TxFull w s ns) E) { s with heap := s.heap.push (eset w) } := by
  have hsz : items.size = ns.length := by
    have q := PyProof.Rows.StrsAre.length hit
    rw [Array.length_toList] at q
    exact q
  have hS : (s.heap.push (eset w)).get? s.heap.objs.size = some (eset w) := Heap.get?_push_size _ rfl
  refine codeAny_call_builtin F.called_set.init.plain F.entry_set_init (check_set_init_1 ⟨_, hS, rfl⟩ ?_)
  obtain ⟨o, ho, hc, n, hd⟩ := id hl
  obtain ⟨oc, od, dt, osl⟩ := o
  simp only at hc hd
  subst hc hd
  have ho' : (s.heap.push (eset w)).get? l = some { cls := .type "list", dict := od, data := .seq items n, slots := osl } := Heap.get?_push_of_some _ ho
  have hl' : (s.heap.push (eset w)).IsList l items := ⟨_, ho', rfl, n, rfl⟩
  have f1 := F.sub_list_set
  have f2 := F.sub_list_frozenset
  have f3 : (Value.type "list" == Value.type "dict") = false := by decide
  unfold Builtin.«set.__init__» noKeywords Builtin.Frozenset.updateFrom
  generalize hPI : pyIter = PI
  wp_walk
  subst hPI
  refine wpAny_pyIter_list hl' (wpAny_bind (wpAny_runValue ?_))
  have hlt : l < s.heap.objs.size := Heap.lt_size ho
  have h3 : A.in1.in1.handled = none := by simp [hh]
  have hz : (s.heap.push (eset w)).objs.size = s.heap.objs.size + 1 := Heap.size_push ..
  have ne1 : l ≠ (s.heap.push (eset w)).objs.size := by rw [hz]; exact Nat.ne_of_lt (Nat.lt_succ_of_lt hlt)
  have ne2 : s.heap.objs.size ∉ [(s.heap.push (eset w)).objs.size, l] := by
    rw [hz]
    simp only [List.mem_cons, List.not_mem_nil, or_false, not_or]
    exact ⟨Nat.ne_of_lt (Nat.lt_succ_self _), Nat.ne_of_gt hlt⟩
  refine tx_update ((Walks.list h3 _ l ne1 items).toS) s.heap.objs.size ne2 ns hsz hb (tx_get hit) (items.size - 0) 0 _ (by omega) (Nat.zero_le _) ?_ ?_ ?_
  · exact ⟨⟨_, Heap.get?_push_size _ rfl, rfl, rfl⟩, (hl'.push _)⟩
  · exact ⟨0, Nat.le_refl 0, tx_new (w := w) (Heap.get?_push_of_some _ hS)⟩
  intro s' c' hm hc' hS'
  obtain ⟨h', g2, d', tk', os'⟩ := s'
  obtain rfl : g2 = s.gens := hm.gens
  obtain rfl : d' = s.drawn := hm.drawn
  obtain rfl : os' = s.os := hm.os
  rw [hsz] at hc'
  refine wpAny_pure (wpAny_pure ⟨rfl, h', tk', c', rfl, hS', hc', fun b o e => ?_⟩)
  have hb0 : b < s.heap.objs.size := Heap.lt_size e
  refine hm.heap b o ?_ (Heap.get?_push_of_some _ (Heap.get?_push_of_some _ e))
  simp only [List.mem_cons, List.not_mem_nil, or_false, not_or]
  rw [hz]
  exact ⟨Nat.ne_of_lt hb0, Nat.ne_of_lt (Nat.lt_succ_of_lt hb0)⟩
theorem tx_init_tup {l : Addr} {items : Array Value} {ns : List Str} (hh : A.handled = none) (hl : s.heap.IsTuple l items) (hit : PyProof.Rows.StrsAre items.toList ns) (hb : ns.length + 1 < scanBound) :
    codeAny (model P w) A (.call (.builtin "set.__init__") ⟨[.ref s.heap.objs.size, .ref l], []⟩) (wants (TxFull w s ns) E) { s with heap := s.heap.push (eset w) } := by
  have hsz : items.size = ns.length := by
    have q := PyProof.Rows.StrsAre.length hit
    rw [Array.length_toList] at q
    exact q
  have hS : (s.heap.push (eset w)).get? s.heap.objs.size = some (eset w) := Heap.get?_push_size _ rfl
  refine codeAny_call_builtin F.called_set.init.plain F.entry_set_init (check_set_init_1 ⟨_, hS, rfl⟩ ?_)
  obtain ⟨o, ho, hc, n, hd⟩ := id hl
  obtain ⟨oc, od, dt, osl⟩ := o
  simp only at hc hd
  subst hc hd
  have ho' : (s.heap.push (eset w)).get? l = some { cls := .type "tuple", dict := od, data := .seq items n, slots := osl } := Heap.get?_push_of_some _ ho
  have hl' : (s.heap.push (eset w)).IsTuple l items := ⟨_, ho', rfl, n, rfl⟩
  have f1 := F.sub_tuple_set
  have f2 := F.sub_tuple_frozenset
  have f3 : (Value.type "tuple" == Value.type "dict") = false := by decide
  unfold Builtin.«set.__init__» noKeywords Builtin.Frozenset.updateFrom
  generalize hPI : pyIter = PI
  wp_walk
  subst hPI
  refine wpAny_pyIter_tuple hl' (wpAny_bind (wpAny_runValue ?_))
  have hlt : l < s.heap.objs.size := Heap.lt_size ho
  have h3 : A.in1.in1.handled = none := by simp [hh]
  have hz : (s.heap.push (eset w)).objs.size = s.heap.objs.size + 1 := Heap.size_push ..
  have ne1 : l ≠ (s.heap.push (eset w)).objs.size := by rw [hz]; exact Nat.ne_of_lt (Nat.lt_succ_of_lt hlt)
  have ne2 : s.heap.objs.size ∉ [(s.heap.push (eset w)).objs.size, l] := by
    rw [hz]
    simp only [List.mem_cons, List.not_mem_nil, or_false, not_or]
    exact ⟨Nat.ne_of_lt (Nat.lt_succ_self _), Nat.ne_of_gt hlt⟩
  refine tx_update ((Walks.tuple h3 _ l ne1 items).toS) s.heap.objs.size ne2 ns hsz hb (tx_get hit) (items.size - 0) 0 _ (by omega) (Nat.zero_le _) ?_ ?_ ?_
  · exact ⟨⟨_, Heap.get?_push_size _ rfl, rfl, rfl⟩, (hl'.push _)⟩
  · exact ⟨0, Nat.le_refl 0, tx_new (w := w) (Heap.get?_push_of_some _ hS)⟩
  intro s' c' hm hc' hS'
  obtain ⟨h', g2, d', tk', os'⟩ := s'
  obtain rfl : g2 = s.gens := hm.gens
  obtain rfl : d' = s.drawn := hm.drawn
  obtain rfl : os' = s.os := hm.os
  rw [hsz] at hc'
  refine wpAny_pure (wpAny_pure ⟨rfl, h', tk', c', rfl, hS', hc', fun b o e => ?_⟩)
  have hb0 : b < s.heap.objs.size := Heap.lt_size e
  refine hm.heap b o ?_ (Heap.get?_push_of_some _ (Heap.get?_push_of_some _ e))
  simp only [List.mem_cons, List.not_mem_nil, or_false, not_or]
  rw [hz]
  exact ⟨Nat.ne_of_lt hb0, Nat.ne_of_lt (Nat.lt_succ_of_lt hb0)⟩
/-- set(x), whatever its __init__ goes over -/
theorem tx_call {l : Addr} {ns : List Str} {Q : Value → Shared → Prop}
    (hin : codeAny (model P w) A.in1 (.call (.builtin "set.__init__") ⟨[.ref s.heap.objs.size, .ref l], []⟩) (wants (TxFull w s ns) E) { s with heap := s.heap.push (eset w) })
    (h : ∀ (h' : Heap) (tk c : Nat), TxR w h' s.heap.objs.size (fun j => decide (j ∈ ns)) c → c ≤ ns.length → (∀ b o, s.heap.get? b = some o → h'.get? b = some o) → Q (.ref s.heap.objs.size) { s with heap := h', toks := tk }) :
    wpAny (model P w) A (call (.type "set") [.ref l]) Q E s := by
  have hct := F.typeCall_set_1 (.ref l)
  have h1 := F.called_set.notType
  have h2 := F.called_set.canCreate
  have h3 := F.called_set.made
  have h4 := F.called_set.sub
  obtain ⟨c0, tl, h5⟩ := F.called_set.mro
  refine wpAny_call (codeAny_of_tree ?_)
  show wpAny _ _ (callAny (.type "set") _) _ _ _
  refine wpAny_pure ⟨Code.quiet_builtin _ (by decide +kernel), codeAny_builtin F.entry_type_call ?_⟩
  rw [Around.under_plain (weight_type_call_type "set" [.ref l] []) rfl]
  repeat (any_goals (first | assumption | wp_step))
  refine codeAny_mono (code_set_led1 (.ref l) (E := E) (Q₁ := fun obj s₁ => obj = .ref s.heap.objs.size ∧ s₁ = { s with heap := s.heap.push (eset w) }) ⟨rfl, rfl⟩) fun r s₁ hr => ?_
  match r, hr with
  | .error e, hr => exact hr
  | .ok (.ret obj), hr =>
    obtain ⟨rfl, rfl⟩ := hr
    have hT : Shared.TypeIs { s with heap := s.heap.push (eset w) } (.ref s.heap.objs.size) "set" := ⟨_, Heap.get?_push_size _ rfl, rfl⟩
    have h6 := F.called_set.init.lookup
    have h7 := F.called_set.init.bind (.ref s.heap.objs.size)
    repeat (any_goals (first | assumption | wp_step))
    refine codeAny_mono hin fun r₂ s₂ hr₂ => ?_
    match r₂, hr₂ with
    | .error e, hr₂ => exact hr₂
    | .ok (.ret r), hr₂ =>
      obtain ⟨rfl, h', tk, c', rfl, k1, k2, k3⟩ := hr₂
      repeat (any_goals (first | assumption | wp_step))
      exact h _ _ _ k1 k2 k3
    | .ok .next, hr₂ => exact hr₂.elim
    | .ok .brk, hr₂ => exact hr₂.elim
    | .ok .cont, hr₂ => exact hr₂.elim
  | .ok .next, hr => exact hr.elim
  | .ok .brk, hr => exact hr.elim
  | .ok .cont, hr => exact hr.elim
/-- sorted(s): a new list of texts -/
theorem tx_sorted {Q : Value → Shared → Prop} (R : TxR w s.heap a S n) (hh : A.handled = none)
    (hQ : ∀ (s' : Shared) (p : Addr) (out : List Value) (c : Nat) (xs : List Str), (∀ b o, s.heap.get? b = some o → s'.heap.get? b = some o) → s'.gens = s.gens → s'.os = s.os → s.heap.objs.size ≤ p → s'.heap.get? p = some (seqObj "list" out.toArray c) → PyProof.Rows.StrsAre out xs → xs.length = n → xs.Nodup → sortedS xs = true → (∀ k, k ∈ xs ↔ S k = true) → Q (.ref p) s') :
    wpAny (model P w) A (call (.builtin "sorted") [.ref a]) Q E s := by
  obtain ⟨o, es, ep, t, ho, hex, hd, g, nd, hm, hb, hf, hn, hr, hl⟩ := R
  refine Calls.call_function_entry kind_sorted plain_sorted entry_sorted (args_sorted1 _) ?_
  unfold Builtin.«sorted»
  refine wpAny_bind (m := checkCount "sorted" 1 1 _) (wpAny_pure ?_)
  refine wpAny_bind (collect_set (A := A.in1) hh ⟨o, ho, hex.1, hd⟩ hf hb hr hl fun s1 vs k1 hz g1 o1 pm => ?_)
  have hvl : vs.length = n := by rw [pm.length_eq, List.length_map, Array.length_toList]; exact hn
  have hsc : scanBound ≤ sizeLine := by decide
  have hvz : vs.length ≤ sizeLine := by omega
  have hS : PyProof.Rows.StrsAre vs (vs.map strOf) := strsAre_map vs fun v hv => by
    obtain ⟨e, he, q⟩ := List.mem_map.mp (pm.mem_iff.mp hv)
    obtain ⟨k, tk, z, _⟩ := g e he
    exact ⟨k, tk, q ▸ z⟩
  have pk : (vs.map strOf).Perm (es.toList.map txKey) := by
    have q := pm.map strOf
    rw [List.map_map] at q
    exact q
  refine wpAny_bind (wpAny_newList ?_ hvz)
  have hoL : (s1.heap.push (seqObj "list" vs.toArray 0)).get? s1.heap.objs.size = some (seqObj "list" vs.toArray 0) := Heap.get?_push_size _ rfl
  refine wpAny_bind (wpAny_holding (wpAny_call_entry slot_list_sort ⟨_, hoL, rfl⟩ entry_list_sort (list_sort_treeKAny strKind_oneLt hoL hS.keysOf (fun v₁ v₂ rest e => keyKind_strs (by rw [← e]; exact hS)) hvz fun st' hp hs => ⟨_, rfl, ?_⟩) (args_list_sort _)))
  obtain ⟨xs, b1, b2, b3⟩ := sorted_out_str hS hp hs
  obtain ⟨c, hc⟩ := sortedHeap_at (vs := vs) (out := (arrOf st').map (·.2)) hoL
  have i4 := b2.trans pk
  refine wpAny_pure ⟨_, rfl, hQ _ s1.heap.objs.size ((arrOf st').map (·.2)).toList c xs (fun b u e => ?_) g1 o1 hz hc b1 (by rw [b2.length_eq, List.length_map]; exact hvl) (i4.nodup_iff.mpr nd) b3 fun k => by rw [i4.mem_iff, hm]⟩
  have q := k1 b u e
  have hlt := Heap.lt_size q
  show (sortedHeap (s1.heap.push (seqObj "list" vs.toArray 0)) s1.heap.objs.size vs ((arrOf st').map (·.2))).get? b = some u
  rw [sortedHeap_old (Nat.ne_of_lt hlt) (by rw [size_push']; exact Nat.lt_succ_of_lt hlt)]
  exact Heap.get?_push_of_some _ q
end
/-- the set of texts at a -/
def TxO (w : World) (a : Addr) (S : Str → Bool) (n : Nat) : HO := .ext fun h => TxR w h a S n
theorem txO_new {w : World} {P : Program} {H : Hp} {h : Heap} {a : Addr} {S : Str → Bool} {n : Nat} (R : TxR w h a S n) : ObjOk P w H h a (TxO w a S n) := by
  have ⟨o, _, _, _, ho, _⟩ := R
  exact ⟨R, ⟨o, ho⟩, fun h1 h2 p k => TxR.at p k⟩
theorem txO_get {X : Cx} {pins : List (Addr × Obj)} {σ : L2.St} {H : Hp} {s : Shared} {a : Addr} {S : Str → Bool} {n : Nat} (I : Inv X pins σ H s) (ha : H a = some (TxO X.w a S n)) : TxR X.w s.heap a S n := (I.hok a _ ha).1
section
variable {X : Cx}
/-- set(l) or set(t) of texts -/
theorem cr_setTx (K : W.Frag) (w : World) (h : X.K = K) (hw : X.w = w) (hc : X.calm = true) : CallR X (.type "set") (fun vs H Q => ∃ (a : Addr) (xs : List Str), vs = [V.ref a] ∧ (SqL K H a (xs.map V.str) ∨ SqT K H a (xs.map V.str)) ∧ xs.length + 1 < scanBound ∧ ∀ (p : Addr) (c : Nat) (H' : Hp), H p = none → Same H H' → H' p = some (TxO w p (fun j => decide (j ∈ xs)) c) → c ≤ xs.length → Q (.ref p) H') := by
  subst h
  subst hw
  intro pins s σ H vs us Q I r h
  obtain ⟨a, xs, rfl, hS, hb, q⟩ := h
  obtain rfl := Vals.ref1 r
  have hf := I.hok.fresh (Nat.le_refl s.heap.objs.size)
  rcases hS with hS | hS
  · obtain ⟨its, rv, hl, hz⟩ := I.list hS
    refine tx_call (tx_init_list (by simp [I.ok.hd hc]) hl.isList (show PyProof.Rows.StrsAre its.toArray.toList xs from rv.strs) hb) fun h' tk c R hcn kp => ?_
    exact ⟨.ref _, upd H s.heap.objs.size (TxO X.w s.heap.objs.size (fun j => decide (j ∈ xs)) c), I.laid (t' := tk) kp (Nat.le_refl _) (txO_new R), rfl, q _ c _ hf (sameN hf) upd_same hcn⟩
  · obtain ⟨its, rv, hl, hz⟩ := I.tuple hS
    refine tx_call (tx_init_tup (by simp [I.ok.hd hc]) hl (show PyProof.Rows.StrsAre its.toArray.toList xs from rv.strs) hb) fun h' tk c R hcn kp => ?_
    exact ⟨.ref _, upd H s.heap.objs.size (TxO X.w s.heap.objs.size (fun j => decide (j ∈ xs)) c), I.laid (t' := tk) kp (Nat.le_refl _) (txO_new R), rfl, q _ c _ hf (sameN hf) upd_same hcn⟩
/-- sorted(s) -/
theorem cr_sortedTx (w : World) (hw : X.w = w) (hc : X.calm = true) : CallR X (.builtin "sorted") (fun vs H Q => ∃ (a : Addr) (S : Str → Bool) (n : Nat), vs = [V.ref a] ∧ H a = some (TxO w a S n) ∧ ∀ xs : List Str, xs.length = n → xs.Nodup → sortedS xs = true → (∀ k, k ∈ xs ↔ S k = true) → New H (fun _ => .lst (xs.map V.str)) Q) := by
  subst hw
  intro pins s σ H vs us Q I r h
  obtain ⟨a, S, n, rfl, ha, q⟩ := h
  have R := txO_get I ha
  have hn := R
  obtain rfl := Vals.ref1 r
  refine tx_sorted R (I.ok.hd hc) fun s' p out c xs k g o hp hg hi hl nd so hm => ?_
  have hlen : (xs.map V.str).length ≤ sizeLine := by
    obtain ⟨_, es, _, _, _, _, _, _, _, _, hb, _, hen, _⟩ := hn
    have hsc : scanBound ≤ sizeLine := by decide
    rw [List.length_map, hl]
    omega
  have hf : H p = none := I.hok.fresh hp
  have J : Inv X pins σ (upd H p (.lst (xs.map V.str))) { s with heap := s'.heap, gens := s'.gens, drawn := s'.drawn, toks := s'.toks } :=
    I.call (ch := []) (Un.laid k hp hf) (I.hok.laid k hp ⟨hlen, out, c, vals_of_strs hi, hg⟩) (by rw [g]; exact I.bare) (fun _ z => nomatch z)
  have e : s' = { s with heap := s'.heap, gens := s'.gens, drawn := s'.drawn, toks := s'.toks } := by
    cases s'
    cases s
    cases o
    rfl
  rw [e]
  exact ⟨.ref p, _, J, rfl, (q xs hl nd so hm).at hf⟩
end
end EW
end

section
set_option maxHeartbeats 4000000
namespace EW
open PySem PySem.Spec PyProof.Rows L2
theorem op_notInK {X : Cx} (K : W.Frag) (h : X.K = K) : OpR X (compareOp .NotIn) (rIn K true) := by
  subst h
  exact op_notIn_seq
theorem let_iff {c : Nat} : c ∈ letters ↔ 97 ≤ c ∧ c ≤ 122 := by
  constructor
  · intro h
    have : ∀ c ∈ letters, 97 ≤ c ∧ c ≤ 122 := by decide +kernel
    exact this c h
  · rintro ⟨h1, h2⟩
    have : ∀ i, i < 26 → 97 + i ∈ letters := by decide +kernel
    have := this (c - 97) (by omega)
    rwa [show 97 + (c - 97) = c by omega] at this
theorem lt_one {c d : Nat} : [c] < [d] ↔ c < d := by
  constructor
  · intro h
    cases h with
    | rel h => exact h
    | cons h => cases h
  · exact fun h => List.Lex.rel h
/-- texts in order, each once: told by their members -/
theorem rise_sorted {l xs : List Str} (nd : xs.Nodup) (so : sortedS xs = true) (hm : ∀ k, k ∈ xs ↔ k ∈ l) : decide (l = xs) = decide (Rise l) := by
  rw [decide_eq_decide]
  have up : ∀ {m : List Str}, m.Nodup → sortedS m = true → Rise m := by
    intro m
    induction m with
    | nil => intro _ _; exact True.intro
    | cons x r ih =>
      intro nd so
      have pw := pw_sortedS so
      rw [List.nodup_cons] at nd
      cases r with
      | nil => exact True.intro
      | cons y r =>
        refine ⟨?_, ih nd.2 ?_⟩
        · have h := (List.pairwise_cons.mp pw).1 y List.mem_cons_self
          have hxy : x ≠ y := fun e => nd.1 (by rw [e]; exact List.mem_cons_self)
          rcases Classical.em (x.cps.toList < y.cps.toList) with c | c
          · exact c
          · exact absurd (leS_anti h (show leS y x from c)) hxy
        · exact sortedS_of_pairwise _ ((List.pairwise_cons.mp pw).2.imp fun h => by
            rw [ltCps_eq]
            exact decide_eq_false h)
  constructor
  · intro e
    rw [e]
    exact up nd so
  · intro h
    have all : ∀ {m : List Str}, Rise m → m.Pairwise fun a b => a.cps.toList < b.cps.toList := by
      intro m
      induction m with
      | nil => intro _; exact .nil
      | cons x r ih =>
        intro h
        cases r with
        | nil => exact List.pairwise_singleton _ _
        | cons y r =>
          have p := ih h.2
          refine List.pairwise_cons.mpr ⟨fun z hz => ?_, p⟩
          rcases List.mem_cons.mp hz with e | hz
          · rw [e]; exact h.1
          · exact List.lt_trans h.1 ((List.pairwise_cons.mp p).1 z hz)
    have p := all h
    have ndl : l.Nodup := p.imp fun h e => by
      rw [e] at h
      exact List.lt_irrefl _ h
    have pl : l.Pairwise leS := p.imp fun h w => List.lt_irrefl _ (List.lt_trans h w)
    exact List.Perm.eq_of_pairwise (fun a b _ _ h h' => leS_anti h h') pl (pw_sortedS so) ((List.perm_ext_iff_of_nodup ndl nd).mpr fun k => (hm k).symm)
end EW
namespace TM
open PySem PySem.Spec PyProof.Rows L2 EW
abbrev NLName : List Str := ["_law_value", "_law_sign"]
theorem LName : FnScope NLName ["_law_value"] (defScope sLName) := ⟨rfl, rfl, rfl, by decide +kernel, rfl, by decide +kernel, by decide +kernel⟩
abbrev NLKind : List Str := ["_law_value", "_law_one"]
theorem LKind : FnScope NLKind ["_law_value"] (defScope sLKind) := ⟨rfl, rfl, rfl, by decide +kernel, rfl, by decide +kernel, by decide +kernel⟩
theorem filt_all {α : Type} {l : List α} {f : α → Bool} : (l.filter fun d => !f d) = [] ↔ l.all f = true := by
  rw [List.filter_eq_nil_iff, List.all_eq_true]
  exact ⟨fun h d hd => by simpa using h d hd, fun h d hd => by simp [h d hd]⟩
theorem filt_take {α : Type} {f : α → Bool} {l : List α} {i : Nat} {x : α} (h : l[i]? = some x) : (l.take (i + 1)).filter f = (l.take i).filter f ++ if f x then [x] else [] := by
  rw [List.take_add_one, h, List.filter_append]
  cases c : f x <;> simp [c]
theorem filt_len {α : Type} {f : α → Bool} {l : List α} (i : Nat) : ((l.take i).filter f).length ≤ i := Nat.le_trans (List.length_filter_le _ _) (by rw [List.length_take]; omega)
section
variable {P : Program} {w : World} {K : W.Frag} {mg : Str → Option Value} {base : Heap}
theorem ok_lname {fd : FuncData} (F : FnP K "_law_is_name" sLName fd) (T : Fre mg) : FnOk P w K mg base CX0 1 (He.ga K "_law_is_name") fd ["_law_value"] (spName K) := by
  refine F.ok LName (fun vs H Q E h => ?_) (fun cdv A outer s H vs Q E hr h => ?_)
  · obtain ⟨d, v, rfl, _⟩ := h
    rfl
  · obtain ⟨d, v, rfl, hd, hs, k⟩ := h
    refine ⟨_, PSs.nox (pss_cons (ps_cut (ps_if (PW.pt (pw_or (pt_not (pt_val (pe_callB (call_isiE K rfl) (by rfl) T.isinstance EW.boot_isinstance (pa_cons (pv 0) (pa_cons (pe_bltn (v := .ty "str") rfl T.str EW.boot_str rfl) pa_nil))))) (pw_or (pt_cmpR op_eq (pv 0) pe_str (nomark _)) (pw_or1 (pt_cmpR op_gt (pe_callB (call_lenK K rfl) (by rfl) T.len PySem.boot_len (pa_cons (pv 0) pa_nil)) pe_int (nomark _)))))) (pss_one (ps_ret pe_bl)) pss_nil))
      (pss_one (ps_ret (pe_cmpR (EW.op_eqStrK hr.units) (pe_lc (own := [("_law_sign", 1)]) (g := gName 1) (tt := _) (by rfl) LName.nd (pi_str (pv 0)) (blkOk_by (own := [("_law_sign", 1)]) (N := NLName) (sc := defScope sLName) (by decide +kernel)) (fun _ _ _ _ _ => (pg_name (i := 1) LName.nd rfl (Or.inl rfl))) (fun _ _ _ _ _ => (pts_one (pt_not (pt_chain op_le_str op_le_str pe_str (pv 1) pe_str)))) (fun _ _ _ _ _ => (pv 1))) (pe_lstS pa_nil) (nomark _))))), ?_⟩
    have hbig : (64 : Nat) ≤ sizeLine := by decide
    refine ⟨fun σ' H' => ∃ z : Str, σ' = [some v, none] ∧ H' = H ∧ d = .str z ∧ v = .str z ∧ 1 ≤ z.length ∧ z.length ≤ 8, ?_, ?_⟩
    · by_cases c : d.isS = true
      rotate_left
      · have hn : d.isS = false := by simpa using c
        have e : nameA d = false := by cases d <;> first | rfl | cases hn
        rw [e] at k
        exact ⟨_, rfl, v, _, .type d.cl, _, d.isS, rfl, .ty "str", hd.ty, avS d, _, rfl, iteD (by rw [hn]; rfl) (k H (Same.refl H))⟩
      cases d <;> first | cases c | skip
      rename_i z
      rw [Av] at hd
      subst hd
      have hz : z.length ≤ 60 := by simpa [Dv.shr1] using hs
      refine ⟨_, rfl, .str z, _, .type "str", _, true, rfl, .ty "str", .base (.str z), kit_ty kb5, _, rfl, iteF ?_⟩
      have e0 : ¬ 1 ≤ z.length → z = "" := fun h => by
        have h0 : z.cps.size = 0 := by
          have : z.length = z.cps.size := rfl
          omega
        cases z with
        | mk c =>
          have : c = #[] := Array.eq_empty_of_size_eq_zero h0
          rw [this]
          rfl
      by_cases z1 : 1 ≤ z.length
      rotate_left
      · have e : nameA (.str z) = false := decide_eq_false fun h => z1 h.1
        rw [e] at k
        refine ⟨_, rfl, rfl, _, rfl, iteD ?_ (k H (Same.refl H))⟩
        rw [e0 z1]
        decide
      refine ⟨_, rfl, rfl, _, rfl, iteN (decide_eq_false fun e => ?_) ?_⟩
      · cases e
        exact absurd z1 (by decide)
      refine ⟨_, rfl, _, _, rfl, ⟨by omega, rfl⟩, _, _, rfl, rfl, _, rfl, ?_⟩
      by_cases z2 : z.length ≤ 8
      · exact iteN (decide_eq_false (by omega)) ⟨z, rfl, rfl, rfl, rfl, z1, z2⟩
      · have e : nameA (.str z) = false := decide_eq_false fun h => z2 h.2.1
        rw [e] at k
        exact iteD (decide_eq_true (by omega)) (k H (Same.refl H))
    rintro σ' H' ⟨z, rfl, rfl, rfl, rfl, z1, z2⟩
    refine ⟨_, rfl, z, rfl, fun D hD => ?_⟩
    refine loop_str (fun i H2 => H2 D = some (.lst ((((z.cps.toList.take i).filter fun c => !decide (c ∈ letters)).map fun c => (⟨#[c]⟩ : Str)).map V.str)) ∧ Same H' H2) ⟨upd_same, upd_new hD⟩ ?_ ?_
    · rintro i c H1 hc ⟨eD, s1⟩
      have hi : i < z.cps.toList.length := (List.getElem?_eq_some_iff.mp hc).1
      have hi : i < z.length := by simpa [Str.length] using hi
      have fl := filt_len (f := fun c : Nat => !decide (c ∈ letters)) (l := z.cps.toList) i
      refine ⟨rfl, ?_⟩
      have skip : c ∈ letters → ((((z.cps.toList.take (i + 1)).filter fun c => !decide (c ∈ letters)).map fun c => (⟨#[c]⟩ : Str)).map V.str) = (((z.cps.toList.take i).filter fun c => !decide (c ∈ letters)).map fun c => (⟨#[c]⟩ : Str)).map V.str := fun h => by
        rw [filt_take hc]
        simp [h]
      have put : ¬ c ∈ letters → ∃ acc, H1 D = some (.lst acc) ∧ acc.length < sizeLine ∧ upd H1 D (.lst (acc ++ [.str ⟨#[c]⟩])) D = some (.lst ((((z.cps.toList.take (i + 1)).filter fun c => !decide (c ∈ letters)).map fun c => (⟨#[c]⟩ : Str)).map V.str)) ∧ Same H' (upd H1 D (.lst (acc ++ [.str ⟨#[c]⟩]))) := fun h => by
        refine ⟨_, eD, by rw [List.length_map, List.length_map]; omega, ?_, same_upd s1 hD⟩
        rw [upd_same, filt_take hc]
        simp [h]
      have s1' : ∀ d : Nat, (⟨#[d]⟩ : Str).cps.toList = [d] := fun d => rfl
      refine ⟨_, rfl, _, _, rfl, rfl, _, rfl, ?_⟩
      by_cases c1 : 97 ≤ c
      rotate_left
      · refine iteN ?_ ?_
        · show (!decide (([c] : List Nat) < [97])) = false
          rw [decide_eq_true (lt_one.mpr (by omega))]
          rfl
        · exact ⟨_, rfl, iteT ⟨_, rfl, put fun h => c1 (let_iff.mp h).1⟩⟩
      refine iteD ?_ ?_
      · show (!decide (([c] : List Nat) < [97])) = true
        rw [decide_eq_false (fun h => by have := lt_one.mp h; omega)]
        rfl
      refine ⟨_, _, rfl, rfl, _, rfl, ?_⟩
      have e3 : (!decide ((Str.cps "z").toList < (⟨#[c]⟩ : Str).cps.toList)) = decide (c ≤ 122) := by
        show (!decide (([122] : List Nat) < [c])) = decide (c ≤ 122)
        by_cases h : c ≤ 122
        · rw [decide_eq_true h, decide_eq_false (fun w => by have := lt_one.mp w; omega)]
          rfl
        · rw [decide_eq_false h, decide_eq_true (lt_one.mpr (by omega))]
          rfl
      rw [e3]
      by_cases c2 : c ≤ 122
      · rw [decide_eq_true c2]
        exact iteF ⟨by rw [skip (let_iff.mpr ⟨c1, c2⟩)]; exact eD, s1⟩
      · rw [decide_eq_false c2]
        exact iteT ⟨_, rfl, put fun h => c2 (let_iff.mp h).2⟩
    · rintro H1 ⟨eD, s1⟩
      rw [List.take_length] at eD
      refine ⟨(by show 0 ≤ sizeLine; omega), fun q H2 n2 s2 e2 => ?_⟩
      refine ⟨D, q, _, [], rfl, rfl, s2 _ _ eD, e2, ?_⟩
      have e3 : decide (((z.cps.toList.filter fun c => !decide (c ∈ letters)).map fun c => (⟨#[c]⟩ : Str)) = []) = nameA (.str z) := by
        show _ = decide (NameOk z)
        rw [decide_eq_decide, List.map_eq_nil_iff, filt_all, List.all_eq_true]
        exact ⟨fun h => ⟨z1, z2, fun c hc => of_decide_eq_true (h c hc)⟩, fun h c hc => decide_eq_true (h.2.2 c hc)⟩
      exact (congrArg (fun b => Q (.bl b) H2) e3).mpr (k H2 (s1.trans s2))
theorem ok_lkind {fd : FuncData} (F : FnP K "_law_is_kind" sLKind fd) (T : Fre mg) (D_law_is_name : Df P w K mg base 1 "_law_is_name" ["_law_value"] (spName K)) : FnOk P w K mg base CX0 2 (He.ga K "_law_is_kind") fd ["_law_value"] (spKind K) := by
  refine F.ok LKind (fun vs H Q E h => ?_) (fun cdv A outer s H vs Q E hr h => ?_)
  · obtain ⟨d, v, rfl, _⟩ := h
    rfl
  · obtain ⟨d, v, rfl, hv, hs, k⟩ := h
    refine ⟨_, PSs.nox (pss_cons (ps_cut (ps_if (pt_val (pe_callB (call_isiE K rfl) (by rfl) T.isinstance EW.boot_isinstance (pa_cons (pv 0) (pa_cons (pe_bltn (v := .ty "str") rfl T.str EW.boot_str rfl) pa_nil)))) (pss_one (ps_ret (pe_cmpR op_eq (pv 0) pe_str (nomark _)))) pss_nil))
      (pss_cons (ps_cut (ps_if (PW.pt (pw_or (pt_not (pt_val (pe_callB (call_isiE K rfl) (by rfl) T.isinstance EW.boot_isinstance (pa_cons (pv 0) (pa_cons (pe_bltn (v := .ty "tuple") rfl T.tuple EW.boot_tuple rfl) pa_nil))))) (pw_or (pt_cmpR (EW.op_eqNilK K rfl hr.units) (pv 0) (pe_tupS pa_nil) (nomark _)) (pw_or1 (pt_cmpR op_gt (pe_callB (call_lenK K rfl) (by rfl) T.len PySem.boot_len (pa_cons (pv 0) pa_nil)) pe_int (nomark _)))))) (pss_one (ps_ret pe_bl)) pss_nil))
      (pss_cons (ps_cut (ps_if (pt_cmpR (EW.op_neNilK K rfl hr.units) (pe_lc (own := [("_law_one", 1)]) (g := gName 1) (tt := _) (by rfl) LKind.nd (pi_tupK (K := K) rfl (pv 0)) (blkOk_by (own := [("_law_one", 1)]) (N := NLKind) (sc := defScope sLKind) (by decide +kernel)) (fun _ _ _ _ _ => (pg_name (i := 1) LKind.nd rfl (Or.inl rfl))) (fun _ _ _ _ _ => (pts_one (PW.pt (pw_or (pt_not (pt_val (pe_df D_law_is_name (hr.mono (by decide)) rfl (pa_cons (pv 1) pa_nil)))) (pw_or1 (pt_cmpR op_eq (pv 1) pe_str (nomark _))))))) (fun _ _ _ _ _ => (pv 1))) (pe_lstS pa_nil) (nomark _)) (pss_one (ps_ret pe_bl)) pss_nil))
      (pss_one (ps_ret (pe_cmpR (EW.op_eqStrK hr.units) (pe_callTy (call_listS K rfl) (by rfl) T.list EW.boot_list (pa_cons (pv 0) pa_nil)) (pe_callB (EW.cr_sortedTx w rfl rfl) (by rfl) T.sorted EW.boot_sorted (pa_cons (pe_callTy (EW.cr_setTx K w rfl rfl rfl) (by rfl) T.set EW.boot_set (pa_cons (pv 0) pa_nil)) pa_nil)) (nomark _))))))), ?_⟩
    have hbig : (64 : Nat) ≤ sizeLine := by decide
    refine ⟨fun σ' H' => σ' = [some v, none] ∧ H' = H ∧ d.isS = false, ?_, ?_⟩
    · refine ⟨_, rfl, v, _, .type d.cl, _, d.isS, rfl, .ty "str", hv.ty, avS d, _, rfl, ?_⟩
      by_cases c : d.isS = true
      rotate_left
      · have hn : d.isS = false := by simpa using c
        exact iteN hn ⟨rfl, rfl, hn⟩
      cases d <;> first | cases c | skip
      rename_i z
      rw [Av] at hv
      subst hv
      refine iteD rfl ⟨_, rfl, rfl, ?_⟩
      have e : kindA (.str z) = decide (V.str z = V.str "time") := by
        show decide (z = "time") = _
        rw [decide_eq_decide]
        exact ⟨fun h => by rw [h], fun h => by cases h; rfl⟩
      rw [e] at k
      exact k H (Same.refl H)
    rintro σ' H' ⟨rfl, rfl, cs⟩
    have ek : kindA d = domA d := by cases d <;> first | rfl | cases cs
    rw [ek] at k
    refine ⟨fun σ' H2 => ∃ (a : Addr) (xs : List V) (l : List Dv), σ' = [some v, none] ∧ Same H' H2 ∧ v = .ref a ∧ d = .tup l ∧ SqT K H2 a xs ∧ AvL K H2 l xs ∧ 1 ≤ l.length ∧ l.length ≤ 8, ?_, ?_⟩
    · by_cases c : d.isT = true
      rotate_left
      · have c : d.isT = false := by simpa using c
        have e : domA d = false := by cases d <;> first | rfl | cases c
        rw [e] at k
        exact ⟨_, rfl, v, _, .type d.cl, _, d.isT, rfl, .ty "tuple", hv.ty, avTu d, _, rfl, iteD (by rw [c]; rfl) (k H' (Same.refl H'))⟩
      obtain ⟨l, rfl⟩ := tup_of c
      obtain ⟨a, xs, rfl, hS, hl⟩ := hv.tup_inv
      have hln := hl.len
      refine ⟨_, rfl, .ref a, _, .type "tuple", _, true, rfl, .ty "tuple", tyT hS, kit_ty kb4, _, rfl, iteF ?_⟩
      refine ⟨_, rfl, (by show 0 ≤ sizeLine; omega), fun q H1 n1 s1 e1 => ⟨q, rfl, SqT.of e1, .inl ⟨a, xs, rfl, SqT.same hS s1, _, rfl, ?_⟩⟩⟩
      by_cases d1 : 1 ≤ l.length
      rotate_left
      · have e : domA (.tup l) = false := by simp [domA, d1]
        rw [e] at k
        have hx : xs = [] := List.eq_nil_of_length_eq_zero (by omega)
        exact iteD (by rw [hx]; rfl) (k H1 s1)
      have hx : xs.isEmpty = false := by
        cases xs with
        | nil => rw [List.length_nil] at hln; omega
        | cons _ _ => rfl
      refine iteN hx ⟨_, rfl, _, _, rfl, .inr ⟨_, SqT.same hS s1, rfl⟩, _, _, rfl, rfl, _, rfl, ?_⟩
      by_cases d2 : l.length ≤ 8
      · exact iteN (decide_eq_false (by omega)) ⟨a, xs, l, rfl, s1, rfl, rfl, SqT.same hS s1, hl.same s1, d1, d2⟩
      · have e : domA (.tup l) = false := by simp [domA, d2]
        rw [e] at k
        exact iteD (decide_eq_true (by omega)) (k H1 s1)
    rintro σ' H2 ⟨a, xs, l, rfl, s1, rfl, rfl, hS, hl, d1, d2⟩
    have hln := hl.len
    have hs : l.all Dv.shr1 = true := hs
    have e0 : domA (.tup l) = (l.all dnamA && decide (Rise (l.map Dv.txt))) := by simp [domA, d1, d2]
    rw [e0] at k
    refine ⟨fun σ' H3 => σ' = [some (.ref a), none] ∧ Same H2 H3 ∧ l.all dnamA = true, ?_, ?_⟩
    · refine ⟨_, rfl, a, rfl, ⟨_, hS⟩, fun D hD => ?_⟩
      refine loop_tup (xs := xs) (fun i H3 => ∃ ys : List V, H3 D = some (.lst ys) ∧ ys.length = ((l.take i).filter fun d => !dnamA d).length ∧ Same H2 H3) ⟨[], upd_same, rfl, upd_new hD⟩ ?_ ?_ ?_
      · rintro i H3 _ ⟨_, _, _, s2⟩
        exact SqT.same hS s2
      · rintro i u H3 hu ⟨ys, eD, hy, s2⟩
        obtain ⟨dv, hdv, hav⟩ := hl.get hu
        have hi : i < l.length := (List.getElem?_eq_some_iff.mp hdv).1
        have fl := filt_len (f := fun d : Dv => !dnamA d) (l := l) i
        have hsd := List.all_eq_true.mp hs dv (List.mem_of_getElem? hdv)
        refine ⟨rfl, ?_⟩
        refine ⟨_, rfl, dv, u, rfl, hav.same s2, hsd, fun H4 s3 => ⟨_, rfl, ?_⟩⟩
        have skip : dnamA dv = true → ∃ ys : List V, H4 D = some (.lst ys) ∧ ys.length = ((l.take (i + 1)).filter fun d => !dnamA d).length ∧ Same H2 H4 := fun h => by
          refine ⟨ys, s3 _ _ eD, ?_, s2.trans s3⟩
          rw [hy, filt_take hdv]
          simp [h]
        have put : dnamA dv = false → ∃ acc, H4 D = some (.lst acc) ∧ acc.length < sizeLine ∧ ∃ ys : List V, upd H4 D (.lst (acc ++ [u])) D = some (.lst ys) ∧ ys.length = ((l.take (i + 1)).filter fun d => !dnamA d).length ∧ Same H2 (upd H4 D (.lst (acc ++ [u]))) := fun h => by
          refine ⟨ys, s3 _ _ eD, by omega, _, upd_same, ?_, same_upd (s2.trans s3) hD⟩
          rw [List.length_append, hy, filt_take hdv]
          simp [h]
        cases c : nameA dv with
        | false =>
          have hn : dnamA dv = false := by
            cases dv <;> first | rfl | skip
            rename_i z
            simp only [nameA, decide_eq_false_iff_not] at c
            simp [dnamA, c]
          exact iteT ⟨_, rfl, put hn⟩
        | true =>
          cases dv <;> first | cases c | skip
          rename_i z
          rw [Av] at hav
          subst hav
          have hz : NameOk z := of_decide_eq_true c
          refine iteN rfl ⟨_, rfl, rfl, _, rfl, ?_⟩
          by_cases ct : z = "time"
          · exact iteD (by rw [ct]; rfl) ⟨_, rfl, put (by simp [dnamA, ct])⟩
          · exact iteN (decide_eq_false fun e => ct (by cases e; rfl)) (skip (by simp [dnamA, ct, hz]))
      · rintro H3 ⟨ys, eD, hy, s2⟩
        rw [hln, List.take_length] at hy
        refine ⟨(by show 0 ≤ sizeLine; omega), fun q H4 n4 s4 e4 => ⟨D, q, _, rfl, rfl, s4 _ _ eD, e4, _, rfl, ?_⟩⟩
        by_cases ca : l.all dnamA = true
        · have : ys = [] := List.eq_nil_of_length_eq_zero (by rw [hy, filt_all.mpr ca]; rfl)
          exact iteN (by rw [this]; rfl) ⟨rfl, s2.trans s4, ca⟩
        · have hne : ys.isEmpty = false := by
            cases ys with
            | nil =>
              rw [List.length_nil] at hy
              exact absurd (filt_all.mp (List.eq_nil_of_length_eq_zero hy.symm)) ca
            | cons _ _ => rfl
          have ca : l.all dnamA = false := by simpa using ca
          rw [ca, Bool.false_and] at k
          exact iteD (by rw [hne]; rfl) (k H4 (s1.trans (s2.trans s4)))
    rintro σ' H3 ⟨rfl, s3, ca⟩
    have hS3 := SqT.same hS s3
    have ex : xs = (l.map Dv.txt).map V.str := by
      rw [dnam_txt ca] at hl
      exact av_strs hl
    subst ex
    rw [ca, Bool.true_and] at k
    generalize hm : l.map Dv.txt = m at *
    have hml : m.length = l.length := by rw [← hm, List.length_map]
    refine ⟨_, rfl, nil_ ⟨a, _, rfl, .inr hS3, fun q H4 n4 s4 e4 => ?_⟩⟩
    have hsb : m.length + 1 < scanBound := by
      have : (100 : Nat) < scanBound := by decide
      omega
    refine ⟨_, rfl, nil_ ⟨a, m, rfl, .inr (SqT.same hS3 s4), hsb, fun p c H5 n5 s5 e5 hc => nil_ ⟨p, _, _, rfl, e5, fun ys hl' nd so hm' q6 H6 n6 s6 e6 => ?_⟩⟩⟩
    refine ⟨q, q6, m, ys, rfl, rfl, s6 _ _ (s5 _ _ e4), e6, ?_⟩
    have e : decide (m = ys) = decide (Rise m) := rise_sorted nd so fun k => by rw [hm', decide_eq_true_iff]
    exact (congrArg (fun b => Q (.bl b) H6) e).mpr (k H6 (s1.trans (s3.trans (s4.trans (s5.trans s6)))))
end
end TM
end

section
set_option maxHeartbeats 4000000
namespace TM
open PySem PySem.Spec PyProof.Rows L2 EW
abbrev NLShape : List Str := ["_law_value", "_law_name"]
theorem LShape : FnScope NLShape ["_law_value"] (defScope sLShape) := ⟨rfl, rfl, rfl, by decide +kernel, rfl, by decide +kernel, by decide +kernel⟩
abbrev NLRow : List Str := ["_law_shape_here", "_law_value", "_law_name", "_law_one", "_law_column"]
theorem LRow : FnScope NLRow ["_law_shape_here", "_law_value"] (defScope sLRow) := ⟨rfl, rfl, rfl, by decide +kernel, rfl, by decide +kernel, by decide +kernel⟩
theorem dms_len_w (S : Shp) : (dms S).length = S.length - (tms S).length := by
  have h1 : (dms S).length = (S.filter fun q => !q.2.isT).length := by
    unfold dms
    rw [(srt_perm _).length_eq, List.length_map]
  have h2 := tms_len S
  have h3 : (S.filter fun q => q.2.isT).length + (S.filter fun q => !q.2.isT).length = S.length := by
    induction S with
    | nil => rfl
    | cons q S ih =>
      have e1 := ih (by unfold dms; rw [(srt_perm _).length_eq, List.length_map]) (tms_len S)
      cases c : q.2.isT <;> simp [List.filter_cons, c] <;> omega
  omega
def spLRow (K : W.Frag) : Sp := fun vs H Q _ => ∃ (u v : V) (S : Shp) (d : Dv), vs = [u, v] ∧ ShpAt K H u S ∧ ShpOk S ∧ Av K H d v ∧ ∀ H', Same H H' → Q (.bl (rowA S d)) H'
section
variable {P : Program} {w : World} {K : W.Frag} {mg : Str → Option Value} {base : Heap}
theorem ok_lshape {fd : FuncData} (F : FnP K "_law_is_shape" sLShape fd) (T : Fre mg) (D_law_is_name : Df P w K mg base 1 "_law_is_name" ["_law_value"] (spName K)) (D_law_is_kind : Df P w K mg base 2 "_law_is_kind" ["_law_value"] (spKind K))
    (D_law_times_of : Df P w K mg base 1 "_law_times_of" ["_law_shape_here"] (spNames K tms)) (D_law_domains_of : Df P w K mg base 1 "_law_domains_of" ["_law_shape_here"] (spNames K dms)) : FnOk P w K mg base CX0 3 (He.ga K "_law_is_shape") fd ["_law_value"] (spIsShape K) := by
  refine F.ok LShape (fun vs H Q E h => ?_) (fun cdv A outer s H vs Q E hr h => ?_)
  · obtain ⟨v, dw, rfl, _⟩ := h
    rfl
  · refine ⟨_, PSs.nox (pss_cons (ps_cut (ps_if (pt_not (pt_val (pe_callB (call_isiE K rfl) (by rfl) T.isinstance EW.boot_isinstance (pa_cons (pv 0) (pa_cons (pe_bltn (v := .ty "dict") rfl T.dict EW.boot_dict rfl) pa_nil))))) (pss_one (ps_ret pe_bl)) pss_nil))
      (pss_cons (ps_cut (ps_if (pt_cmpR (EW.op_neNilK K rfl hr.units) (pe_lock (pe_lc (own := [("_law_name", 1)]) (g := gName 1) (tt := _) (by rfl) LShape.nd (pi_keys (pv 0)) (blkOk_by (own := [("_law_name", 1)]) (N := NLShape) (sc := defScope sLShape) (by decide +kernel)) (fun _ _ _ _ _ => (pg_name (i := 1) LShape.nd rfl (Or.inl rfl))) (fun _ _ _ _ _ => (pts_one (PW.pt (pw_or (pt_not (pt_val (pe_df D_law_is_name (hr.mono (by decide)) rfl (pa_cons (pv 1) pa_nil)))) (pw_or (pt_cmpR op_eq (pv 1) pe_str (nomark _)) (pw_or1 (pt_not (pt_val (pe_df D_law_is_kind (hr.mono (by decide)) rfl (pa_cons (pe_dget hr.u1 (pv 0) (pv 1) (fun _ _ => rfl)) pa_nil)))))))))) (fun _ _ _ _ _ => (pv 1)))) (pe_lstS pa_nil) (nomark _)) (pss_one (ps_ret pe_bl)) pss_nil))
      (pss_one (ps_ret (pe_and (pe_cmpR op_lt (pe_callB (call_lenK K rfl) (by rfl) T.len PySem.boot_len (pa_cons (pe_df D_law_times_of (hr.mono (by decide)) rfl (pa_cons (pv 0) pa_nil)) pa_nil)) pe_int (nomark _)) (pe_one (pe_cmpR op_lt (pe_callB (call_lenK K rfl) (by rfl) T.len PySem.boot_len (pa_cons (pe_df D_law_domains_of (hr.mono (by decide)) rfl (pa_cons (pv 0) pa_nil)) pa_nil)) pe_int (nomark _)))))))), ?_⟩
    have hbig : (64 : Nat) ≤ sizeLine := by decide
    obtain ⟨v, dw, rfl, hv, hok, k⟩ := h
    refine ⟨fun σ' H' => ∃ (d : Addr) (kvs : List (Key × V)) (es : Des), σ' = [some v, none] ∧ H' = H ∧ v = .ref d ∧ dw = .dic es ∧ H d = some (.dK kvs) ∧ DEnt K H kvs es, ?_, ?_⟩
    · cases dw with
      | val dv =>
        obtain ⟨hv, hn⟩ := hv
        exact ⟨_, rfl, v, _, .type dv.cl, _, dv.isD, rfl, .ty "dict", hv.ty, avD dv, _, rfl, iteD (by rw [hn]; rfl) (k H (Same.refl H))⟩
      | dic es =>
        obtain ⟨d, kvs, rfl, hd, en⟩ := hv
        exact ⟨_, rfl, _, _, .type "dict", _, true, rfl, .ty "dict", .base (.dK hd), kit_ty kb7, true, rfl, iteF ⟨d, kvs, es, rfl, rfl, rfl, rfl, hd, en⟩⟩
    rintro σ' H' ⟨d, kvs, es, rfl, rfl, rfl, rfl, hd, en⟩
    obtain ⟨nd, hl, hsh⟩ := hok
    have hlen := Paired.length en
    have k : ∀ H2, Same H' H2 → Q (.bl (shapeA es)) H2 := k
    refine ⟨fun σ' H2 => σ' = [some (.ref d), none] ∧ Same H' H2 ∧ es.all enA = true, ?_, ?_⟩
    · refine ⟨d, _, hd, True.intro, fun od => ?_⟩
      have en2 := DEnt.lock (o := od) en hd
      refine ⟨_, rfl, d, od, rfl, .inl ⟨kvs, upd_same, fun D hD => ?_⟩⟩
      refine loop_keys (fun i H2 => ∃ ys : List V, H2 D = some (.lst ys) ∧ ys.length = ((es.take i).filter fun e => !enA e).length ∧ Same (upd H' d (.frz od (.dK kvs))) H2) ⟨[], upd_same, rfl, upd_new hD⟩ ?_ ?_ ?_
      · rintro i H2 _ ⟨_, _, _, s1⟩
        exact s1 _ _ upd_same
      · rintro i kk v H1 hkv ⟨ys, eD, hy, s1⟩
        obtain ⟨dv, hdv, hav⟩ := DEnt.at_ (DEnt.same en2 s1) hkv
        have hi : i < es.length := (List.getElem?_eq_some_iff.mp hdv).1
        obtain ⟨hs1, hs2⟩ := hsh _ (List.mem_of_getElem? hdv)
        have fl := filt_len (f := fun e : Key × Dv => !enA e) (l := es) i
        refine ⟨rfl, ?_⟩
        have skip : enA (kk, dv) = true → ∀ H4, Same H1 H4 → ∃ ys : List V, H4 D = some (.lst ys) ∧ ys.length = ((es.take (i + 1)).filter fun e => !enA e).length ∧ Same (upd H' d (.frz od (.dK kvs))) H4 := fun h H4 s4 => by
          refine ⟨ys, s4 _ _ eD, ?_, s1.trans s4⟩
          rw [hy, filt_take hdv]
          simp [h]
        have put : enA (kk, dv) = false → ∀ H4, Same H1 H4 → ∃ acc, H4 D = some (.lst acc) ∧ acc.length < sizeLine ∧ ∃ ys : List V, upd H4 D (.lst (acc ++ [kV kk])) D = some (.lst ys) ∧ ys.length = ((es.take (i + 1)).filter fun e => !enA e).length ∧ Same (upd H' d (.frz od (.dK kvs))) (upd H4 D (.lst (acc ++ [kV kk]))) := fun h H4 s4 => by
          refine ⟨ys, s4 _ _ eD, by omega, _, upd_same, ?_, same_upd (s1.trans s4) hD⟩
          rw [List.length_append, hy, filt_take hdv]
          simp [h]
        refine ⟨_, rfl, keyDv kk, _, rfl, keyDv_av kk, ?_, fun H2 s2 => ⟨_, rfl, ?_⟩⟩
        · cases kk with
          | inl i => rfl
          | inr z => exact decide_eq_true (hs2 z rfl)
        cases c : nameA (keyDv kk) with
        | false =>
          have hn : enA (kk, dv) = false := by
            unfold enA
            rw [Bool.and_eq_false_iff]
            left
            cases kk with
            | inl i => rfl
            | inr z =>
              have : ¬ NameOk z := of_decide_eq_false c
              simp [colA, this]
          exact iteT ⟨_, rfl, put hn H2 s2⟩
        | true =>
          refine iteF ?_
          cases kk with
          | inl i => cases c
          | inr z =>
            have hz : NameOk z := of_decide_eq_true c
            refine ⟨_, rfl, rfl, _, rfl, ?_⟩
            by_cases cz : z = "now"
            · have hn : enA (Sum.inr z, dv) = false := by simp [enA, colA, cz]
              exact iteD (by rw [cz]; rfl) ⟨_, rfl, put hn H2 s2⟩
            refine iteN (decide_eq_false fun e => cz (by cases e; rfl)) ?_
            have hval := DEnt.val en2 nd hkv
            refine ⟨_, rfl, _, rfl, d, v, rfl, .inl ⟨kvs, Sum.inr z, .inr ⟨od, (s1.trans s2) _ _ upd_same⟩, rfl, hval.symm⟩, ?_⟩
            refine ⟨dv, v, rfl, hav.same s2, hs1, fun H3 s3 => ?_⟩
            have ee : enA (Sum.inr z, dv) = kindA dv := by simp [enA, colA, cz, hz]
            cases ck : kindA dv with
            | false => exact ⟨_, rfl, iteT ⟨_, rfl, put (ee.trans ck) H3 (s2.trans s3)⟩⟩
            | true => exact ⟨_, rfl, iteF (skip (ee.trans ck) H3 (s2.trans s3))⟩
      · rintro H1 ⟨ys, eD, hy, s1⟩
        rw [hlen, List.take_length] at hy
        have s2 := same_lock hd s1
        have nD : D ≠ d := fun z => by rw [z, upd_same] at hD; cases hD
        refine ⟨s1 _ _ upd_same, (by show 0 ≤ sizeLine; omega), fun q H4 n4 s4 e4 => ⟨D, q, _, rfl, rfl, s4 _ _ (by rw [upd_ne nD]; exact eD), e4, _, rfl, ?_⟩⟩
        by_cases ca : es.all enA = true
        · have : ys = [] := List.eq_nil_of_length_eq_zero (by rw [hy, filt_all.mpr ca]; rfl)
          exact iteN (by rw [this]; rfl) ⟨rfl, s2.trans s4, ca⟩
        · have hne : ys.isEmpty = false := by
            cases ys with
            | nil =>
              rw [List.length_nil] at hy
              exact absurd (filt_all.mp (List.eq_nil_of_length_eq_zero hy.symm)) ca
            | cons _ _ => rfl
          have ca : es.all enA = false := by simpa using ca
          have e : shapeA es = false := by unfold shapeA; rw [ca, Bool.false_and]
          rw [e] at k
          exact iteD (by rw [hne]; rfl) (k H4 (s2.trans s4))
    rintro σ' H2 ⟨rfl, s1, ca⟩
    have so := shp_of ca nd hl
    have tl := tms_shp ca
    have hu : ShpAt K H' (.ref d) (shpOf es) := ⟨d, kvs, rfl, hd, ent_shp en ca⟩
    have e : shapeA es = (decide ((tms (shpOf es)).length ≤ 2) && decide ((dms (shpOf es)).length ≤ 3)) := by
      unfold shapeA
      rw [ca, Bool.true_and, dms_len_w, tl]
      unfold shpOf
      rw [List.length_map]
    rw [e] at k
    refine ⟨_, rfl, _, _, rfl, hu.same s1, so, fun p H3 s3 ep => ?_⟩
    refine ⟨_, _, rfl, .inl ⟨_, SqL.of ep, rfl⟩, _, _, rfl, rfl, _, rfl, ?_⟩
    rw [List.length_map]
    by_cases c2 : (tms (shpOf es)).length ≤ 2
    rotate_left
    · rw [decide_eq_false c2, Bool.false_and] at k
      exact iteN (decide_eq_false (by omega)) (k H3 (s1.trans s3))
    rw [decide_eq_true c2, Bool.true_and] at k
    refine iteD (decide_eq_true (by omega)) ?_
    refine ⟨_, rfl, _, _, rfl, hu.same (s1.trans s3), so, fun p2 H4 s4 ep2 => ?_⟩
    refine ⟨_, _, rfl, .inl ⟨_, SqL.of ep2, rfl⟩, _, _, rfl, rfl, ?_⟩
    rw [List.length_map]
    have q : decide (((dms (shpOf es)).length : Int) < 4) = decide ((dms (shpOf es)).length ≤ 3) := decide_eq_decide.mpr (by omega)
    exact (congrArg (fun b => Q (.bl b) H4) q).mpr (k H4 (s1.trans (s3.trans s4)))
theorem ok_lrow {fd : FuncData} (F : FnP K "_law_is_row" sLRow fd) (T : Fre mg) : FnOk P w K mg base CX0 1 (He.ga K "_law_is_row") fd ["_law_shape_here", "_law_value"] (spLRow K) := by
  refine F.ok LRow (fun vs H Q E h => ?_) (fun cdv A outer s H vs Q E hr h => ?_)
  · obtain ⟨u, v, S, d, rfl, _⟩ := h
    rfl
  · obtain ⟨u, v, S, dv, rfl, hu, so, hv, k⟩ := h
    have hbig : (64 : Nat) ≤ sizeLine := by decide
    have hall := so.all
    have nl : (Zr.names S).length = S.length := names_len S
    refine ⟨_, PSs.nox (pss_cons (ps_cut (ps_if (PW.pt (pw_or (pt_not (pt_val (pe_callB (call_isiE K rfl) (by rfl) T.isinstance EW.boot_isinstance (pa_cons (pv 1) (pa_cons (pe_bltn (v := .ty "tuple") rfl T.tuple EW.boot_tuple rfl) pa_nil))))) (pw_or1 (pt_cmpR op_ne (pe_callB (call_lenK K rfl) (by rfl) T.len PySem.boot_len (pa_cons (pv 1) pa_nil)) (pe_callB EW.call_lenDR (by rfl) T.len PySem.boot_len (pa_cons (pv 0) pa_nil)) (nomark _))))) (pss_one (ps_ret pe_bl)) pss_nil))
      (pss_cons (ps_cut (ps_for PassesOwn.never rfl (EW.pi_zipX (by rfl) T.zip (pa_cons (pe_callB (cr_sortedS (X := _)) (by rfl) T.sorted EW.boot_sorted (pa_cons (pe_lock (pe_lc (own := [("_law_column", 4)]) (g := gName 4) (tt := tYes) (by rfl) LRow.nd (pi_keys (pv 0)) (blkOk_by (own := [("_law_column", 4)]) (N := NLRow) (sc := defScope sLRow) (by decide +kernel)) (fun _ _ _ _ _ => (pg_name (i := 4) LRow.nd rfl (Or.inl rfl))) (fun _ _ _ _ _ => pts_nil) (fun _ _ _ _ _ => (pe_callTy SkE.call_str_str (by rfl) T.str EW.boot_str (pa_cons (pv 4) pa_nil))))) pa_nil)) (pa_cons (pv 1) pa_nil))) (pg_tup rfl (pgs_cons (pg_name (i := 2) LRow.nd rfl (Or.inl rfl)) (pgs_cons (pg_name (i := 3) LRow.nd rfl (Or.inl rfl)) pgs_nil))) (pss_cons (ps_if (PW.pt (pw_and (pt_cmpR (op_eqDK K rfl hr.units) (pe_dget hr.u1 (pv 0) (pv 2) (fun _ _ => rfl)) pe_str (nomark _)) (pw_and1 (PW.pt (pw_or (pt_not (pt_val (pe_callB (call_isiE K rfl) (by rfl) T.isinstance EW.boot_isinstance (pa_cons (pv 3) (pa_cons (pe_bltn (v := .ty "int") rfl T.int EW.boot_int rfl) pa_nil))))) (pw_or1 (pt_val (pe_callB (call_isiE K rfl) (by rfl) T.isinstance EW.boot_isinstance (pa_cons (pv 3) (pa_cons (pe_bltn (v := .ty "bool") rfl T.bool EW.boot_bool rfl) pa_nil)))))))))) (pss_one (ps_ret pe_bl)) pss_nil)
      (pss_one (ps_if (PW.pt (pw_and (pt_cmpR (op_neDK K rfl hr.units) (pe_dget hr.u1 (pv 0) (pv 2) (fun _ _ => rfl)) pe_str (nomark _)) (pw_and1 (PW.pt (pw_or (pt_not (pt_val (pe_callB (call_isiE K rfl) (by rfl) T.isinstance EW.boot_isinstance (pa_cons (pv 3) (pa_cons (pe_bltn (v := .ty "str") rfl T.str EW.boot_str rfl) pa_nil))))) (pw_or1 (pt_cmpR (EW.op_notInK K rfl) (pv 3) (pe_dget hr.u1 (pv 0) (pv 2) (fun _ _ => rfl)) rfl))))))) (pss_one (ps_ret pe_bl)) pss_nil)))))
      (pss_one (ps_ret pe_bl)))), ?_⟩
    refine ⟨fun σ' H' => ∃ (a : Addr) (xs : List V) (l : List Dv), σ' = [some u, some (.ref a), none, none, none] ∧ H' = H ∧ v = .ref a ∧ dv = .tup l ∧ SqT K H a xs ∧ AvL K H l xs ∧ xs.length = S.length, ?_, ?_⟩
    · obtain ⟨d, kvs, rfl, hd, en⟩ := id hu
      have hlen := Paired.length en
      by_cases c : dv.isT = true
      rotate_left
      · have c : dv.isT = false := by simpa using c
        have e : rowA S dv = false := by cases dv <;> first | rfl | cases c
        rw [e] at k
        exact ⟨_, rfl, v, _, .type dv.cl, _, dv.isT, rfl, .ty "tuple", hv.ty, avTu dv, _, rfl, iteD (by rw [c]; rfl) (k H (Same.refl H))⟩
      obtain ⟨l, rfl⟩ := tup_of c
      obtain ⟨a, xs, rfl, hS, hl⟩ := hv.tup_inv
      refine ⟨_, rfl, _, _, .type "tuple", _, true, rfl, .ty "tuple", tyT hS, kit_ty kb4, _, rfl, iteF ?_⟩
      by_cases n : xs.length = S.length
      · refine ⟨_, rfl, _, _, rfl, .inr ⟨_, hS, rfl⟩, _, rfl, _, kvs, rfl, .inl hd, rfl, _, rfl, iteN ?_ ⟨a, xs, l, rfl, rfl, rfl, rfl, hS, hl, n⟩⟩
        simp [n, hlen]
      · have e : rowA S (.tup l) = false := by
          show valsA S (Zr.names S) l = false
          unfold valsA
          rw [decide_eq_false (by rw [← hl.len, nl]; exact n), Bool.false_and]
        rw [e] at k
        exact ⟨_, rfl, _, _, rfl, .inr ⟨_, hS, rfl⟩, _, rfl, _, kvs, rfl, .inl hd, rfl, _, rfl, iteD (by simp [hlen]; omega) (k H (Same.refl H))⟩
    rintro σ' H1 ⟨a, xs, l, rfl, rfl, rfl, rfl, hS, hl, n⟩
    have e0 : rowA S (.tup l) = ((Zr.names S).zip l).all fun q => valA (kindOf S q.1) q.2 := by
      show valsA S (Zr.names S) l = _
      unfold valsA
      rw [decide_eq_true (by rw [← hl.len, nl]; exact n), Bool.true_and]
    rw [e0] at k
    obtain ⟨d, kvs, rfl, hd, en⟩ := id hu
    have hlen := Paired.length en
    refine ⟨fun σ' H' => Same H1 H' ∧ (((Zr.names S).zip l).all fun q => valA (kindOf S q.1) q.2) = true, ?_, ?_⟩
    · refine ⟨d, _, hd, True.intro, fun od => ?_⟩
      refine ⟨_, rfl, d, od, rfl, .inl ⟨kvs, upd_same, fun D hD => ?_⟩⟩
      have en2 := en.lock (o := od) hd
      refine loop_keys (fun i H' => H' D = some (.lst (((S.take i).map (·.1)).map V.str)) ∧ Same (upd H1 d (.frz od (.dK kvs))) H') ⟨upd_same, upd_new hD⟩ ?_ ?_ ?_
      · rintro i H' _ ⟨_, s2⟩
        exact s2 _ _ upd_same
      · rintro i kk v H2 hkv ⟨eD, s2⟩
        obtain ⟨z, kd, hz, rfl, _⟩ := ent_at en2 hkv
        have hi : i < S.length := (List.getElem?_eq_some_iff.mp hz).1
        refine ⟨rfl, ?_⟩
        refine ⟨_, rfl, _, rfl, ?_⟩
        refine ⟨_, eD, by rw [List.length_map, List.length_map, List.length_take]; omega, ?_, same_upd s2 hD⟩
        rw [upd_same, List.take_add_one, hz, List.map_append, List.map_append]
        rfl
      · rintro H2 ⟨eD, s2⟩
        refine ⟨s2 _ _ upd_same, ?_⟩
        have nD : D ≠ d := fun z => by
          rw [z, upd_same] at hD
          cases hD
        rw [hlen, List.take_length] at eD
        have s3 := same_lock hd s2
        refine ⟨D, _, rfl, SqL.of (by rw [upd_ne nD]; exact eD), by rw [List.length_map]; omega, fun ys p pe so' hp => ?_⟩
        have ey : ys = Zr.names S := srt_eq pe so'
        have s4 : Same H1 (upd (upd H2 d (.dK kvs)) p (.lst (ys.map V.str))) := same_upd s3 (by
          cases q : H1 p with
          | none => rfl
          | some o =>
            rw [s3 _ _ q] at hp
            cases hp)
        generalize hH : upd (upd H2 d (.dK kvs)) p (.lst (ys.map V.str)) = H3 at s4 ⊢
        have ep : H3 p = some (.lst ((Zr.names S).map V.str)) := by
          rw [← hH, upd_same, ey]
        refine ⟨_, rfl, p, a, _, _, rfl, SqL.of ep, SqT.same hS s4, ?_⟩
        refine for_zipX (us := (Zr.names S).map V.str) (vs := xs) (by rw [List.length_map, nl, n]) (fun i σ' H' => ∃ u4 u5 : Option V, σ' = [some (.ref d), some (.ref a), u4, u5, none] ∧ Same H1 H' ∧ H' p = some (.lst ((Zr.names S).map V.str)) ∧ ((((Zr.names S).zip l).take i).all fun q => valA (kindOf S q.1) q.2) = true) ⟨none, none, rfl, s4, ep, rfl⟩ ?_ ?_ ?_
        · rintro i σ' H4 _ ⟨_, _, _, s6, e6, _⟩
          exact ⟨SqL.of e6, SqT.same hS s6⟩
        · rintro i xn xv c σ' H4 H5 hn hv ⟨u4, u5, rfl, s6, e6, ha⟩ s7 ec
          rw [List.getElem?_map] at hn
          obtain ⟨nm, hnm, rfl⟩ := Option.map_eq_some_iff.mp hn
          have hi : i < (Zr.names S).length := (List.getElem?_eq_some_iff.mp hnm).1
          obtain ⟨kd, hm⟩ := names_mem (List.mem_of_getElem? hnm)
          obtain ⟨d', kvs', e', hd', en'⟩ := hu.same (s6.trans s7)
          cases e'
          obtain ⟨x, hx', kx⟩ := ent_val en' so.nd hm
          obtain ⟨dd, hdd, avy⟩ := hl.get hv
          have avy := avy.same (s6.trans s7)
          have ek := kindOf_eq so.nd hm
          have hz := zip_at hnm hdd
          have at_ := all_take (f := fun q : Str × Dv => valA (kindOf S q.1) q.2) hz
          rw [ha, Bool.true_and] at at_
          have at2 : ((((Zr.names S).zip l).take (i + 1)).all fun q => valA (kindOf S q.1) q.2) = valA kd dd := by rw [at_, ek]
          have bad : valA kd dd = false → Q (.bl false) H5 := fun h => by
            have : (((Zr.names S).zip l).all fun q => valA (kindOf S q.1) q.2) = false := by
              rw [Bool.eq_false_iff]
              intro hh
              have := List.all_eq_true.mp hh _ (List.mem_of_getElem? hz)
              rw [ek, h] at this
              cases this
            rw [this] at k
            exact k H5 (s6.trans s7)
          refine ⟨c, _, rfl, SqT.of ec, rfl, _, _, rfl, _, _, rfl, rfl, ?_⟩
          have good : valA kd dd = true → ∃ u4 u5 : Option V, (([some (V.ref d), some (V.ref a), u4, u5, none].set 2 (some (V.str nm))).set 3 (some xv)) = [some (.ref d), some (.ref a), u4, u5, none] ∧ Same H1 H5 ∧ H5 p = some (.lst ((Zr.names S).map V.str)) ∧ ((((Zr.names S).zip l).take (i + 1)).all fun q => valA (kindOf S q.1) q.2) = true := fun h => ⟨_, _, rfl, s6.trans s7, s7 _ _ e6, at2.trans h⟩
          have hshp := kd_shaped kd (so.dom _ hm)
          refine ⟨_, rfl, _, rfl, d, x, rfl, .inl ⟨kvs', Sum.inr nm, .inl hd', rfl, hx'.symm⟩, ?_⟩
          refine ⟨kdD kd, .str "time", kd_dp kx, .str _, hshp, by decide +kernel, _, rfl, ?_⟩
          rw [kd_eqv]
          cases kd with
          | time =>
            refine iteD rfl ⟨_, rfl, xv, _, .type dd.cl, _, dd.isI, rfl, .ty "int", avy.ty, avI dd, _, rfl, ?_⟩
            cases c1 : dd.isI with
            | false =>
              have hb : valA .time dd = false := by cases dd <;> first | rfl | cases c1
              exact iteD rfl (bad hb)
            | true =>
              refine iteN rfl ⟨_, rfl, xv, _, .type dd.cl, _, dd.isB, rfl, .ty "bool", avy.ty, avB dd, _, rfl, ?_⟩
              cases c2 : dd.isB with
              | true =>
                have hb : valA .time dd = false := by cases dd <;> first | rfl | cases c2
                exact iteD rfl (bad hb)
              | false =>
                have hg : valA .time dd = true := by
                  cases dd <;> first | rfl | (cases c1; done) | (cases c2; done)
                refine iteN rfl ?_
                refine ⟨_, rfl, _, rfl, d, x, rfl, .inl ⟨kvs', Sum.inr nm, .inl hd', rfl, hx'.symm⟩, ?_⟩
                refine ⟨kdD .time, .str "time", kd_dp kx, .str _, hshp, by decide +kernel, _, rfl, ?_⟩
                exact iteN rfl (good hg)
          | dom m =>
            obtain ⟨xa, rfl, hX⟩ := id kx
            refine iteN rfl ?_
            refine ⟨_, rfl, _, rfl, d, _, rfl, .inl ⟨kvs', Sum.inr nm, .inl hd', rfl, hx'.symm⟩, ?_⟩
            refine ⟨kdD (.dom m), .str "time", kd_dp kx, .str _, hshp, by decide +kernel, _, rfl, ?_⟩
            refine iteD rfl ⟨_, rfl, xv, _, .type dd.cl, _, dd.isS, rfl, .ty "str", avy.ty, avS dd, _, rfl, ?_⟩
            cases c1 : dd.isS with
            | false =>
              have hb : valA (.dom m) dd = false := by cases dd <;> first | rfl | cases c1
              exact iteD rfl (bad hb)
            | true =>
              refine iteN rfl ?_
              obtain ⟨z, rfl⟩ : ∃ z, dd = .str z := by
                cases dd <;> first | exact ⟨_, rfl⟩ | cases c1
              have avy : xv = .str z := by rw [Av] at avy; exact avy
              subst avy
              refine ⟨_, rfl, _, rfl, _, rfl, d, _, rfl, .inl ⟨kvs', Sum.inr nm, .inl hd', rfl, hx'.symm⟩, xa, _, rfl, .inr hX, rfl, flat_strs m, _, rfl, ?_⟩
              by_cases cm : z ∈ m
              · rw [in_strs cm]
                exact iteN rfl (good (decide_eq_true cm))
              · rw [in_strs_ne cm]
                exact iteD rfl (bad (decide_eq_false cm))
        · rintro σ' H4 ⟨u4, u5, rfl, s6, e6, ha⟩
          rw [List.take_of_length_le (by rw [List.length_zip, List.length_map]; omega)] at ha
          exact ⟨s6, ha⟩
    rintro σ' H' ⟨s1, ha⟩
    rw [ha] at k
    exact k H' s1
end
end TM
end

section
set_option maxHeartbeats 4000000
namespace TM
open PySem PySem.Spec PyProof.Rows L2 EW
abbrev NWord : List Str := ["_law_dice_here", "_law_signs", "_law_word_here", "_law_turn"]
theorem Word : FnScope NWord ["_law_dice_here"] (defScope sWord) := ⟨rfl, rfl, rfl, by decide +kernel, rfl, by decide +kernel, by decide +kernel⟩
abbrev NOdd : List Str := ["_law_dice_here", "_law_some"]
theorem Odd : FnScope NOdd ["_law_dice_here"] (defScope sOdd) := ⟨rfl, rfl, rfl, by decide +kernel, rfl, by decide +kernel, by decide +kernel⟩
theorem dispS {H H2 : Hp} {p : Addr} {kvs : List (Key × V)} (np : H p = none) (s : Same (upd H p (.dK [])) H2) : Same H (upd H2 p (.dK kvs)) := fun a o e => by
  have ne : a ≠ p := fun z => by rw [z, np] at e; cases e
  rw [upd_ne ne]
  exact s _ _ (by rw [upd_ne ne]; exact e)
theorem str_app_len (z c : Str) : (z ++ c).length = z.length + c.length := by
  show (z.cps ++ c.cps).size = _
  rw [Array.size_append]
  rfl
theorem free_of {H H1 : Hp} {a : Addr} (s : Same H H1) (h : H1 a = none) : H a = none := by
  cases q : H a with
  | none => rfl
  | some o => rw [s _ _ q] at h; cases h
theorem kfree_of {H H1 : Hp} {d a : Addr} (k : EW.Kept d H H1) (n : a ≠ d) (h : H1 a = none) : H a = none := by
  cases q : H a with
  | none => rfl
  | some o => rw [k _ _ n q] at h; cases h
def spWord : Sp := fun vs H Q _ => ∃ (di : Addr) (n : Int), vs = [.ref di] ∧ Dc H di n ∧ n + 20 ≤ 1000000 ∧ ∀ (z : Str) (H' : Hp), z.length ≤ 9 → EW.Kept di H H' → Dc H' di (n + 20) → Q (.str z) H'
def spOdd (K : W.Frag) : Sp := fun vs H Q _ => ∃ (di : Addr) (n : Int), vs = [.ref di] ∧ Dc H di n ∧ n + 1 ≤ 1000000 ∧ ∀ (v : V) (H' : Hp), Okv K H' v → EW.Kept di H H' → Dc H' di (n + 1) → Q v H'
section
variable {P : Program} {w : World} {K : W.Frag} {mg : Str → Option Value} {base : Heap}
theorem ok_word {fd : FuncData} (F : FnP K "_law_word" sWord fd) (T : Fre mg) (D_law_roll : Df P w K mg base 1 "_law_roll" ["_law_dice_here", "_law_many"] spRoll) (D_law_pick : Df P w K mg base 2 "_law_pick" ["_law_dice_here", "_law_items"] (spPick K)) :
    FnOk P w K mg base CX0 3 (He.ga K "_law_word") fd ["_law_dice_here"] spWord := by
  refine F.ok Word (fun vs H Q E h => ?_) (fun cdv A outer s H vs Q E hr h => ?_)
  · obtain ⟨di, n, rfl, _⟩ := h
    rfl
  · obtain ⟨di, n, rfl, D, hn, k⟩ := h
    have hbig : (1000 : Nat) ≤ sizeLine := by decide
    refine ⟨_, PSs.nox (pss_cons (ps_set (i := 1) Word.nd rfl (Or.inl rfl) (pe_lstS (pa_cons pe_str (pa_cons pe_str (pa_cons pe_str (pa_cons pe_str (pa_cons pe_str (pa_cons pe_str (pa_cons pe_str (pa_cons pe_str pa_nil))))))))))
      (pss_cons (ps_cut (ps_set (i := 2) Word.nd rfl (Or.inl rfl) pe_str))
      (pss_cons (ps_cut (ps_for PassesOwn.never rfl (pi_range1 rfl T.range (pa_cons (pe_df D_law_pick (hr.mono (by decide)) rfl (pa_cons (pv 0) (pa_cons (pe_lstS (pa_cons pe_int (pa_cons pe_int (pa_cons pe_int (pa_cons pe_int (pa_cons pe_int (pa_cons pe_int (pa_cons pe_int pa_nil)))))))) pa_nil))) pa_nil)) (pg_name (i := 3) Word.nd rfl (Or.inl rfl)) (pss_one (ps_set (i := 2) Word.nd rfl (Or.inl rfl) (pe_op op_add_str (pv 2) (pe_ix (ix_listK K rfl) (pv 1) (pe_df D_law_roll (hr.mono (by decide)) rfl (pa_cons (pv 0) (pa_cons (pe_df D_law_pick (hr.mono (by decide)) rfl (pa_cons (pv 0) (pa_cons (pe_lstS (pa_cons pe_int (pa_cons pe_int (pa_cons pe_int (pa_cons pe_int pa_nil))))) pa_nil))) pa_nil))) (fun _ _ => rfl)))))))
      (pss_one (ps_ret (pe_df D_law_pick (hr.mono (by decide)) rfl (pa_cons (pv 0) (pa_cons (pe_lstS (pa_cons (pv 2) (pa_cons (pv 2) (pa_cons (pv 2) (pa_cons pe_str (pa_cons pe_str (pa_cons pe_str pa_nil))))))) pa_nil)))))))), ?_⟩
    refine ⟨(by show 8 ≤ sizeLine; omega), fun q1 H1 n1 s1 e1 => ?_⟩
    have q1d : q1 ≠ di := D.nn n1
    refine ⟨fun σ' H' => σ' = [some (.ref di), some (.ref q1), some (.str ""), none] ∧ H' = H1, ⟨rfl, rfl⟩, ?_⟩
    rintro σ' H' ⟨rfl, rfl⟩
    have D1 := D.same s1
    refine ⟨fun σ' H2 => ∃ (z : Str) (u3 : Option V), σ' = [some (.ref di), some (.ref q1), some (.str z), u3] ∧ z.length ≤ 9 ∧ EW.Kept di H H2 ∧ Dc H2 di (n + 19), ?_, ?_⟩
    · refine ⟨_, rfl, (by show 7 ≤ sizeLine; omega), fun q2 H2 n2 s2 e2 => nil_ ⟨di, q2, _, _, rfl, D1.same s2, by omega, .inl ⟨SqL.of e2, D1.nn n2⟩, (by show 0 < 7; omega), (by show 7 < 1000; omega), fun v H3 hv k3 D3 => ?_⟩⟩
      obtain ⟨m, hm, rfl⟩ : ∃ m : Nat, m ≤ 9 ∧ v = .int (m : Int) := by
        simp only [List.mem_cons, List.not_mem_nil, or_false] at hv
        rcases hv with rfl | rfl | rfl | rfl | rfl | rfl | rfl
        · exact ⟨0, by omega, rfl⟩
        · exact ⟨1, by omega, rfl⟩
        · exact ⟨2, by omega, rfl⟩
        · exact ⟨3, by omega, rfl⟩
        · exact ⟨7, by omega, rfl⟩
        · exact ⟨8, by omega, rfl⟩
        · exact ⟨9, by omega, rfl⟩
      have k03 := (kept_of (d := di) (s1.trans s2)).trans k3
      refine nil_ ⟨_, rfl, by omega, by omega, ?_⟩
      refine for_range (lo := 0) (n := m) (fun i σ' H4 => ∃ (z : Str) (u3 : Option V), σ' = [some (.ref di), some (.ref q1), some (.str z), u3] ∧ z.length ≤ i ∧ EW.Kept di H H4 ∧ Dc H4 di (n + 1 + 2 * (i : Int)) ∧ H4 q1 = some (.lst [.str "a", .str "z", .str "m", .str "b", .str "A", .str "1", .str " ", .str "-"])) ⟨"", none, rfl, Nat.zero_le _, k03, D3.mono (by omega), k3 _ _ q1d (s2 _ _ e1)⟩ ?_ ?_
      · rintro i σ' H4 hi ⟨z, u3, rfl, hz, k4, D4, e4⟩
        refine ⟨_, rfl, _, rfl, _, rfl, _, rfl, (by show 4 ≤ sizeLine; omega), fun q5 H5 n5 s5 e5 => nil_ ⟨di, q5, _, _, rfl, D4.same s5, by omega, .inl ⟨SqL.of e5, D4.nn n5⟩, (by show 0 < 4; omega), (by show 4 < 1000; omega), fun v6 H6 hv6 k6 D6 => ?_⟩⟩
        obtain ⟨m6, hm6, hm7, rfl⟩ : ∃ m : Nat, 0 < m ∧ m ≤ 8 ∧ v6 = .int (m : Int) := by
          simp only [List.mem_cons, List.not_mem_nil, or_false] at hv6
          rcases hv6 with rfl | rfl | rfl | rfl
          · exact ⟨4, by omega, by omega, rfl⟩
          · exact ⟨4, by omega, by omega, rfl⟩
          · exact ⟨4, by omega, by omega, rfl⟩
          · exact ⟨8, by omega, by omega, rfl⟩
        refine nil_ ⟨di, _, _, rfl, D6, by omega, by omega, by omega, fun r H7 r0 r1 k7 D7 => ?_⟩
        obtain ⟨j, rfl⟩ : ∃ j : Nat, r = (j : Int) := ⟨r.toNat, by omega⟩
        have k47 := (kept_of (d := di) s5).trans (k6.trans k7)
        have e7 := k47 _ _ q1d e4
        have hj : j < 8 := by omega
        obtain ⟨c, hc, hl⟩ : ∃ c : Str, ([.str "a", .str "z", .str "m", .str "b", .str "A", .str "1", .str " ", .str "-"] : List V)[j]? = some (.str c) ∧ c.length = 1 := by
          rcases j with _ | _ | _ | _ | _ | _ | _ | _ | j
          · exact ⟨_, rfl, rfl⟩
          · exact ⟨_, rfl, rfl⟩
          · exact ⟨_, rfl, rfl⟩
          · exact ⟨_, rfl, rfl⟩
          · exact ⟨_, rfl, rfl⟩
          · exact ⟨_, rfl, rfl⟩
          · exact ⟨_, rfl, rfl⟩
          · exact ⟨_, rfl, rfl⟩
          · omega
        refine ⟨q1, _, _, _, rfl, rfl, SqL.of e7, atI_nat hc, z, c, rfl, rfl, by omega, ?_⟩
        refine ⟨z ++ c, _, rfl, ?_, k4.trans k47, D7.mono (by omega), e7⟩
        have hl2 : (z ++ c).length = z.length + c.length := str_app_len z c
        omega
      · rintro σ' H4 ⟨z, u3, rfl, hz, k4, D4, e4⟩
        exact ⟨z, u3, rfl, by omega, k4, D4.mono (by omega)⟩
    rintro σ' H2 ⟨z, u3, rfl, hz, k2, D2⟩
    refine ⟨_, rfl, _, rfl, _, rfl, _, rfl, (by show 6 ≤ sizeLine; omega), fun q5 H5 n5 s5 e5 => nil_ ⟨di, q5, _, _, rfl, D2.same s5, by omega, .inl ⟨SqL.of e5, D2.nn n5⟩, (by show 0 < 6; omega), (by show 6 < 1000; omega), fun v6 H6 hv6 k6 D6 => ?_⟩⟩
    have k06 := k2.trans ((kept_of (d := di) s5).trans k6)
    have D7 : Dc H6 di (n + 20) := D6.mono (by omega)
    simp only [List.mem_cons, List.not_mem_nil, or_false] at hv6
    rcases hv6 with rfl | rfl | rfl | rfl | rfl | rfl
    · exact k _ _ hz k06 D7
    · exact k _ _ hz k06 D7
    · exact k _ _ hz k06 D7
    · exact k _ _ (by decide) k06 D7
    · exact k _ _ (by decide) k06 D7
    · exact k _ _ (by decide) k06 D7
theorem ok_odd {fd : FuncData} (F : FnP K "_law_odd" sOdd fd) (T : Fre mg) (D_law_pick : Df P w K mg base 2 "_law_pick" ["_law_dice_here", "_law_items"] (spPick K)) :
    FnOk P w K mg base CX0 3 (He.ga K "_law_odd") fd ["_law_dice_here"] (spOdd K) := by
  refine F.ok Odd (fun vs H Q E h => ?_) (fun cdv A outer s H vs Q E hr h => ?_)
  · obtain ⟨di, n, rfl, _⟩ := h
    rfl
  · obtain ⟨di, n, rfl, D, hn, k⟩ := h
    have hbig : (1000 : Nat) ≤ sizeLine := by decide
    refine ⟨_, PSs.nox (pss_cons (ps_cut (ps_set (i := 1) Odd.nd rfl (Or.inl rfl) (pe_lstS (pa_cons pe_non (pa_cons pe_bl (pa_cons pe_bl (pa_cons pe_int (pa_cons pe_int (pa_cons (pe_un un_neg pe_int) (pa_cons (pe_op op_powW pe_int pe_int) (pa_cons pe_str (pa_cons pe_str (pa_cons (pe_tupS pa_nil) (pa_cons (pe_tupS (pa_cons pe_str pa_nil)) (pa_cons (pe_lstS pa_nil) (pa_cons (pe_lstS (pa_cons pe_str pa_nil)) (pa_cons pe_dnewS (pa_cons (pe_disp (pps_cons pe_str pe_int pps_nil) rfl rfl (fun z => nomatch z) (by decide)) (pa_cons (pe_tupS (pa_cons pe_str pa_nil)) pa_nil)))))))))))))))))))
      (pss_cons (ps_cut (ps_set (i := 1) Odd.nd rfl (Or.inl rfl) (pe_op op_catS (pv 1) (pe_lstS (pa_cons (pe_tupS (pa_cons (pe_lstS (pa_cons pe_str pa_nil)) pa_nil)) (pa_cons (pe_tupS (pa_cons pe_dnewS pa_nil)) (pa_cons (pe_disp (pps_cons pe_str (pe_tupS (pa_cons (pe_lstS pa_nil) pa_nil)) pps_nil) rfl rfl (fun z => nomatch z) (by decide)) (pa_cons (pe_tupS (pa_cons (pe_tupS (pa_cons pe_str pa_nil)) pa_nil)) pa_nil))))))))
      (pss_one (ps_ret (pe_df D_law_pick (hr.mono (by decide)) rfl (pa_cons (pv 0) (pa_cons (pe_op op_catS (pv 1) (pe_lstS (pa_cons (pe_tupS (pa_cons pe_non pa_nil)) (pa_cons (pe_tupS (pa_cons pe_str (pa_cons pe_str pa_nil))) (pa_cons (pe_tupS (pa_cons pe_str (pa_cons pe_str pa_nil))) (pa_cons pe_str (pa_cons (pe_disp (pps_cons pe_str pe_str pps_nil) rfl rfl (fun z => nomatch z) (by decide)) (pa_cons (pe_disp (pps_cons pe_int pe_str pps_nil) rfl rfl (fun z => nomatch z) (by decide)) (pa_cons (pe_disp (pps_cons pe_str pe_non pps_nil) rfl rfl (fun z => nomatch z) (by decide)) pa_nil))))))))) pa_nil))))))), ?_⟩
    obtain ⟨ds, hds⟩ := D.lst
    refine ⟨fun σ' H' => ∃ (l : Addr) (xs : List V), σ' = [some (.ref di), some (.ref l)] ∧ Same H H' ∧ H' l = some (.lst xs) ∧ AllO K H' xs ∧ xs.length = 16, ?_, ?_⟩
    · refine ⟨_, rfl, _, _, rfl, rfl, ⟨by decide, by decide⟩, (by show 0 ≤ sizeLine; omega), fun a1 H1 n1 s1 e1 => ⟨(by show 1 ≤ sizeLine; omega), fun a2 H2 n2 s2 e2 => ⟨(by show 0 ≤ sizeLine; omega), fun a3 H3 n3 s3 e3 => ⟨(by show 1 ≤ sizeLine; omega), fun a4 H4 n4 s4 e4 => ?_⟩⟩⟩⟩
      refine fun a5 H5 n5 s5 e5 p6 n6 => ⟨upd_same, [(.inr "a", .int 1)], rfl, by decide, ?_⟩
      have s6 : Same H5 (upd (upd H5 p6 (.dK [])) p6 (.dK (mergeK [] [(.inr "a", .int 1)]))) := dispS n6 (Same.refl _)
      have e6 : (upd (upd H5 p6 (.dK [])) p6 (.dK (mergeK [] [(.inr "a", .int 1)]))) p6 = some (.dK [(.inr "a", .int 1)]) := upd_same
      generalize (upd (upd H5 p6 (.dK [])) p6 (.dK (mergeK [] [(.inr "a", .int 1)]))) = H6 at s6 e6 ⊢
      refine ⟨(by show 1 ≤ sizeLine; omega), fun a7 H7 n7 s7 e7 => ⟨(by show 16 ≤ sizeLine; omega), fun l H8 n8 s8 e8 => ?_⟩⟩
      have s68 := s7.trans s8
      have s58 := s6.trans s68
      have s48 := s5.trans s58
      have s38 := s4.trans s48
      have s28 := s3.trans s38
      have s18 := s2.trans s28
      refine ⟨l, _, rfl, s1.trans s18, e8, ?_, rfl⟩
      refine .cons (.val .non_) (.cons (.val (.bl_ _)) (.cons (.val (.bl_ _)) (.cons (.val (.int_ _)) (.cons (.val (.int_ _)) (.cons (.val (.int_ _)) (.cons (.val (.int_ _)) (.cons (.str_ (by decide)) (.cons (.str_ (by decide)) ?_))))))))
      refine .cons (.tup_ (SqT.of (s18 _ _ e1)) .nil) (.cons (.tup_ (SqT.of (s28 _ _ e2)) (.cons (.str_ "a") .nil)) (.cons (.val (.lst_ (s38 _ _ e3))) (.cons (.val (.lst_ (s48 _ _ e4))) (.cons (.dic_ (s58 _ _ e5) (es := []) .nil ⟨.nil, by decide, fun _ h => nomatch h⟩) (.cons (.dic_ (s68 _ _ e6) (es := [(.inr "a", .int 1)]) (.cons ⟨rfl, .int_ 1⟩ .nil) (dic1_ok rfl fun z h => by cases h; decide)) (.cons (.tup_ (SqT.of (s8 _ _ e7)) (.cons (.str_ "time") .nil)) .nil))))))
    rintro σ' H0 ⟨l, xs, rfl, s0, el, al, xl⟩
    refine ⟨fun σ' H' => ∃ (l : Addr) (xs : List V), σ' = [some (.ref di), some (.ref l)] ∧ Same H H' ∧ H' l = some (.lst xs) ∧ AllO K H' xs ∧ xs.length = 20, ?_, ?_⟩
    · refine ⟨_, rfl, (by show 1 ≤ sizeLine; omega), fun a1 H1 n1 s1 e1 => ⟨(by show 1 ≤ sizeLine; omega), fun a2 H2 n2 s2 e2 => fun a3 H3 n3 s3 e3 => ⟨(by show 1 ≤ sizeLine; omega), fun a4 H4 n4 s4 e4 => fun p5 n5 => ⟨(by show 0 ≤ sizeLine; omega), fun a6 H6 n6 s6 e6 => ⟨(by show 1 ≤ sizeLine; omega), fun a7 H7 n7 s7 e7 => ⟨(s6.trans s7) _ _ upd_same, [(.inr "a", .ref a7)], rfl, (by show 1 ≤ 15; decide), ?_⟩⟩⟩⟩⟩⟩
      have s8 : Same H4 (upd H7 p5 (.dK (mergeK [] [(.inr "a", .ref a7)]))) := dispS n5 (s6.trans s7)
      have e8 : upd H7 p5 (.dK (mergeK [] [(.inr "a", .ref a7)])) p5 = some (.dK [(.inr "a", .ref a7)]) := upd_same
      have ep : H7 p5 = some (.dK []) := (s6.trans s7) _ _ upd_same
      have e7' : upd H7 p5 (.dK (mergeK [] [(.inr "a", .ref a7)])) a7 = some (.tup [.ref a6]) := by
        rw [upd_ne (fun z => by rw [z, ep] at e7; cases e7)]
        exact e7
      have e6' : upd H7 p5 (.dK (mergeK [] [(.inr "a", .ref a7)])) a6 = some (.lst []) := by
        rw [upd_ne (fun z => by have := s7 _ _ e6; rw [z, ep] at this; cases this)]
        exact s7 _ _ e6
      generalize upd H7 p5 (.dK (mergeK [] [(.inr "a", .ref a7)])) = H8 at s8 e8 e7' e6' ⊢
      refine ⟨(by show 1 ≤ sizeLine; omega), fun a9 H9 n9 s9 e9 => ⟨(by show 1 ≤ sizeLine; omega), fun a10 H10 n10 s10 e10 => ⟨(by show 4 ≤ sizeLine; omega), fun l11 H11 n11 s11 e11 => ?_⟩⟩⟩
      have s811 := s9.trans (s10.trans s11)
      have s411 := s8.trans s811
      have s311 := s4.trans s411
      have s211 := s3.trans s311
      have s111 := s2.trans s211
      refine ⟨l, l11, _, _, rfl, rfl, (s1.trans s111) _ _ el, e11, by rw [xl]; show 16 + 4 ≤ sizeLine; omega, fun l12 H12 n12 s12 e12 => ?_⟩
      refine ⟨l12, _, rfl, s0.trans (s1.trans (s111.trans s12)), e12, (al.same (s1.trans (s111.trans s12))).app ?_, by rw [List.length_append, xl]; rfl⟩
      refine .cons (.tup_ (SqT.of ((s211.trans s12) _ _ e2)) (.cons (.lst_ ((s111.trans s12) _ _ e1)) .nil)) (.cons (.tup_ (SqT.of ((s411.trans s12) _ _ e4)) (.cons (.dct_ ((s311.trans s12) _ _ e3)) .nil)) (.cons (.dic_ ((s811.trans s12) _ _ e8) (es := [(.inr "a", .tup [.lst])]) (.cons ⟨rfl, .tup_ (SqT.of ((s811.trans s12) _ _ e7')) (.cons (.lst_ ((s811.trans s12) _ _ e6')) .nil)⟩ .nil) (dic1_ok rfl fun z h => by cases h; decide)) (.cons (.tup_ (SqT.of ((s11.trans s12) _ _ e10)) (.cons (.tup_ (SqT.of ((s10.trans (s11.trans s12)) _ _ e9)) (.cons (.str_ "a") .nil)) .nil)) .nil)))
    clear el al xl s0 l xs
    rintro σ' H0 ⟨l, xs, rfl, s0, el, al, xl⟩
    refine ⟨_, rfl, _, rfl, (by show 1 ≤ sizeLine; omega), fun a1 H1 n1 s1 e1 => ⟨(by show 2 ≤ sizeLine; omega), fun a2 H2 n2 s2 e2 => ⟨(by show 2 ≤ sizeLine; omega), fun a3 H3 n3 s3 e3 => fun p4 n4 => ⟨upd_same, [(.inr "now", .str "time")], rfl, by decide, ?_⟩⟩⟩⟩
    have s4 := dispS (kvs := mergeK [] [(.inr "now", .str "time")]) n4 (Same.refl _)
    have e4 : (upd (upd H3 p4 (.dK [])) p4 (.dK (mergeK [] [(.inr "now", .str "time")]))) p4 = some (.dK [(.inr "now", .str "time")]) := upd_same
    generalize (upd (upd H3 p4 (.dK [])) p4 (.dK (mergeK [] [(.inr "now", .str "time")]))) = H4 at s4 e4 ⊢
    refine fun p5 n5 => ⟨upd_same, [(.inl 1, .str "time")], rfl, by decide, ?_⟩
    have s5 := dispS (kvs := mergeK [] [(.inl 1, .str "time")]) n5 (Same.refl _)
    have e5 : (upd (upd H4 p5 (.dK [])) p5 (.dK (mergeK [] [(.inl 1, .str "time")]))) p5 = some (.dK [(.inl 1, .str "time")]) := upd_same
    generalize (upd (upd H4 p5 (.dK [])) p5 (.dK (mergeK [] [(.inl 1, .str "time")]))) = H5 at s5 e5 ⊢
    refine fun p6 n6 => ⟨upd_same, [(.inr "a", .non)], rfl, by decide, ?_⟩
    have s6 := dispS (kvs := mergeK [] [(.inr "a", .non)]) n6 (Same.refl _)
    have e6 : (upd (upd H5 p6 (.dK [])) p6 (.dK (mergeK [] [(.inr "a", .non)]))) p6 = some (.dK [(.inr "a", .non)]) := upd_same
    generalize (upd (upd H5 p6 (.dK [])) p6 (.dK (mergeK [] [(.inr "a", .non)]))) = H6 at s6 e6 ⊢
    refine ⟨(by show 7 ≤ sizeLine; omega), fun l7 H7 n7 s7 e7 => ?_⟩
    have s57 := s6.trans s7
    have s47 := s5.trans s57
    have s37 := s4.trans s47
    have s27 := s3.trans s37
    have s17 := s2.trans s27
    have s07 := s1.trans s17
    refine ⟨l, l7, _, _, rfl, rfl, s07 _ _ el, e7, by rw [xl]; show 20 + 7 ≤ sizeLine; omega, fun l8 H8 n8 s8 e8 => nil_ ?_⟩
    have s08 := s07.trans s8
    have facts : AllO K H8 (xs ++ [.ref a1, .ref a2, .ref a3, .str "now", .ref p4, .ref p5, .ref p6]) := by
      refine (al.same s08).app ?_
      refine .cons (.tup_ (SqT.of ((s17.trans s8) _ _ e1)) (.cons .non_ .nil)) (.cons (.tup_ (SqT.of ((s27.trans s8) _ _ e2)) (.cons (.str_ "b") (.cons (.str_ "a") .nil))) (.cons (.tup_ (SqT.of ((s37.trans s8) _ _ e3)) (.cons (.str_ "a") (.cons (.str_ "a") .nil))) (.cons (.str_ (by decide)) ?_)))
      refine .cons (.dic_ ((s47.trans s8) _ _ e4) (es := [(.inr "now", .str "time")]) (.cons ⟨rfl, .str_ _⟩ .nil) (dic1_ok (by decide) fun z h => by cases h; decide)) (.cons (.dic_ ((s57.trans s8) _ _ e5) (es := [(.inl 1, .str "time")]) (.cons ⟨rfl, .str_ _⟩ .nil) (dic1_ok (by decide) fun z h => by cases h)) (.cons (.dic_ ((s7.trans s8) _ _ e6) (es := [(.inr "a", .non)]) (.cons ⟨rfl, .non_⟩ .nil) (dic1_ok rfl fun z h => by cases h; decide)) .nil))
    have DH := D.same (s0.trans s07)
    refine ⟨di, l8, _, _, rfl, DH.same s8, by omega, .inl ⟨SqL.of e8, DH.nn n8⟩, by rw [List.length_append, xl]; show 0 < 20 + 7; omega, by rw [List.length_append, xl]; show 20 + 7 < 1000; omega, fun v H9 hv k9 D9 => ?_⟩
    obtain ⟨ds9, hds9⟩ := D9.lst
    exact k v H9 ((facts v hv).kept ((s0.trans s08) _ _ hds) hds9 k9) ((kept_of (s0.trans s08)).trans k9) D9
end
end TM
end

section
set_option maxHeartbeats 4000000
namespace TM
open PySem PySem.Spec PyProof.Rows L2 EW
abbrev NNKind : List Str := ["_law_dice_here", "_law_some", "_law_turn"]
theorem NKind : FnScope NNKind ["_law_dice_here"] (defScope sNKind) := ⟨rfl, rfl, rfl, by decide +kernel, rfl, by decide +kernel, by decide +kernel⟩
abbrev NNearS : List Str := ["_law_dice_here", "_law_found", "_law_turn", "_law_name"]
theorem NearS : FnScope NNearS ["_law_dice_here"] (defScope sNearS) := ⟨rfl, rfl, rfl, by decide +kernel, rfl, by decide +kernel, by decide +kernel⟩
def spNKind (K : W.Frag) : Sp := fun vs H Q _ => ∃ (di : Addr) (n : Int), vs = [.ref di] ∧ Dc H di n ∧ n + 200 ≤ 1000000 ∧ ∀ (v : V) (H' : Hp), Okv K H' v → EW.Kept di H H' → Dc H' di (n + 200) → (∃ d, Av K H' d v ∧ d.shr = true) → Q v H'
/-- an entry more, or in its place -/
def putE (es : Des) (k : Key) (d : Dv) : Des := if (es.any fun e => decide (e.1 = k)) = true then es.map (fun e => if e.1 = k then (e.1, d) else e) else es ++ [(k, d)]
theorem keys_any {K : W.Frag} {H : Hp} : ∀ {kvs : List (Key × V)} {es : Des} (k : Key), DEnt K H kvs es → (kvs.any fun kv => decide (kv.1 = k)) = (es.any fun e => decide (e.1 = k))
  | _, _, k, .nil => rfl
  | (k0, x0) :: kvs, (y, d0) :: es, k, .cons h t => by
    have e : k0 = y := h.1
    subst e
    rw [List.any_cons, List.any_cons, keys_any k t]
theorem dent_map {K : W.Frag} {H : Hp} {v : V} {d : Dv} (k : Key) (hv : Av K H d v) : ∀ {kvs : List (Key × V)} {es : Des}, DEnt K H kvs es → DEnt K H (kvs.map fun kv => if kv.1 = k then (kv.1, v) else kv) (es.map fun e => if e.1 = k then (e.1, d) else e)
  | _, _, .nil => .nil
  | (k0, x0) :: kvs, (y, d0) :: es, .cons h t => by
    have e : k0 = y := h.1
    subst e
    rw [List.map_cons, List.map_cons]
    refine .cons ?_ (dent_map k hv t)
    by_cases c : k0 = k
    · rw [if_pos c, if_pos c]
      exact ⟨rfl, hv⟩
    · rw [if_neg c, if_neg c]
      exact h
theorem dent_put {K : W.Frag} {H : Hp} {v : V} {d : Dv} {kvs : List (Key × V)} {es : Des} (k : Key) (hv : Av K H d v) (h : DEnt K H kvs es) : DEnt K H (putK kvs k v) (putE es k d) := by
  unfold putK putE
  rw [keys_any k h]
  by_cases c : (es.any fun e => decide (e.1 = k)) = true
  · rw [if_pos c, if_pos c]
    exact dent_map k hv h
  · rw [if_neg c, if_neg c]
    exact pr_append h (.cons ⟨rfl, hv⟩ .nil)
theorem put_keys (es : Des) (k : Key) (d : Dv) (nd : (es.map (·.1)).Nodup) : ((putE es k d).map (·.1)).Nodup := by
  unfold putE
  by_cases c : (es.any fun e => decide (e.1 = k)) = true
  · rw [if_pos c, List.map_map]
    have e : es.map ((fun x : Key × Dv => x.1) ∘ fun e => if e.1 = k then (e.1, d) else e) = es.map (·.1) := List.map_congr_left fun e _ => by
      show (if e.1 = k then (e.1, d) else e).1 = e.1
      split <;> rfl
    rw [e]
    exact nd
  · rw [if_neg c, List.map_append, List.nodup_append]
    refine ⟨nd, by simp, fun a ha b hb e => c ?_⟩
    obtain ⟨q, hq, rfl⟩ := List.mem_map.mp ha
    rw [List.any_eq_true]
    refine ⟨q, hq, decide_eq_true ?_⟩
    rw [e]
    exact List.mem_singleton.mp hb
theorem put_len (es : Des) (k : Key) (d : Dv) : (putE es k d).length ≤ es.length + 1 := by
  unfold putE
  split
  · rw [List.length_map]; omega
  · rw [List.length_append]; exact Nat.le_refl _
theorem put_mem {es : Des} {k : Key} {d : Dv} {p : Key × Dv → Prop} (h : ∀ e ∈ es, p e) (hk : p (k, d)) : ∀ e ∈ putE es k d, p e := by
  intro e he
  unfold putE at he
  split at he
  · obtain ⟨q, hq, rfl⟩ := List.mem_map.mp he
    by_cases c : q.1 = k
    · rw [if_pos c, c]
      exact hk
    · rw [if_neg c]
      exact h q hq
  · rcases List.mem_append.mp he with he | he
    · exact h e he
    · rw [List.mem_singleton.mp he]
      exact hk
/-- only a dict changes -/
theorem av_keptK {K : W.Frag} {H H' : Hp} {F : Addr} {k1 k2 : List (Key × V)} {d : Dv} {v : V} (h : Av K H d v) (hd : H F = some (.dK k1)) (hd' : H' F = some (.dK k2)) (k : EW.Kept F H H') : Av K H' d v :=
  Av.stay (fun b xs hb => SqT.keptO hb hd (fun ys z => by cases z) (fun b u z => by cases z) k)
    (fun b xs hb => ⟨xs, k _ _ (fun z => by rw [z, hd] at hb; cases hb) hb⟩)
    (fun b ks hb => by
      by_cases c : b = F
      · subst c
        exact ⟨k2, .inl hd'⟩
      · exact ⟨ks, hb.imp (fun w => k _ _ c w) fun ⟨o, w⟩ => ⟨o, k _ _ c w⟩⟩) _ _ h
theorem dent_keptK {K : W.Frag} {H H' : Hp} {F : Addr} {k1 k2 kvs : List (Key × V)} {es : Des} (h : DEnt K H kvs es) (hd : H F = some (.dK k1)) (hd' : H' F = some (.dK k2)) (k : EW.Kept F H H') : DEnt K H' kvs es := Paired.mono (fun _ _ q => ⟨q.1, av_keptK q.2 hd hd' k⟩) h
theorem dent_kept {K : W.Frag} {H H' : Hp} {di : Addr} {ds ds' : List V} {kvs : List (Key × V)} {es : Des} (h : DEnt K H kvs es) (hd : H di = some (.lst ds)) (hd' : H' di = some (.lst ds')) (k : EW.Kept di H H') : DEnt K H' kvs es := Paired.mono (fun _ _ q => ⟨q.1, q.2.kept hd hd' k⟩) h
theorem dent_keys {K : W.Frag} {H : Hp} : ∀ {kvs : List (Key × V)} {es : Des}, DEnt K H kvs es → kvs.map (·.1) = es.map (·.1)
  | _, _, .nil => rfl
  | (k0, x0) :: kvs, (y, d0) :: es, .cons h t => by
    have e : k0 = y := h.1
    rw [List.map_cons, List.map_cons, dent_keys t, e]
def spNShape (K : W.Frag) : Sp := fun vs H Q _ => ∃ (di : Addr) (n : Int), vs = [.ref di] ∧ Dc H di n ∧ n + 600 ≤ 1000000 ∧ ∀ (v : V) (H' : Hp), Okv K H' v → EW.Kept di H H' → Dc H' di (n + 600) → Q v H'
section
variable {P : Program} {w : World} {K : W.Frag} {mg : Str → Option Value} {base : Heap}
theorem ok_nkind {fd : FuncData} (F : FnP K "_law_near_kind" sNKind fd) (T : Fre mg) (D_law_word : Df P w K mg base 3 "_law_word" ["_law_dice_here"] spWord) (D_law_pick : Df P w K mg base 2 "_law_pick" ["_law_dice_here", "_law_items"] (spPick K)) :
    FnOk P w K mg base CX0 4 (He.ga K "_law_near_kind") fd ["_law_dice_here"] (spNKind K) := by
  refine F.ok NKind (fun vs H Q E h => ?_) (fun cdv A outer s H vs Q E hr h => ?_)
  · obtain ⟨di, n, rfl, _⟩ := h
    rfl
  · obtain ⟨di, n, rfl, D, hn, k⟩ := h
    have hbig : (1000 : Nat) ≤ sizeLine := by decide
    obtain ⟨ds, hds⟩ := D.lst
    refine ⟨_, PSs.nox (pss_cons (ps_cut (ps_setLc (i := 1) (own := [("_law_turn", 2)]) (g := gName 2) (tt := tYes) (by rfl) NKind.nd rfl rfl (sw_true rfl rfl rfl (by decide +kernel)) (pi_range1 rfl T.range (pa_cons (pe_df D_law_pick (hr.mono (by decide)) rfl (pa_cons (pv 0) (pa_cons (pe_lstS (pa_cons pe_int (pa_cons pe_int (pa_cons pe_int (pa_cons pe_int (pa_cons pe_int (pa_cons pe_int pa_nil))))))) pa_nil))) pa_nil)) (blkOk_by (own := [("_law_turn", 2)]) (N := NNKind) (sc := defScope sNKind) (by decide +kernel)) (fun _ _ _ _ _ => (pg_name (i := 2) NKind.nd rfl (Or.inl rfl))) (fun _ _ _ _ _ => pts_nil) (fun _ _ _ _ _ => (pe_df D_law_word (hr.mono (by decide)) rfl (pa_cons (pv 0) pa_nil)))))
      (pss_one (ps_ret (pe_df D_law_pick (hr.mono (by decide)) rfl (pa_cons (pv 0) (pa_cons (pe_lstS (pa_cons (pe_callTy (call_tupS K rfl) (by rfl) T.tuple EW.boot_tuple (pa_cons (pe_callB (EW.cr_sortedTx w rfl rfl) (by rfl) T.sorted EW.boot_sorted (pa_cons (pe_callTy (EW.cr_setTx K w rfl rfl rfl) (by rfl) T.set EW.boot_set (pa_cons (pv 1) pa_nil)) pa_nil)) pa_nil)) (pa_cons (pe_callTy (call_tupS K rfl) (by rfl) T.tuple EW.boot_tuple (pa_cons (pv 1) pa_nil)) (pa_cons (pv 1) (pa_cons pe_str pa_nil))))) pa_nil)))))), ?_⟩
    refine ⟨fun σ' H' => ∃ (ls : Addr) (zs : List Str), σ' = [some (.ref di), some (.ref ls), none] ∧ ls ≠ di ∧ H' ls = some (.lst (zs.map V.str)) ∧ (∀ z ∈ zs, z.length ≤ 9) ∧ zs.length ≤ 9 ∧ EW.Kept di H H' ∧ Dc H' di (n + 190), ?_, ?_⟩
    · refine ⟨_, rfl, (by show 6 ≤ sizeLine; omega), fun q2 H2 n2 s2 e2 => nil_ ⟨di, q2, _, _, rfl, D.same s2, by omega, .inl ⟨SqL.of e2, D.nn n2⟩, (by show 0 < 6; omega), (by show 6 < 1000; omega), fun v H3 hv k3 D3 => ?_⟩⟩
      obtain ⟨m, hm, rfl⟩ : ∃ m : Nat, m ≤ 9 ∧ v = .int (m : Int) := by
        simp only [List.mem_cons, List.not_mem_nil, or_false] at hv
        rcases hv with rfl | rfl | rfl | rfl | rfl | rfl
        · exact ⟨0, by omega, rfl⟩
        · exact ⟨1, by omega, rfl⟩
        · exact ⟨2, by omega, rfl⟩
        · exact ⟨3, by omega, rfl⟩
        · exact ⟨8, by omega, rfl⟩
        · exact ⟨9, by omega, rfl⟩
      have k03 := (kept_of (d := di) s2).trans k3
      refine nil_ ⟨_, rfl, by omega, by omega, fun L hL => ?_⟩
      have hLd : L ≠ di := D3.nn hL
      refine loop_rg (lo := 0) (n := m) (fun i H' => ∃ zs : List Str, H' L = some (.lst (zs.map V.str)) ∧ (∀ z ∈ zs, z.length ≤ 9) ∧ zs.length = i ∧ EW.Kept di H3 H' ∧ Dc H' di (n + 1 + 20 * (i : Int))) ⟨[], upd_same, (fun z h => nomatch h), rfl, kept_of (upd_new hL), (D3.same (upd_new hL)).mono (by omega)⟩ ?_ ?_
      · rintro i H4 hi ⟨zs, e4, hz, hl, k4, D4⟩
        refine ⟨rfl, ?_⟩
        refine ⟨_, rfl, nil_ ⟨di, _, rfl, D4, by omega, fun z H5 hz5 k5 D5 => ?_⟩⟩
        have e5 := k5 _ _ hLd e4
        refine ⟨_, e5, by rw [List.length_map]; omega, zs ++ [z], by rw [upd_same, List.map_append]; rfl, fun y hy => ?_, by rw [List.length_append, hl]; rfl, fun b o nb h => ?_, ?_⟩
        · rcases List.mem_append.mp hy with hy | hy
          · exact hz y hy
          · rw [List.mem_singleton.mp hy]
            exact hz5
        · rw [upd_ne (fun z => by rw [z, hL] at h; cases h)]
          exact k5 _ _ nb (k4 b o nb h)
        · refine Dc.mono (D5.keep ?_) (by omega)
          rw [upd_ne (Ne.symm hLd)]
      · rintro H4 ⟨zs, e4, hz, hl, k4, D4⟩
        exact ⟨L, zs, rfl, hLd, e4, hz, by omega, k03.trans k4, D4.mono (by omega)⟩
    rintro σ' H1 ⟨ls, zs, rfl, lsd, e1, hz, hl, k1, D1⟩
    have hsb : zs.length + 1 < scanBound := by
      have : (100 : Nat) < scanBound := by decide
      omega
    refine ⟨_, rfl, _, rfl, nil_ ⟨ls, zs, rfl, .inl (SqL.of e1), hsb, fun p2 c H2 n2 s2 e2 hc => nil_ ⟨p2, _, _, rfl, e2, fun ys hy nd so hm p3 H3 n3 s3 e3 => nil_ ⟨p3, _, rfl, SqL.of e3, fun p4 H4 n4 s4 e4 => ?_⟩⟩⟩⟩
    have s14 := s2.trans (s3.trans s4)
    refine ⟨_, rfl, nil_ ⟨ls, _, rfl, SqL.of (s14 _ _ e1), fun p5 H5 n5 s5 e5 => ⟨_, rfl, (by show 4 ≤ sizeLine; omega), fun q6 H6 n6 s6 e6 => nil_ ?_⟩⟩⟩
    have s16 := s14.trans (s5.trans s6)
    have hyz : ∀ y ∈ ys, y.length ≤ 9 := fun y h => hz y (by have := (hm y).mp h; simpa using this)
    have shr : ∀ {l : List Str}, (∀ y ∈ l, y.length ≤ 9) → (Dv.tup (l.map Dv.str)).shr = true := fun h => by
      show List.all _ _ = true
      rw [List.all_eq_true]
      intro d hd
      obtain ⟨z, hz, rfl⟩ := List.mem_map.mp hd
      exact decide_eq_true (Nat.le_trans (h z hz) (by decide))
    have facts : ∀ v ∈ [V.ref p4, .ref p5, .ref ls, .str "time"], ∃ d, Av K H6 d v ∧ d.isD = false ∧ d.shr = true ∧ d.sml = true := fun v hv => by
      simp only [List.mem_cons, List.not_mem_nil, or_false] at hv
      rcases hv with rfl | rfl | rfl | rfl
      · exact ⟨_, .tup_ (SqT.of ((s5.trans s6) _ _ e4)) (avl_strs ys), rfl, shr hyz, sml_strs ys⟩
      · exact ⟨_, .tup_ (SqT.of (s6 _ _ e5)) (avl_strs zs), rfl, shr hz, sml_strs zs⟩
      · exact ⟨_, .lst_ (s16 _ _ e1), rfl, rfl, rfl⟩
      · exact ⟨_, .str_ _, rfl, by decide, rfl⟩
    refine ⟨di, q6, _, _, rfl, D1.same s16, by omega, .inl ⟨SqL.of e6, (D1.same (s14.trans s5)).nn n6⟩, (by show 0 < 4; omega), (by show 4 < 1000; omega), fun v H7 hv k7 D7 => ?_⟩
    obtain ⟨ds7, hds7⟩ := D7.lst
    obtain ⟨ds6, hds6⟩ := (D1.same s16).lst
    obtain ⟨d, f1, f2, f3, f5⟩ := facts v hv
    have f4 := f1.kept hds6 hds7 k7
    exact k v H7 (.val f4 f2 f3 f5) (k1.trans ((kept_of s16).trans k7)) (D7.mono (by omega)) ⟨d, f4, f3⟩
theorem ok_nshape {fd : FuncData} (F : FnP K "_law_near_shape" sNearS fd) (T : Fre mg) (D_law_shape : Df P w K mg base 3 "_law_shape" ["_law_dice_here", "_law_most"] (spShapeL K)) (D_law_roll : Df P w K mg base 1 "_law_roll" ["_law_dice_here", "_law_many"] spRoll) (D_law_word : Df P w K mg base 3 "_law_word" ["_law_dice_here"] spWord)
    (D_law_near_kind : Df P w K mg base 4 "_law_near_kind" ["_law_dice_here"] (spNKind K)) (D_law_pick : Df P w K mg base 2 "_law_pick" ["_law_dice_here", "_law_items"] (spPick K)) : FnOk P w K mg base CX0 5 (He.ga K "_law_near_shape") fd ["_law_dice_here"] (spNShape K) := by
  refine F.ok NearS (fun vs H Q E h => ?_) (fun cdv A outer s H vs Q E hr h => ?_)
  · obtain ⟨di, n, rfl, _⟩ := h
    rfl
  · obtain ⟨di, n, rfl, D, hn, k⟩ := h
    have hbig : (1000 : Nat) ≤ sizeLine := by decide
    obtain ⟨ds, hds⟩ := D.lst
    refine ⟨_, PSs.nox (pss_cons (ps_cut (ps_set (i := 1) NearS.nd rfl (Or.inl rfl) (pe_callTy (call_dictP rfl) (by rfl) T.dict EW.boot_dict (pa_cons (LiI.pe_listItems rfl (pe_df D_law_shape (hr.mono (by decide)) rfl (pa_cons (pv 0) (pa_cons pe_int pa_nil))) (by rfl) T.list EW.boot_list) pa_nil))))
      (pss_cons (ps_cut (ps_for PassesOwn.never rfl (pi_range1 rfl T.range (pa_cons (pe_df D_law_roll (hr.mono (by decide)) rfl (pa_cons (pv 0) (pa_cons pe_int pa_nil))) pa_nil)) (pg_name (i := 2) NearS.nd rfl (Or.inl rfl)) (pss_cons (ps_set (i := 3) NearS.nd rfl (Or.inl rfl) (pe_df D_law_pick (hr.mono (by decide)) rfl (pa_cons (pv 0) (pa_cons (pe_lstS (pa_cons pe_str (pa_cons pe_str (pa_cons pe_str (pa_cons pe_str (pa_cons (pe_df D_law_word (hr.mono (by decide)) rfl (pa_cons (pv 0) pa_nil)) (pa_cons (pe_df D_law_word (hr.mono (by decide)) rfl (pa_cons (pv 0) pa_nil)) pa_nil))))))) pa_nil))))
      (pss_one (ps_dput hr.u1 (pv 1) (pv 3) (pe_df D_law_pick (hr.mono (by decide)) rfl (pa_cons (pv 0) (pa_cons (pe_lstS (pa_cons pe_str (pa_cons (pe_tupS (pa_cons pe_str pa_nil)) (pa_cons (pe_df D_law_near_kind (hr.mono (by decide)) rfl (pa_cons (pv 0) pa_nil)) (pa_cons (pe_tupS (pa_cons pe_str (pa_cons pe_str pa_nil))) pa_nil))))) pa_nil))) rfl)))))
      (pss_one (ps_ret (pv 1))))), ?_⟩
    refine ⟨fun σ' H' => ∃ (f : Addr) (kvs : List (Key × V)) (es : Des), σ' = [some (.ref di), some (.ref f), none, none] ∧ f ≠ di ∧ H f = none ∧ H' f = some (.dK kvs) ∧ DEnt K H' kvs es ∧ (es.map (·.1)).Nodup ∧ es.length ≤ 5 ∧ (∀ e ∈ es, e.2.shr = true ∧ ∀ z, e.1 = .inr z → z.length ≤ 60) ∧ EW.Kept di H H' ∧ Dc H' di (n + 20), ?_, ?_⟩
    · refine ⟨_, rfl, di, 2, n, rfl, D, by omega, by decide, by decide, fun p S H1 np hs dr ht k1 D1 => ?_⟩
      obtain ⟨d, kvs, e, hd, en⟩ := hs
      cases e
      refine ⟨_, kvs, rfl, hd, fun H2 l ts s2 nl nts nlt el pts => nil_ ⟨l, ts, kvs, rfl, SqL.of el, Paired.mono (fun _ _ q => SqT.of q) pts, fun f nf => ?_⟩⟩
      have S5 : S.length ≤ 5 := by
        have := dr.ok.tms
        have := dr.ok.few
        omega
      have ed := ent_des en
      have nd : (kvs.map (·.1)).Nodup := by
        rw [dent_keys ed]
        exact (des_ok dr.ok.w (by omega)).1
      have em : mergeK [] kvs = kvs := (mergeK_new _ [] (fun _ _ => rfl) nd).trans (List.nil_append _)
      rw [em]
      have s3 : Same H1 (upd H2 f (.dK kvs)) := same_upd s2 (free_of s2 nf)
      refine ⟨f, kvs, desOf S, rfl, (D1.same s2).nn nf, kfree_of k1 ((D1.same s2).nn nf) (free_of s2 nf), upd_same, DEnt.same ed s3, (des_ok dr.ok.w (by omega)).1, by unfold desOf; rw [List.length_map]; exact S5, (des_ok dr.ok.w (by omega)).2.2, k1.trans (kept_of s3), (D1.same s3).mono (by omega)⟩
    rintro σ' H1 ⟨f, kvs, es, rfl, fd', fn, ef, en, nd, l5, hsh, k1, D1⟩
    refine ⟨fun σ' H' => ∃ (f : Addr) (kvs : List (Key × V)) (es : Des) (u2 u3 : Option V), σ' = [some (.ref di), some (.ref f), u2, u3] ∧ f ≠ di ∧ H' f = some (.dK kvs) ∧ DEnt K H' kvs es ∧ (es.map (·.1)).Nodup ∧ es.length ≤ 8 ∧ (∀ e ∈ es, e.2.shr = true ∧ ∀ z, e.1 = .inr z → z.length ≤ 60) ∧ EW.Kept di H H' ∧ Dc H' di (n + 600), ?_, ?_⟩
    · refine ⟨_, rfl, di, 3, _, rfl, D1, by omega, by decide, by decide, fun r H2 r0 r1 k2 D2 => ?_⟩
      refine nil_ ⟨_, rfl, by omega, by omega, ?_⟩
      obtain ⟨m, rfl⟩ : ∃ m : Nat, r = (m : Int) := ⟨r.toNat, by omega⟩
      obtain ⟨ds1, hds1⟩ := D1.lst
      obtain ⟨ds2, hds2⟩ := D2.lst
      refine for_range (lo := 0) (n := m) (fun i σ' H' => ∃ (kvs : List (Key × V)) (es : Des) (u2 u3 : Option V), σ' = [some (.ref di), some (.ref f), u2, u3] ∧ H' f = some (.dK kvs) ∧ DEnt K H' kvs es ∧ (es.map (·.1)).Nodup ∧ es.length ≤ 5 + i ∧ (∀ e ∈ es, e.2.shr = true ∧ ∀ z, e.1 = .inr z → z.length ≤ 60) ∧ (∀ b o, b ≠ di → H b = some o → H' b = some o) ∧ Dc H' di (n + 21 + 250 * (i : Int))) ⟨kvs, es, none, none, rfl, k2 _ _ fd' ef, dent_kept en hds1 hds2 k2, nd, by omega, hsh, k1.trans k2, D2.mono (by omega)⟩ ?_ ?_
      · rintro i σ' H3 hi ⟨kvs, es, u2, u3, rfl, ef, en, nd, l5, hsh, k3, D3⟩
        refine ⟨_, rfl, _, rfl, di, _, rfl, D3, by omega, fun z1 H4 hz1 k4 D4 => ⟨_, rfl, nil_ ⟨di, _, rfl, D4, by omega, fun z2 H5 hz2 k5 D5 => ⟨(by show 6 ≤ sizeLine; omega), fun q6 H6 n6 s6 e6 => nil_ ?_⟩⟩⟩⟩
        refine ⟨di, q6, _, _, rfl, D5.same s6, by omega, .inl ⟨SqL.of e6, D5.nn n6⟩, (by show 0 < 6; omega), (by show 6 < 1000; omega), fun v7 H7 hv7 k7 D7 => ?_⟩
        obtain ⟨nm, hnm, rfl⟩ : ∃ nm : Str, nm.length ≤ 60 ∧ v7 = .str nm := by
          simp only [List.mem_cons, List.not_mem_nil, or_false] at hv7
          rcases hv7 with rfl | rfl | rfl | rfl | rfl | rfl
          · exact ⟨_, by decide, rfl⟩
          · exact ⟨_, by decide, rfl⟩
          · exact ⟨_, by decide, rfl⟩
          · exact ⟨_, by decide, rfl⟩
          · exact ⟨_, by omega, rfl⟩
          · exact ⟨_, by omega, rfl⟩
        have k37 := k4.trans (k5.trans ((kept_of (d := di) s6).trans k7))
        refine ⟨_, rfl, (by show 1 ≤ sizeLine; omega), fun a8 H8 n8 s8 e8 => ⟨_, rfl, nil_ ⟨di, _, rfl, D7.same s8, by omega, fun v9 H9 ok9 k9 D9 hv9 => ⟨(by show 2 ≤ sizeLine; omega), fun a10 H10 n10 s10 e10 => ⟨(by show 4 ≤ sizeLine; omega), fun q11 H11 n11 s11 e11 => nil_ ?_⟩⟩⟩⟩⟩
        have D11 := D9.same (s10.trans s11)
        refine ⟨di, q11, _, _, rfl, D11, by omega, .inl ⟨SqL.of e11, (D9.same s10).nn n11⟩, (by show 0 < 4; omega), (by show 4 < 1000; omega), fun v12 H12 hv12 k12 D12 => ?_⟩
        have a8d : a8 ≠ di := D7.nn n8
        have a10d : a10 ≠ di := D9.nn n10
        obtain ⟨ds9, hds9⟩ := D9.lst
        obtain ⟨ds11, hds11⟩ := D11.lst
        obtain ⟨ds12, hds12⟩ := D12.lst
        have e8' := k12 _ _ a8d ((s10.trans s11) _ _ (k9 _ _ a8d e8))
        have e10' := k12 _ _ a10d (s11 _ _ e10)
        obtain ⟨d12, hd12, sh12⟩ : ∃ d, Av K H12 d v12 ∧ d.shr = true := by
          simp only [List.mem_cons, List.not_mem_nil, or_false] at hv12
          rcases hv12 with rfl | rfl | rfl | rfl
          · exact ⟨_, .str_ _, by decide⟩
          · exact ⟨_, .tup_ (SqT.of e8') (.cons (.str_ "a") .nil), by decide⟩
          · obtain ⟨d, h1, h2⟩ := hv9
            exact ⟨d, (h1.same (s10.trans s11)).kept hds11 hds12 k12, h2⟩
          · exact ⟨_, .tup_ (SqT.of e10') (.cons (.str_ "p") (.cons (.str_ "q") .nil)), by decide⟩
        have k712 := (kept_of (d := di) s8).trans (k9.trans ((kept_of (d := di) (s10.trans s11)).trans k12))
        have k312 := k37.trans k712
        have ef12 := k312 _ _ fd' ef
        obtain ⟨ds3, hds3⟩ := D3.lst
        have en12 := dent_kept en hds3 hds12 k312
        have klen := Paired.length en12
        have kF : EW.Kept f H12 (upd H12 f (.dK (putK kvs (Sum.inr nm) v12))) := Kept.upd
        have efN : upd H12 f (.dK (putK kvs (Sum.inr nm) v12)) f = some (.dK (putK kvs (Sum.inr nm) v12)) := upd_same
        refine ⟨_, rfl, _, rfl, f, _, rfl, DPut.k (k := Sum.inr nm) ef12 (by omega), ?_⟩
        refine ⟨_, putE es (Sum.inr nm) d12, _, _, rfl, efN, dent_keptK (dent_put (Sum.inr nm) hd12 en12) ef12 efN kF, put_keys _ _ _ nd, ?_, put_mem hsh ⟨sh12, fun z e => by cases e; exact hnm⟩, ?_, ?_⟩
        · have := put_len es (Sum.inr nm) d12
          omega
        · intro b o nb e
          rw [upd_ne (fun z => by rw [z, fn] at e; cases e)]
          exact k312 _ _ nb (k3 b o nb e)
        · exact Dc.mono (D12.keep (by rw [upd_ne (Ne.symm fd')])) (by omega)
      · rintro σ' H3 ⟨kvs, es, u2, u3, rfl, ef, en, nd, l5, hsh, k3, D3⟩
        exact ⟨f, kvs, es, u2, u3, rfl, fd', ef, en, nd, by omega, hsh, k3, D3.mono (by omega)⟩
    rintro σ' H2 ⟨f, kvs, es, u2, u3, rfl, fd', ef, en, nd, l5, hsh, k2, D2⟩
    exact ⟨_, rfl, k _ _ (.dic_ ef en ⟨nd, by omega, hsh⟩) k2 D2⟩
end
end TM
end

section
set_option maxHeartbeats 4000000
/-! EwSliceA: t[a:b] of a tuple, the whole of it too. -/
namespace EW
open PySem PySem.Spec PyProof.Rows L2
theorem cut_all {xs : List V} {lo hi : Option Int} (h : HT.sIx xs.length 0 lo = 0 ∧ HT.sIx xs.length xs.length hi = xs.length) : cutV xs lo hi = xs := by
  unfold cutV
  rw [h.1, h.2, List.drop_zero, Nat.sub_zero, List.take_length]
theorem sl_tupAS {X : Cx} (K : W.Frag) (h : X.K = K) : SlR X (fun x lo hi H Q => ∃ a xs, x = .ref a ∧ SqT K H a xs ∧ ∀ q H', Same H H' → SqT K H' q (cutV xs lo hi) → Q (.ref q) H') := by
  subst h
  intro pins s σ H x v vl vu lo hi sl Q I rx hs pl pu h
  obtain ⟨a, xs, e, hS, q⟩ := h
  refine sl_tupA pins s σ H x v vl vu lo hi sl Q I rx hs pl pu ⟨a, xs, e, hS, fun w => q a H (Same.refl H) ?_, fun _ p hp => q p _ (sameN hp) (SqT.of upd_same)⟩
  rw [cut_all w]
  exact hS
end EW
end

section
set_option maxHeartbeats 2000000
/-! EwRevT: t[::-1], t a tuple. -/
namespace HT
open PySem PySem.Spec PyProof.Rows
section
variable {prog : Program} {w : World} {A : Around} {E : Value → Shared → Prop} {s : Shared}
theorem pick_rev (xs : Array Value) : ((List.range xs.size).filterMap fun (m : Nat) => xs[(((xs.size : Int) - 1) + (m : Int) * (-1)).toNat]?).toArray = xs.toList.reverse.toArray := by
  obtain ⟨l⟩ := xs
  rw [List.size_toArray]
  congr 1
  have e : ∀ (k : Nat), k ≤ l.length → ((List.range k).filterMap fun (m : Nat) => l.toArray[(((l.length : Int) - 1) + (m : Int) * (-1)).toNat]?) = (l.drop (l.length - k)).reverse := fun k => by
    induction k with
    | zero =>
      intro _
      rw [Nat.sub_zero, List.drop_length]
      rfl
    | succ k ih =>
      intro hk
      have lt : l.length - (k + 1) < l.length := by omega
      have e1 : (((l.length : Int) - 1) + (k : Int) * (-1)).toNat = l.length - (k + 1) := by omega
      rw [List.range_succ, List.filterMap_append, ih (by omega), List.drop_eq_getElem_cons lt, List.reverse_cons, show l.length - (k + 1) + 1 = l.length - k by omega]
      congr 1
      rw [List.filterMap_cons, e1, List.getElem?_toArray, List.getElem?_eq_getElem lt]
      rfl
  have := e l.length (Nat.le_refl _)
  rw [Nat.sub_self, List.drop_zero] at this
  exact this
theorem adjust_rev (n : Nat) : Builtin.Slice.sliceAdjust none none (-1) (n : Int) = ((n : Int) - 1, -1) := by
  unfold Builtin.Slice.sliceAdjust
  rfl
theorem places_rev (n : Nat) : Builtin.Slice.slicePlaces ((n : Int) - 1) (-1) (-1) = n := by
  unfold Builtin.Slice.slicePlaces
  rw [if_neg (by omega)]
  split
  · show ((((n : Int) - 1 - (-1) - 1) / (- -1)) + 1).toNat = n
    rw [show (- -1 : Int) = 1 from rfl, Int.ediv_one]
    omega
  · omega
theorem getItem_tuple_rev {t sl : Addr} {items : Array Value} {vl vu vs : Value} {Q : Value → Shared → Prop} (ht : IsTup s.heap t items) (hs : s.heap.IsSliceOf sl vl vu vs) (pl : IsPart vl none) (pu : IsPart vu none) (ps : IsPart vs (some (-1)))
    (h : Q (.ref s.heap.objs.size) { s with heap := s.heap.push { cls := .type "tuple", data := .seq items.toList.reverse.toArray } })
    (hsz : items.size ≤ sizeLine) : wpAny (model prog w) A (getItem (.ref t) (.ref sl)) Q E s := by
  have htake : sizeOk (.seq items.toList.reverse.toArray) := by
    show items.toList.reverse.toArray.size ≤ sizeLine
    rw [List.size_toArray, List.length_reverse, Array.length_toList]
    exact hsz
  obtain ⟨os, hos, hcs, hds⟩ := id hs
  have hTs : s.TypeIs (.ref sl) "slice" := ⟨os, hos, hcs⟩
  unfold getItem
  try with_reducible refine wpAny_holding ?_
  first | refine wpAny_bind (wpAny_pure ?_) | skip
  refine wpAny_bind (wpAny_sequenceKey ht.typeIs (by decide) ?_)
  refine wpAny_bind (wpAny_callSpecial?_slot (name := Str.ofString "__getitem__") ht.typeIs PyProof.Rows.slot_tuple_getitem
    (wpAny_call_entry PyProof.Rows.slot_tuple_getitem ht.typeIs entry_tuple_getitem ?_ (args_tuple_getitem _ _)))
  show wpAny _ _ (Builtin.Tuple.tupleItemsOf (.ref t) >>= _) _ _ s
  refine wpAny_bind (tupleItemsOf_ ht ?_)
  refine wpAny_bind (wpAny_typeOf hTs ?_)
  rw [if_pos (by decide)]
  refine wpAny_bind ?_
  · unfold Builtin.Slice.sliceApplied Builtin.Slice.sliceFields
    refine wpAny_bind (wpAny_bind (wpAny_field hos hds (x := vl) rfl (wpAny_bind (wpAny_field hos hds (x := vu) rfl (wpAny_bind (wpAny_field hos hds (x := vs) rfl (wpAny_pure ?_)))))))
    refine wpAny_bind (slicePart_ ps ?_)
    show wpAny _ _ (if ((-1 : Int) == 0) = true then _ else _) _ _ s
    rw [if_neg (by decide)]
    refine wpAny_bind (slicePart_ pl (wpAny_bind (slicePart_ pu (wpAny_bind (wpAny_pure ?_)))))
    show wpAny _ _ (match Builtin.Slice.sliceAdjust none none (-1) (items.size : Int) with | (lo, hi) => pure (lo, (-1 : Int), Builtin.Slice.slicePlaces lo hi (-1))) _ _ s
    rw [adjust_rev]
    show wpAny _ _ (pure ((items.size : Int) - 1, (-1 : Int), Builtin.Slice.slicePlaces ((items.size : Int) - 1) (-1) (-1))) _ _ s
    rw [places_rev]
    refine wpAny_pure ?_
    have hno : ¬ ((((items.size : Int) - 1) == 0 && (-1 : Int) == 1 && items.size == items.size) = true) := by
      intro q
      rw [Bool.and_eq_true, Bool.and_eq_true] at q
      exact absurd q.1.2 (by decide)
    show wpAny _ _ (if (((items.size : Int) - 1) == 0 && (-1 : Int) == 1 && items.size == items.size) = true then _ else _) _ _ s
    rw [if_neg hno, pick_rev]
    first
      | exact wpAny_bind (m := Builtin.Tuple.tupleExact _) (wpAny_newObj_type (wpAny_pure ⟨_, rfl, wpAny_pure h⟩) htake)
      | exact wpAny_bind (m := Builtin.Tuple.tupleExact _) (wpAny_newObj_type (wpAny_bind (wpAny_pure (wpAny_pure ⟨_, rfl, wpAny_pure h⟩))) htake)
      | exact wpAny_bind (wpAny_bind (m := Builtin.Tuple.tupleExact _) (wpAny_newObj_type (wpAny_pure (wpAny_pure ⟨_, rfl, wpAny_pure h⟩)) htake))
      | exact wpAny_bind (wpAny_bind (m := Builtin.Tuple.tupleExact _) (wpAny_newObj_type (wpAny_pure ⟨_, rfl, wpAny_pure h⟩) htake))
end
end HT
namespace EW
open PySem PySem.Spec PyProof.Rows L2
section
variable {X : Cx}
theorem pe_revT {e : Expr} {te : TE} {k : Nat} {p1 p2 p3 pos : Pos} (K : W.Frag) (hK : X.K = K) (he : PE X e te) : PE X (.Subscript e (.Slice none none (some (.UnaryOp .USub (.Constant (.int 1) k p1) p2)) p3) pos)
    (fun σ H Q => te σ H fun x H1 => ∃ a xs, x = .ref a ∧ SqT K H1 a xs ∧ New H1 (fun _ => .tup xs.reverse) Q) := by
  subst hK
  refine ⟨fun pins s σ H Q I h => ?_⟩
  refine Subscript_ (thn (he.run pins s σ H _ I h) fun v s1 ⟨x, H1, I1, r1, q1⟩ => ?_)
  obtain ⟨a, xs, ex, hx, q⟩ := q1
  subst ex
  cases r1
  have hst : PO X (some (.UnaryOp .USub (.Constant (.int 1) k p1) p2)) (tPart (tUn (rU fun i => .int (-i)) (tC (.int 1)))) := po_some (pe_un un_neg pe_int)
  refine wpAny_Slice (thn (po_none.run pins s1 σ H1 (fun o H2 => o = none ∧ H2 = H1) I1 ⟨rfl, rfl⟩) fun vl s2 ⟨l, H2, I2, pl, el, e2⟩ => ?_)
  subst el e2
  refine thn (po_none.run pins s2 σ H2 (fun o H3 => o = none ∧ H3 = H2) I2 ⟨rfl, rfl⟩) fun vu s3 ⟨u, H3, I3, pu, eu, e3⟩ => ?_
  subst eu e3
  refine thn (hst.run pins s3 σ H3 (fun o H4 => o = some (-1) ∧ H4 = H3) I3 ⟨1, rfl, -1, rfl, rfl, rfl⟩) fun vs s4 ⟨o, H4, I4, ps, eo, e4⟩ => ?_
  subst eo e4
  have I5 : Inv X pins σ H4 { s4 with heap := s4.heap.push { cls := .type "slice", data := .fields #[vl, vu, vs] } } := I4.kept (t' := s4.toks) fun b ob q => Heap.get?_push_of_some _ q
  obtain ⟨its, r, ht, hz⟩ := I5.tuple hx
  have hlen := r.length
  show wpAny (model X.prog X.w) X.A (subscriptTail e (.Slice none none (some (.UnaryOp .USub (.Constant (.int 1) k p1) p2)) p3) (.ref a) (.ref s4.heap.objs.size)) (EP X pins σ Q) X.xe { s4 with heap := s4.heap.push { cls := .type "slice", data := .fields #[vl, vu, vs] } }
  refine tail_any (ops := [.ref a, .ref s4.heap.objs.size]) ht.typeIs (PyProof.Rows.slot_tuple_getitem.lookup) ?_ (by with_unfolding_all rfl)
  refine HT.getItem_tuple_rev ht (Heap.IsSliceOf.new _ vl vu vs) pl pu ps ?_ (by rw [List.size_toArray]; omega)
  have hN := I5.hok.fresh (Nat.le_refl _)
  refine ⟨.ref _, _, I5.laid (t' := s4.toks) (o := .tup xs.reverse) (fun b ob q => Heap.get?_push_of_some _ q) (Nat.le_refl _) ?_, rfl, q.at hN⟩
  exact ⟨by rw [List.length_reverse]; exact hz, _, r.reverse, ⟨_, Heap.get?_push_size _ rfl, rfl, _, rfl⟩⟩
end
end EW
end

section
set_option maxHeartbeats 4000000
/-! EwRep01: t * 0, t * 1 (t not empty); sealed. -/
namespace EW
open PySem PySem.Spec PyProof.Rows L2
theorem tuple_mulS (l : Addr) (items : Array Value) (n : Nat) (dd : Option Addr) (sl : Array (Option Value)) (u : Tok) :
    Meets (Builtin.«tuple.__mul__» ⟨[.ref l, .int 1 u], []⟩) (fun _ R s => s.heap.get? l = some { cls := .type "tuple", dict := dd, data := .seq items n, slots := sl } ∧ R (.ok (.ret (Value.ref l))) s) :=
  .of_wp fun prog w A R s h => by
    obtain ⟨hp, g, d, tk, os⟩ := s
    obtain ⟨hl, h⟩ := h
    have f1 := AutoSeq1.idx_int
    wp_walk using wpAny_loadPart' hl
    repeat (first
      | (refine wpAny_ite_false (by decide) ?_; wp_walk using wpAny_loadPart' hl)
      | (refine wpAny_ite_true (by simp) ?_; wp_walk using wpAny_loadPart' hl))
    exact ⟨_, rfl, h⟩
theorem tuple_mul0 (l : Addr) (items : Array Value) (n : Nat) (dd : Option Addr) (sl : Array (Option Value)) (u : Tok) (ne : items.isEmpty = false) :
    Meets (Builtin.«tuple.__mul__» ⟨[.ref l, .int 0 u], []⟩) (fun _ R s => s.heap.get? l = some { cls := .type "tuple", dict := dd, data := .seq items n, slots := sl } ∧
      R (.ok (.ret (Value.ref s.heap.objs.size))) { s with heap := s.heap.push { cls := Value.type "tuple", data := Data.seq #[] }, toks := s.toks }) :=
  .of_wp fun prog w A R s h => by
    obtain ⟨hp, g, d, tk, os⟩ := s
    obtain ⟨hl, h⟩ := h
    have f1 := AutoSeq1.idx_int
    wp_walk using wpAny_loadPart' hl
    repeat (first
      | (refine wpAny_ite_false (by decide) ?_; wp_walk using wpAny_loadPart' hl)
      | (refine wpAny_ite_false (by rw [ne]; decide) ?_; wp_walk using wpAny_loadPart' hl)
      | (refine wpAny_ite_true (by simp) ?_; wp_walk using wpAny_loadPart' hl))
    exact ⟨_, rfl, h⟩
def rRep01 (K : PySem.W.Frag) : R2 := fun x y H Q => ∃ l k xs, x = .ref l ∧ y = .int k ∧ SqT K H l xs ∧ xs ≠ [] ∧ ((k = 1 ∧ Q (.ref l) H) ∨ (k = 0 ∧ New H (fun _ => .tup []) Q))
section
variable {X : Cx}
theorem op_rep01 (K : PySem.W.Frag) (hK : X.K = K) : OpR X (binaryOp .Mult) (rRep01 K) := by
  subst hK
  intro pins s σ H x y v u Q I rx ry h
  obtain ⟨l, k, xs, rfl, rfl, hT, hne, h⟩ := h
  cases rx
  obtain ⟨t, rfl⟩ := ry
  obtain ⟨its, r, ⟨⟨cls, dd, data, sl⟩, ho, hc, n, hd⟩, hs⟩ := I.tuple hT
  simp only at hc hd
  subst hc hd
  have hle : its.length = xs.length := r.length.symm
  have hi : its.toArray.isEmpty = false := by
    cases its with
    | nil => exact absurd (List.eq_nil_of_length_eq_zero hle.symm) hne
    | cons a b => rfl
  rcases h with ⟨rfl, q⟩ | ⟨rfl, q⟩
  · refine wpAny_binaryOp_repeat_ref (T := "tuple") (U := "int") (by decide) ⟨_, ho, rfl⟩ (fun s' => typeIs_int s' 1 t) noFill_tuple_mul F.fills_int_mul F.slot_int_rmul repeat_tuple F.slot_int_index.lookup
      (call_meets F.slot_int_rmul (typeIs_int s 1 t) F.entry_int_rmul (F.args_int_rmul_2 _ _) (int_rmul_tuple 1 t l its.toArray n dd sl)
        ⟨ho, rfl, ⟨_, ho, rfl⟩, call_meets F.slot_tuple_mul ⟨_, ho, rfl⟩ F.entry_tuple_mul (F.args_tuple_mul_2 _ _) (tuple_mulS l its.toArray n dd sl t) ⟨ho, ?_⟩⟩)
    exact ⟨.ref l, H, I, rfl, q⟩
  · refine wpAny_binaryOp_repeat_ref (T := "tuple") (U := "int") (by decide) ⟨_, ho, rfl⟩ (fun s' => typeIs_int s' 0 t) noFill_tuple_mul F.fills_int_mul F.slot_int_rmul repeat_tuple F.slot_int_index.lookup
      (call_meets F.slot_int_rmul (typeIs_int s 0 t) F.entry_int_rmul (F.args_int_rmul_2 _ _) (int_rmul_tuple 0 t l its.toArray n dd sl)
        ⟨ho, rfl, ⟨_, ho, rfl⟩, call_meets F.slot_tuple_mul ⟨_, ho, rfl⟩ F.entry_tuple_mul (F.args_tuple_mul_2 _ _) (tuple_mul0 l its.toArray n dd sl t hi) ⟨ho, ?_⟩⟩)
    refine ⟨.ref s.heap.objs.size, _, I.laid (t' := s.toks) (o := .tup []) (fun b ob q => Heap.get?_push_of_some _ q) (Nat.le_refl _) ?_, rfl, q.at (I.hok.fresh (Nat.le_refl _))⟩
    exact ⟨by show 0 ≤ sizeLine; decide, [], .nil, IsTup.new _ _⟩
/-- t + u, sealed -/
def rCatAS (K : PySem.W.Frag) : R2 := fun x y H Q => ∃ a b xs ys, x = .ref a ∧ y = .ref b ∧ SqT K H a xs ∧ SqT K H b ys ∧ xs.length + ys.length ≤ sizeLine ∧ ∀ (q : Addr) (H' : Hp), Same H H' → SqT K H' q (xs ++ ys) → Q (.ref q) H'
theorem op_catAS (K : PySem.W.Frag) (hK : X.K = K) : OpR X (binaryOp .Add) (rCatAS K) := by
  subst hK
  intro pins s σ H x y v u Q I rx ry h
  obtain ⟨a, b, xs, ys, rfl, rfl, ha, hb, hz, k⟩ := h
  refine op_catA pins s σ H _ _ v u Q I rx ry ⟨a, b, xs, ys, rfl, rfl, ha, hb, hz, fun e => ?_, fun _ e => ?_, fun _ _ p hp => ?_⟩
  · subst e
    exact k b H (Same.refl _) hb
  · subst e
    exact k a H (Same.refl _) (by rw [List.append_nil]; exact ha)
  · exact k p _ (fun b o e => by rw [upd_ne (ne_of_none e hp)]; exact e) (SqT.of upd_same)
end
end EW
end

section
set_option maxHeartbeats 4000000
namespace TM
open PySem PySem.Spec PyProof.Rows L2 EW
abbrev NRow : List Str := ["_law_dice_here", "_law_shape_here", "_law_found", "_law_name", "_law_column"]
theorem Row : FnScope NRow ["_law_dice_here", "_law_shape_here"] (defScope sRow) := ⟨rfl, rfl, rfl, by decide +kernel, rfl, by decide +kernel, by decide +kernel⟩
abbrev NBent : List Str := ["_law_dice_here", "_law_row_here", "_law_found", "_law_at", "_law_odd_here"]
theorem Bent : FnScope NBent ["_law_dice_here", "_law_row_here"] (defScope sBent) := ⟨rfl, rfl, rfl, by decide +kernel, rfl, by decide +kernel, by decide +kernel⟩
def Sv (K : W.Frag) (H : Hp) (x : V) : Prop := ∃ d : Dv, Av K H d x ∧ d.sml = true
theorem sv1 {K : W.Frag} {H : Hp} {d : Dv} {x : V} (h : Av K H d x) (hs : d.sml = true := by rfl) : Sv K H x := ⟨d, h, hs⟩
theorem all_sml {l : List Dv} (h : l.all Dv.sml = true) : (Dv.tup l).sml = true := by
  show List.all _ _ = true
  rw [List.all_eq_true] at h ⊢
  exact fun d hd => Dv.sml.one (h d hd)
def AllA (K : W.Frag) (H : Hp) (xs : List V) : Prop := ∀ x ∈ xs, Sv K H x
section
variable {K : W.Frag} {H H' : Hp} {xs ys : List V}
theorem AllA.same (h : AllA K H xs) (s : Same H H') : AllA K H' xs := fun x hx => let ⟨d, q, r⟩ := h x hx; ⟨d, q.same s, r⟩
theorem AllA.kept {di : Addr} {ds ds' : List V} (h : AllA K H xs) (hd : H di = some (.lst ds)) (hd' : H' di = some (.lst ds')) (k : EW.Kept di H H') : AllA K H' xs := fun x hx => let ⟨d, q, r⟩ := h x hx; ⟨d, q.kept hd hd' k, r⟩
theorem AllA.app (h : AllA K H xs) (t : AllA K H ys) : AllA K H (xs ++ ys) := fun x hx => (List.mem_append.mp hx).elim (h x) (t x)
theorem AllA.nil : AllA K H [] := fun x hx => by cases hx
theorem AllA.cons {x : V} (h : Sv K H x) (t : AllA K H xs) : AllA K H (x :: xs) := fun y hy => (List.mem_cons.mp hy).elim (fun e => e ▸ h) (t y)
theorem AllA.avL : ∀ {xs : List V}, AllA K H xs → ∃ l, AvL K H l xs ∧ l.all Dv.sm1 = true
  | [], _ => ⟨[], .nil, rfl⟩
  | x :: xs, h => by
    obtain ⟨d, hd, hm⟩ := h x List.mem_cons_self
    obtain ⟨l, hl, hlm⟩ := AllA.avL (xs := xs) fun y hy => h y (List.mem_cons_of_mem _ hy)
    exact ⟨d :: l, .cons hd hl, by rw [List.all_cons, hlm, Dv.sml.one hm]; rfl⟩
/-- a tuple of such values is one -/
theorem AllA.tup {a : Addr} (h : AllA K H xs) (t : SqT K H a xs) : Sv K H (.ref a) := let ⟨l, q, r⟩ := h.avL; ⟨.tup l, .tup_ t q, r⟩
theorem AllA.take (h : AllA K H xs) (i : Nat) : AllA K H (xs.take i) := fun x hx => h x (List.mem_of_mem_take hx)
theorem AllA.drop (h : AllA K H xs) (i : Nat) : AllA K H (xs.drop i) := fun x hx => h x (List.mem_of_mem_drop hx)
end
/-- one more item -/
theorem oneMore {K : W.Frag} {H2 H3 H4 : Hp} {fl : Addr} {ys : List V} {x : V} (k3 : EW.Kept fl H2 H3) (e3 : H3 fl = some (.lst ys)) (a3 : AllA K H3 ys) (s4 : Same H3 H4) (hx : Sv K H4 x) :
    EW.Kept fl H2 (upd H4 fl (.lst (ys ++ [x]))) ∧ AllA K (upd H4 fl (.lst (ys ++ [x]))) (ys ++ [x]) := by
  have q : EW.Kept fl H4 (upd H4 fl (.lst (ys ++ [x]))) := Kept.upd
  refine ⟨k3.trans ((kept_of s4).trans q), ((a3.same s4).kept (s4 _ _ e3) upd_same q).app fun y hy => ?_⟩
  rw [List.mem_singleton.mp hy]
  obtain ⟨d, hd, hm⟩ := hx
  exact ⟨d, hd.kept (s4 _ _ e3) upd_same q, hm⟩
theorem cut_mem {xs : List V} {lo hi : Option Int} {x : V} (h : x ∈ cutV xs lo hi) : x ∈ xs := by
  unfold cutV at h
  exact List.mem_of_mem_drop (List.mem_of_mem_take h)
/-- a drawn row -/
def RowD (K : W.Frag) (H : Hp) (S : Shp) (r : Addr) (l : List Dv) : Prop := Av K H (.tup l) (.ref r) ∧ rowA S (.tup l) = true ∧ l.all Dv.sml = true
def spRow (K : W.Frag) : Sp := fun vs H Q _ => ∃ (di : Addr) (u : V) (S : Shp) (n : Int), vs = [.ref di, u] ∧ Dc H di n ∧ n + 10 ≤ 1000000 ∧ ShpAt K H u S ∧ ShpOk S ∧
  ∀ (r : Addr) (l : List Dv) (H' : Hp), EW.Kept di H H' → Dc H' di (n + 10) → RowD K H' S r l → Q (.ref r) H'
def spBent (K : W.Frag) : Sp := fun vs H Q _ => ∃ (di r : Addr) (l : List Dv) (n : Int), vs = [.ref di, .ref r] ∧ Dc H di n ∧ n + 10 ≤ 1000000 ∧ Av K H (.tup l) (.ref r) ∧ l.all Dv.sml = true ∧ l.length ≤ 5 ∧
  ∀ (fl : Addr) (xs : List V) (H' : Hp), EW.Kept di H H' → Dc H' di (n + 10) → fl ≠ di → H' fl = some (.lst xs) → AllA K H' xs → xs.length ≤ 12 → Q (.ref fl) H'
section
variable {P : Program} {w : World} {K : W.Frag} {mg : Str → Option Value} {base : Heap}
theorem ok_row {fd : FuncData} (F : FnP K "_law_row" sRow fd) (T : Fre mg) (D_law_near : Df P w K mg base 2 "_law_near" ["_law_dice_here", "_law_far"] spNear) (D_law_pick : Df P w K mg base 2 "_law_pick" ["_law_dice_here", "_law_items"] (spPick K)) :
    FnOk P w K mg base CX0 3 (He.ga K "_law_row") fd ["_law_dice_here", "_law_shape_here"] (spRow K) := by
  refine F.ok Row (fun vs H Q E h => ?_) (fun cdv A outer s H vs Q E hr h => ?_)
  · obtain ⟨di, u, S, n, rfl, _⟩ := h
    rfl
  · obtain ⟨di, u, S, n, rfl, D, hn, hu, so, k⟩ := h
    have hbig : (1000 : Nat) ≤ sizeLine := by decide
    have S5 : S.length ≤ 5 := by
      have := so.tms
      have := so.few
      omega
    have nl : (Zr.names S).length = S.length := names_len S
    obtain ⟨ds, hds⟩ := D.lst
    refine ⟨_, PSs.nox (pss_cons (ps_cut (ps_set (i := 2) Row.nd rfl (Or.inl rfl) (pe_lstS pa_nil)))
      (pss_cons (ps_cut (ps_for PassesOwn.never rfl (pi_listK (K := K) rfl (pe_callB (cr_sortedS (X := _)) (by rfl) T.sorted EW.boot_sorted (pa_cons (pe_lock (pe_lc (own := [("_law_column", 4)]) (g := gName 4) (tt := tYes) (by rfl) Row.nd (pi_keys (pv 1)) (blkOk_by (own := [("_law_column", 4)]) (N := NRow) (sc := defScope sRow) (by decide +kernel)) (fun _ _ _ _ _ => (pg_name (i := 4) Row.nd rfl (Or.inl rfl))) (fun _ _ _ _ _ => pts_nil) (fun _ _ _ _ _ => (pe_callTy SkE.call_str_str (by rfl) T.str EW.boot_str (pa_cons (pv 4) pa_nil))))) pa_nil))) (pg_name (i := 3) Row.nd rfl (Or.inl rfl)) (pss_one (ps_expr (pe_bm PySem.F.plainAttrs_list PySem.F.slot_list_append PySem.F.type_list_append mt_append (pv 2) (pa_cons (pe_ifExp (pt_cmpR (op_eqDK K rfl hr.units) (pe_dget hr.u1 (pv 1) (pv 3) (fun _ _ => rfl)) pe_str (nomark _)) (pe_df D_law_near (hr.mono (by decide)) rfl (pa_cons (pv 0) (pa_cons pe_int pa_nil))) (pe_df D_law_pick (hr.mono (by decide)) rfl (pa_cons (pv 0) (pa_cons (pe_dget hr.u1 (pv 1) (pv 3) (fun _ _ => rfl)) pa_nil)))) pa_nil))))))
      (pss_one (ps_ret (pe_callTy (call_tupS K rfl) (by rfl) T.tuple EW.boot_tuple (pa_cons (pv 2) pa_nil)))))), ?_⟩
    refine ⟨fun σ' H' => ∃ fl : Addr, σ' = [some (.ref di), some u, some (.ref fl), none, none] ∧ H fl = none ∧ Same H H' ∧ H' fl = some (.lst []), ?_, ?_⟩
    · exact ⟨(by show 0 ≤ sizeLine; omega), fun fl H1 n1 s1 e1 => ⟨fl, rfl, n1, s1, e1⟩⟩
    rintro σ' H1 ⟨fl, rfl, nfl, s1, e1⟩
    have fd' : fl ≠ di := D.nn nfl
    have D1 := D.same s1
    have hu1 := hu.same s1
    obtain ⟨d, kvs, rfl, hd, en⟩ := id hu1
    have hlen := Paired.length en
    refine ⟨fun σ' H' => ∃ (u3 u4 : Option V) (l : List Dv) (xs : List V), σ' = [some (.ref di), some (.ref d), some (.ref fl), u3, u4] ∧ EW.Kept di H H' ∧ Dc H' di (n + 10) ∧ H' fl = some (.lst xs) ∧ AvL K H' l xs ∧ l.length = S.length ∧ (((Zr.names S).zip l).all fun q => valA (kindOf S q.1) q.2) = true ∧ l.all Dv.sml = true, ?_, ?_⟩
    · refine ⟨d, _, hd, True.intro, fun od => ?_⟩
      refine ⟨_, rfl, d, od, rfl, .inl ⟨kvs, upd_same, fun D' hD => ?_⟩⟩
      have en2 := en.lock (o := od) hd
      refine loop_keys (fun i H' => H' D' = some (.lst (((S.take i).map (·.1)).map V.str)) ∧ Same (upd H1 d (.frz od (.dK kvs))) H') ⟨upd_same, upd_new hD⟩ ?_ ?_ ?_
      · rintro i H' _ ⟨_, s2⟩
        exact s2 _ _ upd_same
      · rintro i kk v H2 hkv ⟨eD, s2⟩
        obtain ⟨z, kd, hz, rfl, _⟩ := ent_at en2 hkv
        have hi : i < S.length := (List.getElem?_eq_some_iff.mp hz).1
        refine ⟨rfl, ?_⟩
        refine ⟨_, rfl, _, rfl, ?_⟩
        refine ⟨_, eD, by rw [List.length_map, List.length_map, List.length_take]; omega, ?_, same_upd s2 hD⟩
        rw [upd_same, List.take_add_one, hz, List.map_append, List.map_append]
        rfl
      · rintro H2 ⟨eD, s2⟩
        refine ⟨s2 _ _ upd_same, ?_⟩
        have nD : D' ≠ d := fun z => by
          rw [z, upd_same] at hD
          cases hD
        rw [hlen, List.take_length] at eD
        have s3 := same_lock hd s2
        refine ⟨D', _, rfl, SqL.of (by rw [upd_ne nD]; exact eD), by rw [List.length_map]; omega, fun ys p pe so' hp => ?_⟩
        have ey : ys = Zr.names S := srt_eq pe so'
        have s4 : Same H1 (upd (upd H2 d (.dK kvs)) p (.lst (ys.map V.str))) := same_upd s3 (by
          cases q : H1 p with
          | none => rfl
          | some o =>
            rw [s3 _ _ q] at hp
            cases hp)
        have np1 : H1 p = none := by
          cases q : H1 p with
          | none => rfl
          | some o =>
            rw [s3 _ _ q] at hp
            cases hp
        have pd : p ≠ di := D1.nn np1
        have pf : p ≠ fl := fun z => by rw [z, e1] at np1; cases np1
        generalize hH : upd (upd H2 d (.dK kvs)) p (.lst (ys.map V.str)) = H3 at s4 ⊢
        have ep : H3 p = some (.lst ((Zr.names S).map V.str)) := by
          rw [← hH, upd_same, ey]
        refine ⟨p, rfl, ⟨_, SqL.of ep⟩, ?_⟩
        refine for_list (xs := (Zr.names S).map V.str) (fun i σ' H' => ∃ (u3 u4 : Option V) (l : List Dv) (xs : List V), σ' = [some (.ref di), some (.ref d), some (.ref fl), u3, u4] ∧ (∀ b o, b ≠ di → H b = some o → H' b = some o) ∧ Dc H' di (n + 2 * (i : Int)) ∧ H' p = some (.lst ((Zr.names S).map V.str)) ∧ H' fl = some (.lst xs) ∧ AvL K H' l xs ∧ l.length = i ∧ ((((Zr.names S).zip l).take i).all fun q => valA (kindOf S q.1) q.2) = true ∧ l.all Dv.sml = true) ⟨none, none, [], [], rfl, kept_of (s1.trans s4), (D1.same s4).mono (by omega), ep, s4 _ _ e1, .nil, rfl, rfl, rfl⟩ ?_ ?_ ?_
        · rintro i σ' H4 _ ⟨_, _, _, _, _, _, _, e4, _⟩
          exact SqL.of e4
        · rintro i xn σ' H4 hn' ⟨u3, u4, l, xs, rfl, k4, D4, e4, f4, hl, ll, ha, hsm⟩
          rw [List.getElem?_map] at hn'
          obtain ⟨nm, hnm, rfl⟩ := Option.map_eq_some_iff.mp hn'
          have hi : i < (Zr.names S).length := (List.getElem?_eq_some_iff.mp hnm).1
          obtain ⟨kd, hm⟩ := names_mem (List.mem_of_getElem? hnm)
          obtain ⟨d', kvs', e', hd', en'⟩ := hu.kept hds k4
          cases e'
          obtain ⟨x, hx', kx⟩ := ent_val en' so.nd hm
          have ek := kindOf_eq so.nd hm
          have hxl := hl.len
          -- one more value
          have fin : ∀ (v : V) (dd : Dv) (H5 : Hp), EW.Kept di H4 H5 → Dc H5 di (n + 2 * (i : Int) + 1) → Av K H5 dd v → valA kd dd = true → dd.sml = true → ∃ ys : List V, H5 fl = some (.lst ys) ∧ ys.length < sizeLine ∧ ∃ (w3 w4 : Option V) (l : List Dv) (xs : List V), [some (V.ref di), some (V.ref d), some (V.ref fl), some (V.str nm), u4] = [some (.ref di), some (.ref d), some (.ref fl), w3, w4] ∧ (∀ b o, b ≠ di → H b = some o → upd H5 fl (.lst (ys ++ [v])) b = some o) ∧ Dc (upd H5 fl (.lst (ys ++ [v]))) di (n + 2 * ((i + 1 : Nat) : Int)) ∧ upd H5 fl (.lst (ys ++ [v])) p = some (.lst ((Zr.names S).map V.str)) ∧ upd H5 fl (.lst (ys ++ [v])) fl = some (.lst xs) ∧ AvL K (upd H5 fl (.lst (ys ++ [v]))) l xs ∧ l.length = i + 1 ∧ ((((Zr.names S).zip l).take (i + 1)).all fun q => valA (kindOf S q.1) q.2) = true ∧ l.all Dv.sml = true := fun v dd H5 k5 D5 hv hval hds => by
            have f5 := k5 _ _ fd' f4
            obtain ⟨ds4, hds4⟩ := D4.lst
            obtain ⟨ds5, hds5⟩ := D5.lst
            have q5 : EW.Kept fl H5 (upd H5 fl (.lst (xs ++ [v]))) := Kept.upd
            refine ⟨xs, f5, by omega, _, u4, l ++ [dd], xs ++ [v], rfl, fun b o nb e => ?_, Dc.mono (D5.keep (by rw [upd_ne (Ne.symm fd')])) (by omega), ?_, upd_same, ?_, by rw [List.length_append, ll]; rfl, ?_, by rw [List.all_append, hsm, List.all_cons, hds]; rfl⟩
            · rw [upd_ne (fun z => by rw [z, nfl] at e; cases e)]
              exact k5 _ _ nb (k4 b o nb e)
            · rw [upd_ne pf]
              exact k5 _ _ pd e4
            · exact (AvL.app (hl.kept hds4 hds5 k5) (.cons hv .nil)).kept f5 upd_same q5
            · have hz := zip_at hnm (show (l ++ [dd])[i]? = some dd by rw [List.getElem?_append_right (by omega), ll, Nat.sub_self]; rfl)
              rw [all_take hz, ek, hval, Bool.and_true]
              have e5 : ((Zr.names S).zip (l ++ [dd])).take i = ((Zr.names S).zip l).take i := by
                rw [List.zip_eq_zipWith, List.zip_eq_zipWith, List.take_zipWith, List.take_zipWith, List.take_append_of_le_length (by omega)]
              rw [e5]
              exact ha
          refine ⟨_, rfl, .inl ⟨rfl, _, SqL.of f4⟩, ?_⟩
          refine ⟨_, rfl, _, rfl, d, x, rfl, .inl ⟨kvs', Sum.inr nm, .inl hd', rfl, hx'.symm⟩, ?_⟩
          refine ⟨kdD kd, .str "time", kd_dp kx, .str _, kd_shaped kd (so.dom _ hm), by decide +kernel, _, rfl, ?_⟩
          rw [kd_eqv]
          cases kd with
          | time =>
            refine iteD rfl ⟨_, rfl, di, 9, _, rfl, D4, by omega, by decide, by decide, fun t H5 t0 t9 k5 D5 => nil_ ?_⟩
            obtain ⟨ys, b1, b2, b3⟩ := fin (.int t) (.int t) H5 k5 D5 (.int_ t) rfl (decide_eq_true (by omega))
            exact ⟨fl, ys, _, rfl, rfl, b1, b2, b3⟩
          | dom m =>
            obtain ⟨xa, rfl, hX⟩ := id kx
            have dok := so.dom _ hm m rfl
            have dp := dok.pos
            have df := dok.few
            refine iteN rfl ⟨_, rfl, _, rfl, _, rfl, d, _, rfl, .inl ⟨kvs', Sum.inr nm, .inl hd', rfl, hx'.symm⟩, di, xa, _, _, rfl, D4, by omega, .inr hX, by rw [List.length_map]; omega, by rw [List.length_map]; omega, fun v5 H5 hv5 k5 D5 => nil_ ?_⟩
            obtain ⟨z, hz, rfl⟩ := List.mem_map.mp hv5
            obtain ⟨ys, b1, b2, b3⟩ := fin (.str z) (.str z) H5 k5 D5 (.str_ z) (decide_eq_true hz) rfl
            exact ⟨fl, ys, _, rfl, rfl, b1, b2, b3⟩
        · rintro σ' H4 ⟨u3, u4, l, xs, rfl, k4, D4, e4, f4, hl, ll, ha, hsm⟩
          rw [List.length_map, nl] at ll ha
          rw [List.length_map, nl] at D4
          refine ⟨u3, u4, l, xs, rfl, k4, D4.mono (by omega), f4, hl, ll, ?_, hsm⟩
          rw [List.take_of_length_le (by rw [List.length_zip, nl, ll]; omega)] at ha
          exact ha
    rintro σ' H2 ⟨u3, u4, l, xs, rfl, k2, D2, e2, hl, ll, ha, hsm⟩
    refine ⟨_, rfl, nil_ ⟨fl, _, rfl, SqL.of e2, fun q3 H3 n3 s3 e3 => ?_⟩⟩
    refine k q3 l H3 (k2.trans (kept_of s3)) (D2.same s3) ⟨.tup_ (SqT.of e3) (hl.same s3), ?_, hsm⟩
    show valsA S (Zr.names S) l = true
    unfold valsA
    rw [decide_eq_true (by rw [ll, nl]), Bool.true_and]
    exact ha
theorem ok_bent {fd : FuncData} (F : FnP K "_law_bent" sBent fd) (T : Fre mg) (D_law_pick : Df P w K mg base 2 "_law_pick" ["_law_dice_here", "_law_items"] (spPick K)) : FnOk P w K mg base CX0 3 (He.ga K "_law_bent") fd ["_law_dice_here", "_law_row_here"] (spBent K) := by
  refine F.ok Bent (fun vs H Q E h => ?_) (fun cdv A outer s H vs Q E hr h => ?_)
  · obtain ⟨di, r, l, n, rfl, _⟩ := h
    rfl
  · obtain ⟨di, r, l, n, rfl, D, hn, hv, hlm, l5, k⟩ := h
    have hbig : (1000 : Nat) ≤ sizeLine := by decide
    obtain ⟨ds, hds⟩ := D.lst
    obtain ⟨a, xs, e, hS, hl⟩ := hv.tup_inv
    cases e
    have hxl := hl.len
    have A0 : AllA K H xs := fun x hx => by
      obtain ⟨i, hi⟩ := List.mem_iff_getElem?.mp hx
      obtain ⟨d, hdl, hd⟩ := hl.get hi
      exact ⟨d, hd, List.all_eq_true.mp hlm d (List.mem_of_getElem? hdl)⟩
    refine ⟨_, PSs.nox (pss_cons (ps_cut (ps_set (i := 2) Bent.nd rfl (Or.inl rfl) (pe_lstS (pa_cons (pe_callTy (call_listS K rfl) (by rfl) T.list EW.boot_list (pa_cons (pv 1) pa_nil)) (pa_cons (EW.pe_revT K rfl (pv 1)) (pa_cons (pe_op (EW.op_catAS K rfl) (pv 1) (pe_tupS (pa_cons pe_int pa_nil))) (pa_cons (pe_slice (EW.sl_tupAS K rfl) (pv 1) (po_some pe_int) po_none) (pa_cons pe_non (pa_cons (pe_op (EW.op_catAS K rfl) (pv 1) (pe_tupS (pa_cons pe_str pa_nil))) (pa_cons (pe_tupS (pa_cons (pv 1) pa_nil)) pa_nil))))))))))
      (pss_cons (ps_cut (ps_for PassesOwn.never rfl (pi_range1 rfl T.range (pa_cons (pe_callB (call_lenK K rfl) (by rfl) T.len PySem.boot_len (pa_cons (pv 1) pa_nil)) pa_nil)) (pg_name (i := 3) Bent.nd rfl (Or.inl rfl)) (pss_cons (ps_set (i := 4) Bent.nd rfl (Or.inl rfl) (pe_df D_law_pick (hr.mono (by decide)) rfl (pa_cons (pv 0) (pa_cons (pe_lstS (pa_cons pe_non (pa_cons pe_bl (pa_cons pe_str (pa_cons pe_int (pa_cons pe_str (pa_cons (pe_tupS (pa_cons pe_int pa_nil)) (pa_cons pe_str (pa_cons (pe_un un_neg pe_int) (pa_cons (pe_op op_powW pe_int pe_int) pa_nil)))))))))) pa_nil))))
      (pss_one (ps_expr (pe_bm PySem.F.plainAttrs_list PySem.F.slot_list_append PySem.F.type_list_append mt_append (pv 2) (pa_cons (pe_op (EW.op_catAS K rfl) (pe_op (EW.op_catAS K rfl) (pe_slice (EW.sl_tupAS K rfl) (pv 1) po_none (po_some (pv 3))) (pe_tupS (pa_cons (pv 4) pa_nil))) (pe_slice (EW.sl_tupAS K rfl) (pv 1) (po_some (pe_op op_add (pv 3) pe_int)) po_none)) pa_nil)))))))
      (pss_one (ps_ret (pv 2))))), ?_⟩
    refine ⟨fun σ' H' => ∃ (fl : Addr) (ys : List V), σ' = [some (.ref di), some (.ref r), some (.ref fl), none, none] ∧ H fl = none ∧ Same H H' ∧ H' fl = some (.lst ys) ∧ AllA K H' ys ∧ ys.length = 7, ?_, ?_⟩
    · refine ⟨_, rfl, r, _, rfl, .inr hS, fun q1 H1 n1 s1 e1 => ⟨_, rfl, r, _, rfl, SqT.same hS s1, fun q2 H2 n2 s2 e2 => ⟨_, rfl, (by show 1 ≤ sizeLine; omega), fun q3 H3 n3 s3 e3 => ?_⟩⟩⟩
      have s13 := s1.trans (s2.trans s3)
      refine ⟨r, q3, _, _, rfl, rfl, SqT.same hS s13, SqT.of e3, by show xs.length + 1 ≤ _; omega, fun q4 H4 s4 e4 => ?_⟩
      have s14 := s13.trans s4
      refine ⟨_, rfl, _, rfl, r, _, rfl, SqT.same hS s14, fun q5 H5 s5 e5 => ?_⟩
      have s15 := s14.trans s5
      refine ⟨_, rfl, (by show 1 ≤ sizeLine; omega), fun q6 H6 n6 s6 e6 => ⟨r, q6, _, _, rfl, rfl, SqT.same hS (s15.trans s6), SqT.of e6, by show xs.length + 1 ≤ _; omega, fun q7 H7 s7 e7 => ⟨_, rfl, (by show 1 ≤ sizeLine; omega), fun q8 H8 n8 s8 e8 => ⟨(by show 7 ≤ sizeLine; omega), fun q9 H9 n9 s9 e9 => ?_⟩⟩⟩⟩
      have s89 := s8.trans s9
      have s79 := s7.trans s89
      have s59 := s6.trans s79
      have s49 := s5.trans s59
      have s39 := s4.trans s49
      have s29 := s3.trans s39
      have s19 := s2.trans s29
      have s09 := s1.trans s19
      refine ⟨q9, _, rfl, free_of (s15.trans (s6.trans (s7.trans s8))) n9, s09, e9, ?_, rfl⟩
      have A9 := A0.same s09
      refine .cons (sv1 (.lst_ (s19 _ _ e1))) (.cons (AllA.tup (fun x hx => A9 x (List.mem_reverse.mp hx)) (SqT.of (s29 _ _ e2))) (.cons (AllA.tup (A9.app (.cons (sv1 (.int_ 0)) .nil)) (SqT.same e4 s49)) (.cons (AllA.tup (fun x hx => A9 x (cut_mem hx)) (SqT.same e5 s59)) (.cons (sv1 (.non_)) (.cons (AllA.tup (A9.app (.cons (sv1 (.str_ "a")) .nil)) (SqT.same e7 s89)) (.cons (AllA.tup (.cons (sv1 (hv.same s09) (all_sml hlm)) .nil) (SqT.of (s9 _ _ e8))) .nil))))))
    rintro σ' H1 ⟨fl, ys, rfl, nfl, s1, e1, a1, y7⟩
    have fd' : fl ≠ di := D.nn nfl
    refine ⟨fun σ' H' => ∃ (u3 u4 : Option V) (ys : List V), σ' = [some (.ref di), some (.ref r), some (.ref fl), u3, u4] ∧ EW.Kept di H H' ∧ Dc H' di (n + 10) ∧ H' fl = some (.lst ys) ∧ AllA K H' ys ∧ ys.length ≤ 12, ?_, ?_⟩
    · refine ⟨_, rfl, nil_ ⟨_, _, rfl, .inr ⟨_, SqT.same hS s1, rfl⟩, nil_ ⟨_, rfl, by omega, by omega, ?_⟩⟩⟩
      refine for_range (lo := 0) (n := xs.length) (fun i σ' H' => ∃ (u3 u4 : Option V) (ys : List V), σ' = [some (.ref di), some (.ref r), some (.ref fl), u3, u4] ∧ (∀ b o, b ≠ di → H b = some o → H' b = some o) ∧ Dc H' di (n + (i : Int)) ∧ H' fl = some (.lst ys) ∧ AllA K H' ys ∧ ys.length ≤ 7 + i) ⟨none, none, ys, rfl, kept_of s1, (D.same s1).mono (by omega), e1, a1, by omega⟩ ?_ ?_
      · rintro i σ' H2 hi ⟨u3, u4, ys, rfl, k2, D2, e2, a2, l2⟩
        have hS2 : SqT K H2 r xs := SqT.kept hS hds k2
        have A2 : AllA K H2 xs := by
          obtain ⟨ds2, hds2⟩ := D2.lst
          exact A0.kept hds hds2 k2
        rw [Int.zero_add]
        refine ⟨_, rfl, (by show 1 ≤ sizeLine; omega), fun q3 H3 n3 s3 e3 => ⟨_, rfl, _, _, rfl, rfl, ⟨by decide, by decide⟩, (by show 9 ≤ sizeLine; omega), fun q4 H4 n4 s4 e4 => nil_ ?_⟩⟩
        have facts : AllA K H4 [.non, .bl true, .str "a", .int 0, .str "", .ref q3, .str "0", .int (-5), .int ((10 : Int) ^ (11 : Int).toNat)] := .cons (sv1 (.non_)) (.cons (sv1 (.bl_ _)) (.cons (sv1 (.str_ _)) (.cons (sv1 (.int_ _)) (.cons (sv1 (.str_ _)) (.cons ((AllA.cons (sv1 (.int_ 0)) .nil).tup (SqT.of (s4 _ _ e3))) (.cons (sv1 (.str_ _)) (.cons (sv1 (.int_ _)) (.cons (sv1 (.int_ _)) .nil))))))))
        have D4 := D2.same (s3.trans s4)
        refine ⟨di, q4, _, _, rfl, D4, by omega, .inl ⟨SqL.of e4, (D2.same s3).nn n4⟩, (by show 0 < 9; omega), (by show 9 < 1000; omega), fun v5 H5 hv5 k5 D5 => ?_⟩
        obtain ⟨dv, hdv, hdm⟩ := facts v5 hv5
        obtain ⟨ds2, hds2⟩ := D2.lst
        obtain ⟨ds4, hds4⟩ := D4.lst
        obtain ⟨ds5, hds5⟩ := D5.lst
        have hdv5 := hdv.kept hds4 hds5 k5
        have k25 := (kept_of (d := di) (s3.trans s4)).trans k5
        have hS5 : SqT K H5 r xs := SqT.kept hS2 hds2 k25
        have A5 : AllA K H5 xs := A2.kept hds2 hds5 k25
        have e5 := k25 _ _ fd' e2
        have a5 : AllA K H5 ys := a2.kept hds2 hds5 k25
        refine ⟨_, rfl, .inl ⟨rfl, _, SqL.of e5⟩, ?_⟩
        refine ⟨_, rfl, _, rfl, _, rfl, r, _, rfl, hS5, fun q6 H6 s6 e6 => ?_⟩
        rw [cut_to] at e6
        refine ⟨_, rfl, (by show 1 ≤ sizeLine; omega), fun q7 H7 n7 s7 e7 => ?_⟩
        refine ⟨q6, q7, _, _, rfl, rfl, SqT.same e6 s7, SqT.of e7, by rw [List.length_take]; show min i xs.length + 1 ≤ sizeLine; omega, fun q8 H8 s8 e8 => ?_⟩
        have s58 := s6.trans (s7.trans s8)
        refine ⟨_, rfl, _, rfl, _, _, rfl, rfl, _, rfl, r, _, rfl, SqT.same hS5 s58, fun q9 H9 s9 e9 => ?_⟩
        rw [cut_from xs i hi] at e9
        refine ⟨q8, q9, _, _, rfl, rfl, SqT.same e8 s9, e9, by simp; omega, fun q10 H10 s10 e10 => nil_ ?_⟩
        have s510 := s58.trans (s9.trans s10)
        have A10 := A5.same s510
        obtain ⟨m1, m2⟩ := oneMore (EW.Kept.refl fl H5) e5 a5 s510 (AllA.tup (((A10.take i).app (.cons ⟨dv, hdv5.same s510, hdm⟩ .nil)).app (A10.drop (i + 1))) e10)
        refine ⟨fl, ys, _, rfl, rfl, s510 _ _ e5, by omega, _, _, ys ++ [.ref q10], rfl, fun b o nb e => ?_, ?_, upd_same, m2, by rw [List.length_append]; show _ + 1 ≤ _; omega⟩
        · rw [upd_ne (fun z => by rw [z, nfl] at e; cases e)]
          exact s510 _ _ (k25 _ _ nb (k2 b o nb e))
        · exact Dc.mono ((D5.same s510).keep (by rw [upd_ne (Ne.symm fd')])) (by omega)
      · rintro σ' H2 ⟨u3, u4, ys, rfl, k2, D2, e2, a2, l2⟩
        exact ⟨u3, u4, ys, rfl, k2, D2.mono (by omega), e2, a2, by omega⟩
    rintro σ' H2 ⟨u3, u4, ys, rfl, k2, D2, e2, a2, l2⟩
    exact ⟨_, rfl, k fl ys H2 k2 D2 fd' e2 a2 l2⟩
end
end TM
end

section

namespace Rn
/-! ### without end -/
def Unb (A : Int → Prop) : Prop := (∀ b, ∃ t, t < b ∧ A t) ∨ (∀ b, ∃ t, b < t ∧ A t)
section
variable {A B : Int → Prop} {t m p r : Int}
theorem Unb.congr (e : ∀ t, A t ↔ B t) : Unb A ↔ Unb B := by
  have : A = B := funext fun t => propext (e t)
  rw [this]
theorem bounded {ss : List Sp3} (h : ∀ s ∈ ss, s.lo ≠ none ∧ s.hi ≠ none) : ∃ L M, ∀ t, inSpans p ss t → L ≤ t ∧ t ≤ M := by
  induction ss with
  | nil => exact ⟨0, 0, fun t ⟨_, hx, _⟩ => nomatch hx⟩
  | cons s ss ih =>
    obtain ⟨L, M, hb⟩ := ih fun z hz => h z (List.mem_cons_of_mem _ hz)
    obtain ⟨h1, h2⟩ := h s List.mem_cons_self
    obtain ⟨l, el⟩ := Option.ne_none_iff_exists'.mp h1
    obtain ⟨u, eu⟩ := Option.ne_none_iff_exists'.mp h2
    refine ⟨min l L, max u M, fun t q => ?_⟩
    rcases spans_cons.mp q with q | q
    · have a := q.2.1 l el
      have b := q.2.2 u eu
      omega
    · have a := hb t q
      omega
theorem unb_iff (hp : 0 < p) {ss : List Sp3} (ok : ∀ s ∈ ss, SpOk p s) : Unb (inSpans p ss) ↔ ∃ s ∈ ss, s.lo = none ∨ s.hi = none := by
  constructor
  · intro h
    rcases Classical.em (∃ s ∈ ss, s.lo = none ∨ s.hi = none) with c | c
    · exact c
    · obtain ⟨L, M, hb⟩ := bounded (p := p) (ss := ss) fun s hs => ⟨fun e => c ⟨s, hs, .inl e⟩, fun e => c ⟨s, hs, .inr e⟩⟩
      rcases h with h | h
      · obtain ⟨t, ht, q⟩ := h L
        have := hb t q
        omega
      · obtain ⟨t, ht, q⟩ := h M
        have := hb t q
        omega
  · rintro ⟨s, hs, h⟩
    have res : ∃ r, 0 ≤ r ∧ r < p ∧ ∀ t, t % p = r → ∀ q, s.res = some q → t % p = q := by
      cases e : s.res with
      | none => exact ⟨0, by omega, by omega, fun t _ q e => nomatch e⟩
      | some r =>
        obtain ⟨r0, r1⟩ := ok s hs r e
        exact ⟨r, r0, r1, fun t h q e => by cases e; exact h⟩
    obtain ⟨r, r0, r1, hr⟩ := res
    rcases h with h | h
    · refine .inl fun b => ?_
      obtain ⟨t, h1, h2⟩ := below hp r0 r1 (min b (s.hi.getD b))
      refine ⟨t, by omega, s, hs, hr t h1, (fun l e => by rw [h] at e; cases e), fun u e => ?_⟩
      rw [e] at h2
      have : (some u).getD b = u := rfl
      omega
    · refine .inr fun b => ?_
      obtain ⟨t, h1, h2⟩ := above hp r0 r1 (max b (s.lo.getD b))
      refine ⟨t, by omega, s, hs, hr t h1, fun u e => ?_, fun l e => by rw [h] at e; cases e⟩
      rw [e] at h2
      have : (some u).getD b = u := rfl
      omega
/-! ### rhythm -/
def EvPer (A : Int → Prop) (m : Int) : Prop := (∃ b, ∀ t, b ≤ t → (A t ↔ A (t + m))) ∧ (∃ b, ∀ t, t ≤ b → (A t ↔ A (t + m)))
structure IsRhythm (A : Int → Prop) (m : Int) : Prop where
  pos : 1 ≤ m
  per : EvPer A m
  least : ∀ k, 1 ≤ k → k < m → ¬ EvPer A k
theorem IsRhythm.uniq {n : Int} (h : IsRhythm A m) (h' : IsRhythm A n) : m = n := by
  rcases Int.lt_trichotomy m n with c | c | c
  · exact absurd h.per (h'.least m h.pos c)
  · exact c
  · exact absurd h'.per (h.least n h'.pos c)
theorem IsRhythm.congr (e : ∀ t, A t ↔ B t) (h : IsRhythm A m) : IsRhythm B m := by
  have : A = B := funext fun t => propext (e t)
  rw [← this]
  exact h
/-- residues that go on -/
def Alike (p : Int) (S : Int → Prop) (m : Int) : Prop := ∀ r, 0 ≤ r → r < p → S r → S ((r + m) % p)
theorem alike_iter (hp : 0 < p) {S : Int → Prop} (h : Alike p S m) : ∀ (k : Nat) (r : Int), 0 ≤ r → r < p → S r → S ((r + k * m) % p)
  | 0, r, r0, r1, hs => by
    have e : r + ((0 : Nat) : Int) * m = r := by simp
    rw [e, Int.emod_eq_of_lt r0 r1]
    exact hs
  | k + 1, r, r0, r1, hs => by
    have ih := alike_iter hp h k r r0 r1 hs
    have := h _ (Int.emod_nonneg _ (by omega)) (Int.emod_lt_of_pos _ hp) ih
    rw [Int.emod_add_emod] at this
    have e : r + ((k + 1 : Nat) : Int) * m = r + (k : Int) * m + m := by
      rw [Int.natCast_add, Int.add_mul]
      simp
      omega
    rw [e]
    exact this
theorem alike_iff (hp : 0 < p) {S : Int → Prop} (h : Alike p S m) (r0 : 0 ≤ r) (r1 : r < p) : S r ↔ S ((r + m) % p) := by
  refine ⟨h r r0 r1, fun q => ?_⟩
  have := alike_iter hp h (p.toNat - 1) _ (Int.emod_nonneg _ (by omega)) (Int.emod_lt_of_pos _ hp) q
  rw [Int.emod_add_emod] at this
  have e : r + m + ((p.toNat - 1 : Nat) : Int) * m = r + p * m := by
    have : ((p.toNat - 1 : Nat) : Int) = p - 1 := by omega
    rw [this, Int.sub_mul]
    omega
  rw [e, Int.add_mul_emod_self_left, Int.emod_eq_of_lt r0 r1] at this
  exact this
theorem per_up (hp : 0 < p) {S : Int → Prop} (m0 : 0 ≤ m) (tail : ∃ b, ∀ t, b ≤ t → (A t ↔ S (t % p))) : (∃ b, ∀ t, b ≤ t → (A t ↔ A (t + m))) ↔ Alike p S m := by
  obtain ⟨b, hb⟩ := tail
  constructor
  · rintro ⟨c, hc⟩ r r0 r1 hs
    obtain ⟨t, h1, h2⟩ := above hp r0 r1 (max b c)
    have q := (hc t (by omega)).mp ((hb t (by omega)).mpr (by rw [h1]; exact hs))
    have := (hb (t + m) (by omega)).mp q
    rw [← Int.emod_add_emod, h1] at this
    exact this
  · intro h
    refine ⟨b, fun t ht => ?_⟩
    rw [hb t ht, hb (t + m) (by omega), ← Int.emod_add_emod]
    exact alike_iff hp h (Int.emod_nonneg _ (by omega)) (Int.emod_lt_of_pos _ hp)
theorem per_down (hp : 0 < p) {S : Int → Prop} (m0 : 0 ≤ m) (tail : ∃ b, ∀ t, t ≤ b → (A t ↔ S (t % p))) : (∃ b, ∀ t, t ≤ b → (A t ↔ A (t + m))) ↔ Alike p S m := by
  obtain ⟨b, hb⟩ := tail
  constructor
  · rintro ⟨c, hc⟩ r r0 r1 hs
    obtain ⟨t, h1, h2⟩ := below hp r0 r1 (min (b - m) c)
    have q := (hc t (by omega)).mp ((hb t (by omega)).mpr (by rw [h1]; exact hs))
    have := (hb (t + m) (by omega)).mp q
    rw [← Int.emod_add_emod, h1] at this
    exact this
  · intro h
    refine ⟨b - m, fun t ht => ?_⟩
    rw [hb t (by omega), hb (t + m) (by omega), ← Int.emod_add_emod]
    exact alike_iff hp h (Int.emod_nonneg _ (by omega)) (Int.emod_lt_of_pos _ hp)
/-- residues of spans without an end, without a beginning -/
def ahd (ss : List Sp3) (r : Int) : Prop := ∃ s ∈ ss, s.hi = none ∧ ∀ q, s.res = some q → r = q
def bkd (ss : List Sp3) (r : Int) : Prop := ∃ s ∈ ss, s.lo = none ∧ ∀ q, s.res = some q → r = q
def Within (b : Int) (ss : List Sp3) : Prop := ∀ s ∈ ss, ∀ l, s.lo = some l ∨ s.hi = some l → -b ≤ l ∧ l ≤ b
theorem within_ex (ss : List Sp3) : ∃ b, 0 ≤ b ∧ Within b ss := by
  induction ss with
  | nil => exact ⟨0, by omega, fun s hs => nomatch hs⟩
  | cons s ss ih =>
    obtain ⟨b, b0, hb⟩ := ih
    have one : ∀ o : Option Int, ∃ c, 0 ≤ c ∧ ∀ l, o = some l → -c ≤ l ∧ l ≤ c := fun o => by
      cases o with
      | none => exact ⟨0, by omega, fun l e => nomatch e⟩
      | some x => exact ⟨x.natAbs, by omega, fun l e => by cases e; omega⟩
    obtain ⟨c, c0, hc⟩ := one s.lo
    obtain ⟨d, d0, hd⟩ := one s.hi
    refine ⟨max b (max c d), by omega, fun z hz l e => ?_⟩
    rcases List.mem_cons.mp hz with rfl | hz
    · rcases e with e | e
      · have := hc l e
        omega
      · have := hd l e
        omega
    · have := hb z hz l e
      omega
theorem tail_up {ss : List Sp3} {b : Int} (h : Within b ss) (ht : b < t) : inSpans p ss t ↔ ahd ss (t % p) := by
  constructor
  · rintro ⟨s, hs, h1, h2, h3⟩
    refine ⟨s, hs, ?_, h1⟩
    cases e : s.hi with
    | none => rfl
    | some u =>
      have := h3 u e
      have := h s hs u (.inr e)
      omega
  · rintro ⟨s, hs, h1, h2⟩
    refine ⟨s, hs, h2, fun l e => ?_, fun u e => by rw [h1] at e; cases e⟩
    have := h s hs l (.inl e)
    omega
theorem tail_down {ss : List Sp3} {b : Int} (h : Within b ss) (ht : t < -b) : inSpans p ss t ↔ bkd ss (t % p) := by
  constructor
  · rintro ⟨s, hs, h1, h2, h3⟩
    refine ⟨s, hs, ?_, h1⟩
    cases e : s.lo with
    | none => rfl
    | some u =>
      have := h2 u e
      have := h s hs u (.inl e)
      omega
  · rintro ⟨s, hs, h1, h2⟩
    refine ⟨s, hs, h2, fun u e => (by rw [h1] at e; cases e), fun l e => ?_⟩
    have := h s hs l (.inr e)
    omega
theorem evper_iff (hp : 0 < p) {ss : List Sp3} (m0 : 0 ≤ m) : EvPer (inSpans p ss) m ↔ Alike p (ahd ss) m ∧ Alike p (bkd ss) m := by
  obtain ⟨b, b0, hb⟩ := within_ex ss
  unfold EvPer
  rw [per_up hp (S := ahd ss) m0 ⟨b + 1, fun t ht => tail_up hb (by omega)⟩, per_down hp (S := bkd ss) m0 ⟨-b - 1, fun t ht => tail_down hb (by omega)⟩]
theorem alike_p (S : Int → Prop) : Alike p S p := fun r r0 r1 hs => by
  rw [Int.add_emod_right, Int.emod_eq_of_lt r0 r1]
  exact hs
/-- what a search from 1 on finds -/
theorem rhythm_of (hp : 0 < p) {ss : List Sp3} (h1 : 1 ≤ m) (h2 : m ≤ p) (h3 : m < p → Alike p (ahd ss) m ∧ Alike p (bkd ss) m) (h4 : ∀ k, 1 ≤ k → k < m → ¬ (Alike p (ahd ss) k ∧ Alike p (bkd ss) k)) : IsRhythm (inSpans p ss) m := by
  refine ⟨h1, ?_, fun k k1 k2 q => h4 k k1 k2 ((evper_iff hp (by omega)).mp q)⟩
  rw [evper_iff hp (by omega)]
  rcases Int.lt_or_le m p with c | c
  · exact h3 c
  · have e : m = p := by omega
    rw [e]
    exact ⟨alike_p _, alike_p _⟩
/-- a window of all residues far away -/
theorem window_up {ss : List Sp3} {b c : Int} (hp : 0 < p) (h : Within b ss) (hc : b < c) (m0 : 0 ≤ m) : (∀ t, c ≤ t → t < c + p → (inSpans p ss t ↔ inSpans p ss (t + m))) ↔ Alike p (ahd ss) m := by
  constructor
  · intro q r r0 r1 hs
    have e : (c + (r - c) % p) % p = r := upTo_mod r0 r1 c
    have g0 := Int.emod_nonneg (r - c) (show p ≠ 0 by omega)
    have g1 := Int.emod_lt_of_pos (r - c) hp
    have := (q (c + (r - c) % p) (by omega) (by omega)).mp ((tail_up h (by omega)).mpr (by rw [e]; exact hs))
    have := (tail_up (p := p) h (t := c + (r - c) % p + m) (by omega)).mp this
    rw [← Int.emod_add_emod, e] at this
    exact this
  · intro q t t0 t1
    rw [tail_up h (by omega), tail_up h (t := t + m) (by omega), ← Int.emod_add_emod]
    exact alike_iff hp q (Int.emod_nonneg _ (by omega)) (Int.emod_lt_of_pos _ hp)
theorem window_down {ss : List Sp3} {b c : Int} (hp : 0 < p) (h : Within b ss) (hc : c + p + m < -b) (m0 : 0 ≤ m) : (∀ t, c ≤ t → t < c + p → (inSpans p ss t ↔ inSpans p ss (t + m))) ↔ Alike p (bkd ss) m := by
  constructor
  · intro q r r0 r1 hs
    have e : (c + (r - c) % p) % p = r := upTo_mod r0 r1 c
    have g0 := Int.emod_nonneg (r - c) (show p ≠ 0 by omega)
    have g1 := Int.emod_lt_of_pos (r - c) hp
    have := (q (c + (r - c) % p) (by omega) (by omega)).mp ((tail_down h (by omega)).mpr (by rw [e]; exact hs))
    have := (tail_down (p := p) h (t := c + (r - c) % p + m) (by omega)).mp this
    rw [← Int.emod_add_emod, e] at this
    exact this
  · intro q t t0 t1
    rw [tail_down h (by omega), tail_down h (t := t + m) (by omega), ← Int.emod_add_emod]
    exact alike_iff hp q (Int.emod_nonneg _ (by omega)) (Int.emod_lt_of_pos _ hp)
/-- .. of runs -/
theorem ahd_runs {zs : List Run} : ahd (zs.map Run.span) r ↔ ∃ z ∈ zs, z.hi = none ∧ z.r = r := by
  constructor
  · rintro ⟨s, hs, h1, h2⟩
    obtain ⟨z, hz, rfl⟩ := List.mem_map.mp hs
    exact ⟨z, hz, h1, (h2 z.r rfl).symm⟩
  · rintro ⟨z, hz, h1, h2⟩
    exact ⟨z.span, List.mem_map.mpr ⟨z, hz, rfl⟩, h1, fun q e => by cases e; exact h2.symm⟩
theorem bkd_runs {zs : List Run} : bkd (zs.map Run.span) r ↔ ∃ z ∈ zs, z.lo = none ∧ z.r = r := by
  constructor
  · rintro ⟨s, hs, h1, h2⟩
    obtain ⟨z, hz, rfl⟩ := List.mem_map.mp hs
    exact ⟨z, hz, h1, (h2 z.r rfl).symm⟩
  · rintro ⟨z, hz, h1, h2⟩
    exact ⟨z.span, List.mem_map.mpr ⟨z, hz, rfl⟩, h1, fun q e => by cases e; exact h2.symm⟩
end
end Rn
end

section
set_option maxHeartbeats 4000000
namespace Rn
/-- the first member lies near the bounds -/
theorem first_near {p b m : Int} {ss : List Sp3} (hp : 0 < p) (h : Within b ss) (hb : 0 ≤ b) (hf : IsFirst (inSpans p ss) (some m)) : m.natAbs ≤ (b + p).toNat := by
  obtain ⟨⟨s, hs, h1, h2, h3⟩, hm⟩ := hf
  have hn : ∀ l, s.lo = some l → -b ≤ l ∧ l ≤ b := fun l e => h s hs l (.inl e)
  have hx : ∀ l, s.hi = some l → -b ≤ l ∧ l ≤ b := fun l e => h s hs l (.inr e)
  by_cases c : m.natAbs ≤ (b + p).toNat
  · exact c
  exfalso
  have step : ∀ e : Int, (e = p ∨ e = -p) → -b ≤ m + e → m + e ≤ b ∨ True → True := fun _ _ _ _ => trivial
  rcases Int.lt_or_le m 0 with c0 | c0
  · have q := hm (m + p) ⟨s, hs, fun r e => by rw [Int.add_emod_right]; exact h1 r e, fun l e => by have := h2 l e; omega, fun l e => by have := hx l e; omega⟩
    unfold Before at q
    omega
  · have q := hm (m - p) ⟨s, hs, fun r e => by rw [Int.sub_emod_right]; exact h1 r e, fun l e => by have := hn l e; omega, fun l e => by have := h3 l e; omega⟩
    unfold Before at q
    omega
theorem rhythm_le {p m : Int} {ss : List Sp3} (hp : 0 < p) (h : IsRhythm (inSpans p ss) m) : 1 ≤ m ∧ m ≤ p := by
  refine ⟨h.pos, ?_⟩
  by_cases c : m ≤ p
  · exact c
  · exact absurd ((evper_iff hp (by omega)).mpr ⟨alike_p _, alike_p _⟩) (h.least p (by omega) (by omega))
end Rn
namespace EW
open PySem PySem.Spec PyProof.Rows L2
/-! ### the texts of small flat data -/
structure Gd (x : PyData) : Prop where
  s : x.showable = true
  h : x.hasDict = false
  d : x.depth = 0
  l : x.leavesShort 1921 = true
  w : x.weight ≤ 201
theorem Gd.non : Gd .none := ⟨rfl, rfl, rfl, rfl, Nat.zero_le _⟩
theorem Gd.bl (b : Bool) : Gd (.bool b) := ⟨rfl, rfl, rfl, rfl, Nat.zero_le _⟩
theorem Gd.int {i : Int} (h : i.natAbs < 2 ^ 200) : Gd (.int i) := by
  have z : i.natAbs.log2 < 201 := by
    rcases Nat.eq_zero_or_pos i.natAbs with e | e
    · rw [e]
      decide
    · exact (Nat.log2_lt (by omega)).mpr (Nat.lt_trans h (by decide))
  refine ⟨?_, rfl, rfl, ?_, ?_⟩
  · simp only [PyData.showable, decide_eq_true_eq]
    omega
  · simp only [PyData.leavesShort, decide_eq_true_eq, PyData.shown]
    exact decide_eq_true (int_text_len_1921 (i := i) (by omega))
  · simp only [PyData.weight]
    split <;> omega
inductive Gds : List PyData → Prop where
  | nil : Gds []
  | cons {d : PyData} {ds : List PyData} : Gd d → Gds ds → Gds (d :: ds)
theorem Gds.facts : ∀ {ds : List PyData}, Gds ds → PyData.showableAll ds = true ∧ PyData.hasDictAll ds = false ∧ PyData.depthAll ds = 0 ∧ PyData.leavesShortAll 1921 ds = true ∧ PyData.weightAll ds ≤ 202 * ds.length
  | _, .nil => ⟨rfl, rfl, rfl, rfl, Nat.le_refl _⟩
  | d :: ds, .cons h t => by
    obtain ⟨t1, t2, t3, t4, t5⟩ := t.facts
    refine ⟨?_, ?_, ?_, ?_, ?_⟩
    · simp only [PyData.showableAll, h.s, t1, Bool.and_self]
    · simp only [PyData.hasDictAll, h.h, t2, Bool.or_self]
    · simp only [PyData.depthAll, h.d, t3]
      rfl
    · simp only [PyData.leavesShortAll, h.l, t4, Bool.and_self]
    · have h1 := h.w
      simp only [PyData.weightAll, List.length_cons]
      omega
/-- repr of a short list of them -/
theorem rep_flat {K : W.Frag} {H : Hp} {l : Addr} {vs : List V} {ds : List PyData} {Q : VK} (h : SqL K H l vs) (n : DpAll K H vs ds) (g : Gds ds) (z : ds.length ≤ 20) (q : Q (.str (PyData.list ds).shown) H) : rRepr K [.ref l] H Q := by
  obtain ⟨g1, g2, g3, g4, g5⟩ := g.facts
  refine ⟨l, .list ds, rfl, .lst h n, ?_, ?_, ?_, ?_, q⟩
  · simpa only [PyData.showable] using g1
  · simpa only [PyData.hasDict] using g2
  · simp only [PyData.depth]
    omega
  · have b := PyData.shown_le 1921 (by decide) (.list ds) (by simpa only [PyData.leavesShort] using g4)
    have w : (PyData.list ds).weight ≤ 4100 := by
      simp only [PyData.weight]
      omega
    have s : sizeLine = 16777216 := sizeLine_eq
    have m : (1921 + 2) * (PyData.list ds).weight ≤ (1921 + 2) * 4100 := Nat.mul_le_mul_left _ w
    omega
end EW
end

section
set_option maxHeartbeats 4000000
/-! EwReprW: repr of small values, also of short data and of empty dicts. -/
namespace EW
open PySem PySem.Spec PyProof.Rows L2
section
variable {K : W.Frag} {H H' : Hp}
mutual
theorem dp_stay (ht : ∀ a xs, SqT K H a xs → SqT K H' a xs) (hl : ∀ a xs, SqL K H a xs → SqL K H' a xs) : ∀ (d : PyData) (v : V), Dp K H v d → Dp K H' v d
  | .none, v, h => by cases h; exact .non
  | .bool b, v, h => by cases h; exact .bl b
  | .int i, v, h => by cases h; exact .int i
  | .str x, v, h => by cases h; exact .str x
  | .list ds, v, h => by
    cases h with
    | lst h t => exact .lst (hl _ _ h) (dpAll_stay ht hl ds _ t)
  | .tuple ds, v, h => by
    cases h with
    | tup h t => exact .tup (ht _ _ h) (dpAll_stay ht hl ds _ t)
  | .dict _, v, h => by cases h
theorem dpAll_stay (ht : ∀ a xs, SqT K H a xs → SqT K H' a xs) (hl : ∀ a xs, SqL K H a xs → SqL K H' a xs) : ∀ (ds : List PyData) (vs : List V), DpAll K H vs ds → DpAll K H' vs ds
  | [], _, h => by cases h; exact .nil
  | d :: ds, _, h => by
    cases h with
    | cons h t => exact .cons (dp_stay ht hl d _ h) (dpAll_stay ht hl ds _ t)
end
theorem dp_ext {d : PyData} {v : V} (h : Dp K H v d) (e : LamX.ExtN H H') : Dp K H' v d := dp_stay (fun _ _ q => sqT_ext q e) (fun _ _ q => sqL_ext q e) d v h
theorem repV_ext {v : V} {s : Str} (h : RepV K H v s) (e : LamX.ExtN H H') : RepV K H' v s := by
  cases h with
  | non => exact .non
  | bl b => exact .bl b
  | int i h1 h2 => exact .int i h1 h2
  | str x h1 => exact .str x h1
  | nil a h1 => exact .nil a (sqT_ext h1 e)
end
/-- how values are shown -/
inductive RepW (K : W.Frag) (H : Hp) : V → Str → Prop
  | old {v : V} {s : Str} : RepV K H v s → RepW K H v s
  | dat (a : Addr) (d : PyData) : Dp K H (.ref a) d → d.showable = true → d.hasDict = false → d.depth ≤ 60 → d.shown.length ≤ 10000000 → RepW K H (.ref a) d.shown
  | dict (a : Addr) : Rd H a (.dK []) → RepW K H (.ref a) (PyData.shown (.dict []))
theorem RepW.ext {K : W.Frag} {H H' : Hp} {v : V} {s : Str} (h : RepW K H v s) (e : LamX.ExtN H H') : RepW K H' v s := by
  cases h with
  | old h => exact .old (repV_ext h e)
  | dat a d h1 h2 h3 h4 h5 => exact .dat a d (dp_ext h1 e) h2 h3 h4 h5
  | dict a h => exact .dict a (rd_ext h (fun ps z => by cases z) e)
theorem RepW.same {K : W.Frag} {H H' : Hp} {v : V} {s : Str} (h : RepW K H v s) (e : Same H H') : RepW K H' v s := h.ext (.of e)
theorem RepW.len {K : W.Frag} {H : Hp} {v : V} {s : Str} (h : RepW K H v s) : s.length ≤ 10000000 := by
  cases h with
  | old h => exact Nat.le_trans h.len (by decide)
  | dat a d _ _ _ _ h => exact h
  | dict a _ => decide
theorem call_reprW {X : Cx} (hG : X.A.guards = some []) (hu : X.A.units + 100 < cLine) : CallR X (.builtin "repr") (fun xs H Q => ∃ (v : V) (s : Str), xs = [v] ∧ RepW X.K H v s ∧ Q (.str s) H) := by
  intro pins s σ H xs us Q I r h
  obtain ⟨v, z, rfl, hz, q⟩ := h
  cases hz with
  | old hz => exact call_reprM hG hu pins s σ H _ us Q I r ⟨v, z, rfl, hz, q⟩
  | dat a d hd hs hn hp hl =>
    cases r with
    | cons rx rn =>
      cases rn
      obtain ⟨as, r1⟩ := Dp.reads I d (.ref a) _ hd rx
      obtain rfl := rx
      have big : (10000000 : Nat) ≤ sizeLine := by decide
      exact repr_of_reads' r1 hs (fun z => by rw [hn] at z; cases z) hG (by omega) (fun _ _ z => z)
        (fun h' u tk hk => ⟨.str d.shown, H, I.kept (t' := tk) hk, ⟨u, rfl⟩, q⟩) (Nat.le_trans hl big)
  | dict a ha =>
    cases r with
    | cons rx rn =>
      cases rn
      obtain rfl := rx
      obtain ⟨_, ns, vs, kv, o, es, ep, hg, ex, hd, _, hp, _⟩ := dk_rd I.hok ha
      cases kv
      have he : es.toList = [] := by cases hp' : es.toList with
        | nil => rfl
        | cons _ _ => rw [hp'] at hp; cases hp
      have rd : Reads s.heap (.ref a) (.dict []) ([a] ++ []) := .dict hg ex.1 hd (by rw [he]; exact .nil) (by rw [he]; exact .nil)
      refine repr_of_reads' rd (by decide) (fun _ => ?_) hG (by show X.A.units + (1 + 1) < cLine; omega) (fun _ _ z => z)
        (fun h' u tk hk => ⟨.str (PyData.shown (.dict [])), H, I.kept (t' := tk) hk, ⟨u, rfl⟩, q⟩) (by decide)
      intro hm
      rw [List.append_nil, List.mem_singleton] at hm
      rw [hm] at ns
      simp at ns
theorem call_reprWK {X : Cx} (K : W.Frag) (h : X.K = K) (hG : X.A.guards = some []) (hu : X.A.units + 100 < cLine) : CallR X (.builtin "repr") (fun xs H Q => ∃ (v : V) (s : Str), xs = [v] ∧ RepW K H v s ∧ Q (.str s) H) := by
  subst h
  exact call_reprW hG hu
end EW
end

section
set_option maxHeartbeats 4000000
namespace EW
open PySem PySem.Spec PyProof.Rows L2
theorem cr_max1 {X : Cx} (K : W.Frag) (h : X.K = K) (hc : X.calm = true) : CallR X (.builtin "max") (rMax K) := by
  subst h
  exact cr_max hc
end EW
namespace TM
open PySem PySem.Spec PyProof.Rows L2 EW
abbrev NLMet : List Str := ["_law_call"]
theorem LMet : FnScope NLMet ["_law_call"] (defScope sLMet) := ⟨rfl, rfl, rfl, by decide +kernel, rfl, by decide +kernel, by decide +kernel⟩
abbrev lamR : Str := "_law_rows_right.<locals>.<lambda>"
/-- the table of the def that makes lambdas -/
abbrev PT2 := Addr
abbrev LT (c : PT2) : List (Addr × Str) := [(c, lamR)]
abbrev TNe (c : PT2) : Prop := ((LT c).map (·.1)).Nodup
/-- which clauses take which classes -/
structure XRow (K : W.Frag) : Prop where
  ss : W.exmOne K (.ref (He.ga K "InvalidShape")) (.ref (He.ga K "InvalidShape")) = some true
  os : W.exmOne K (.ref (He.ga K "InvalidOperation")) (.ref (He.ga K "InvalidShape")) = some false
  oo : W.exmOne K (.ref (He.ga K "InvalidOperation")) (.ref (He.ga K "InvalidOperation")) = some true
theorem xrowB_ok {K : W.Frag} (h : xrowB K = true) : XRow K := by
  obtain ⟨h1, h⟩ := He.ba h
  obtain ⟨h2, h3⟩ := He.ba h
  exact ⟨of_decide_eq_true h1, of_decide_eq_true h2, of_decide_eq_true h3⟩
/-- what the clauses make of an exception -/
def EMet (K : W.Frag) (Q : VK) : XK := fun cls d H' => (cls = .ref (He.ga K "InvalidShape") ∧ Q (.str "shape") H') ∨ (cls = .ref (He.ga K "InvalidOperation") ∧ Q (.str "operation") H')
def TTMet (K : W.Frag) : (XK → Hp → VK → Prop) → Hp → VK → Prop := fun tl H Q => tl (EMet K Q) H Q
/-- the classes that the clauses name -/
structure XNam (K : W.Frag) (mg : Str → Option Value) : Prop where
  shape : mg "InvalidShape" = some (.ref (He.ga K "InvalidShape"))
  op : mg "InvalidOperation" = some (.ref (He.ga K "InvalidOperation"))
  ever : mg "EverError" = some (.ref (He.ga K "EverError"))
theorem rse_shape {K : W.Frag} {H : Hp} {Q : VK} (k : ∀ H', Same H H' → Q (.str "shape") H') : Rse K H (EMet K Q) .shape := fun H' s => .inl ⟨rfl, k H' s⟩
theorem rse_op {K : W.Frag} {H : Hp} {Q : VK} (k : ∀ H', Same H H' → Q (.str "operation") H') : Rse K H (EMet K Q) .op := fun H' s => .inr ⟨rfl, k H' s⟩
section
variable {X : Cx}
theorem met_gives {g : Addr} {cdg : Value} {q : Str} (XR : XRow X.K) (XN : XNam X.K X.mg) :
    LamX.GivesTo X NLMet "_law_met" (defScope sLMet) g cdg (defBody sLMet) "_law_call" q (TTMet X.K) := by
  intro f c' s H Q tl act hc h
  refine ⟨_, pss_one (ps_try_mix (X := (cxOf C8.CX0 X.prog X.w X.K X.mg X.base NLMet "_law_met" (defScope sLMet) g cdg X.A X.stack s H C8.E0).nox) (Wo := fun _ _ _ _ => False)
      (tb := fun W D σ G => ∃ Ech : XK, (∀ cls d σ' H', Ech cls d H' → W cls d σ' H') ∧ σ[0]? = some (some (.ref f)) ∧ G c' = some (LamX.CodeO c' q) ∧ tl Ech G fun v H' => D.rt v H')
      rfl rfl LamX.takes0 (fun W pn xe tk _ => ?body) (.plain ⟨rfl, by decide, .inl XN.shape⟩ (fun a o C d pn _ _ => pss_one (ps_ret pe_str)) (.plain ⟨rfl, by decide, .inl XN.op⟩ (fun a o C d pn _ _ => pss_one (ps_ret pe_str)) (.plain ⟨rfl, by decide, .inl XN.ever⟩ (fun a o C d pn _ _ => pss_one (ps_ret pe_str)) .nil)))), ?_⟩
  case body =>
    refine ⟨fun pins s' σ H' D I h' => ?_⟩
    obtain ⟨Ech, hW, h1, h2, h3⟩ := h'
    exact (pss_one (ps_ret (act W pn xe Ech _ _ tk hW))).run pins s' σ H' D I ⟨h1, h2, h3⟩
  · refine ⟨EMet X.K Q, fun cls d σ' H' he => ?_, rfl, hc, h⟩
    rcases he with ⟨rfl, k⟩ | ⟨rfl, k⟩
    · exact ⟨true, XR.ss, fun _ a _ => k, fun z => by cases z⟩
    · exact ⟨false, XR.os, (fun z => by cases z), fun _ => ⟨true, XR.oo, fun _ a _ => k, fun z => by cases z⟩⟩
end
/-- _law_met, and what its clauses want -/
structure MetF (K : W.Frag) (mg : Str → Option Value) : Prop where
  ex : ∃ fd, FnP K "_law_met" sLMet fd ∧ Binds K fd ["_law_call"] []
  kp : W.keepIn K (.ref (He.ga K "_law_met")) = true
  gl : mg "_law_met" = some (.ref (He.ga K "_law_met"))
  row : XRow K
  nam : XNam K mg
/-- _law_met(lambda: ..) -/
theorem pe_met {X : Cx} {T : List (Addr × Str)} {c P : Addr} {k : Nat} {params : Arguments} {body : Expr} {scope : Scope} {t : XK → TE} {p lpos pos : Pos} (K : W.Frag) (hK : X.K = K) (MF : MetF X.K X.mg) (hG : X.A.guards = some []) (TB : LamX.TabB X.base X.mg c P) (hcode : X.env.code = .ref c)
    (hmT : (P, X.env.qual ++ "<lambda>") ∈ T) (hu : ∀ p ∈ T, p.1 = P → p.2 = X.env.qual ++ "<lambda>") (hr : Room (k + 2) X.A) (hg : Gl X "_law_met") (L : LamX.LamS X.env.scope scope) (hdef : defaultsOf params X.env = ([], []))
    (hbind : ∀ (q : Str) (cl : List (Str × Addr)) (pm cv ctv : Value), bindArgs (PySem.W.kla_fn "<lambda>" q params body scope cl pm cv ctv) ⟨[], []⟩ = pure [])
    (hbody : ∀ (A : Around) (outer : List Env) (s : Shared) (H : Hp) (E : XK) (f c' : Addr), Room k (A.deeper (LamX.lamEnv X scope s.heap.objs.size f c')) → PE (LamX.lamCx X A outer s H E scope f c') body (t E)) :
    PE X (.Call (.Name "_law_met" p) [.Lambda params body scope lpos] [] pos) (LamX.tLam T (TTMet K) t) := by
  subst hK
  obtain ⟨fd, FM, b⟩ := MF.ex
  obtain ⟨oc, od, dV, kV, doc, pm, an, cdv, ct, osl, rfl, lk, hcd, _, _⟩ := FM.ex
  exact LamX.pe_lamcall hg MF.gl MF.kp lk hcd b LMet rfl (.inl rfl) (met_gives MF.row MF.nam) TB hcode hmT hu hr L hdef hbind hbody
end TM
end

section
set_option maxHeartbeats 4000000
namespace TM
open PySem PySem.Spec PyProof.Rows L2 EW
abbrev NJudged : List Str := ["_law_dice_here", "_law_value"]
theorem Judged : FnScope NJudged ["_law_dice_here"] (defScope sJudged) := ⟨rfl, rfl, rfl, by decide +kernel, rfl, by decide +kernel, by decide +kernel⟩
def spJudged (PT : PT2) : Sp := fun vs H Q _ => ∃ (di : Addr) (n : Int), vs = [.ref di] ∧ Dc H di n ∧ n + 1000 ≤ 1000000 ∧ ∀ H' : Hp, EW.Kept di H H' → Dc H' di (n + 1000) → Q (.bl true) H'
theorem shr_one {d : Dv} (h : d.shr = true) : d.shr1 = true := by
  cases d <;> first | rfl | exact h
section
variable {P : Program} {w : World} {K : W.Frag} {mg : Str → Option Value} {base : Heap}
theorem ok_judged {fd : FuncData} (F : FnP K "_law_judged_right" sJudged fd) (T : Fre mg) (fRepr : mg "repr" = none) {PT : PT2} (D_law_word : Df P w K mg base 3 "_law_word" ["_law_dice_here"] spWord) (D_law_odd : Df P w K mg base 3 "_law_odd" ["_law_dice_here"] (spOdd K)) (D_law_near_kind : Df P w K mg base 4 "_law_near_kind" ["_law_dice_here"] (spNKind K))
    (D_law_near_shape : Df P w K mg base 5 "_law_near_shape" ["_law_dice_here"] (spNShape K)) (Dis_name : Df P w K mg base 1 "is_name" ["value"] (spName K)) (Dis_kind : Df P w K mg base 3 "is_kind" ["value"] (spKind K)) (Dis_shape : Df P w K mg base 4 "is_shape" ["value"] (spIsShape K))
    (D_law_is_name : Df P w K mg base 1 "_law_is_name" ["_law_value"] (spName K)) (D_law_is_kind : Df P w K mg base 2 "_law_is_kind" ["_law_value"] (spKind K)) (D_law_is_shape : Df P w K mg base 3 "_law_is_shape" ["_law_value"] (spIsShape K)) :
    FnG P w K mg base CX0 8 (He.ga K "_law_judged_right") fd ["_law_dice_here"] (spJudged PT) := by
  refine okG F Judged (fun vs H Q E h => ?_) (fun cdv A outer s H vs Q E hr hG h => ?_)
  · obtain ⟨di, n, rfl, _⟩ := h
    rfl
  · obtain ⟨di, n, rfl, D, hn, k⟩ := h
    have hbig : (1000 : Nat) ≤ sizeLine := by decide
    obtain ⟨ds0, hds0⟩ := D.lst
    refine ⟨_, PSs.nox (pss_cons (ps_cut (ps_for PassesOwn.never rfl (pi_listK (K := K) rfl (pe_lstS (pa_cons (pe_df D_law_word (hr.mono (by decide)) rfl (pa_cons (pv 0) pa_nil)) (pa_cons (pe_df D_law_odd (hr.mono (by decide)) rfl (pa_cons (pv 0) pa_nil)) (pa_cons (pe_df D_law_near_kind (hr.mono (by decide)) rfl (pa_cons (pv 0) pa_nil)) (pa_cons (pe_df D_law_near_shape (hr.mono (by decide)) rfl (pa_cons (pv 0) pa_nil)) (pa_cons (pe_df D_law_word (hr.mono (by decide)) rfl (pa_cons (pv 0) pa_nil)) pa_nil))))))) (pg_name (i := 1) Judged.nd rfl (Or.inl rfl)) (pss_cons (ps_if (PW.pt (pw_or (pt_cmpR op_ne (pe_callB EW.call_repr_bl (by rfl) fRepr EW.boot_repr (pa_cons (pe_df Dis_name (hr.mono (by decide)) rfl (pa_cons (pv 1) pa_nil)) pa_nil)) (pe_callB EW.call_repr_bl (by rfl) fRepr EW.boot_repr (pa_cons (pe_df D_law_is_name (hr.mono (by decide)) rfl (pa_cons (pv 1) pa_nil)) pa_nil)) (nomark _)) (pw_or1 (pt_cmpR op_ne (pe_callB EW.call_repr_bl (by rfl) fRepr EW.boot_repr (pa_cons (pe_df Dis_kind (hr.mono (by decide)) rfl (pa_cons (pv 1) pa_nil)) pa_nil)) (pe_callB EW.call_repr_bl (by rfl) fRepr EW.boot_repr (pa_cons (pe_df D_law_is_kind (hr.mono (by decide)) rfl (pa_cons (pv 1) pa_nil)) pa_nil)) (nomark _))))) (pss_one (ps_ret pe_bl)) pss_nil)
      (pss_one (ps_if (pt_cmpR op_ne (pe_callB EW.call_repr_bl (by rfl) fRepr EW.boot_repr (pa_cons (pe_df Dis_shape (hr.mono (by decide)) rfl (pa_cons (pv 1) pa_nil)) pa_nil)) (pe_callB EW.call_repr_bl (by rfl) fRepr EW.boot_repr (pa_cons (pe_df D_law_is_shape (hr.mono (by decide)) rfl (pa_cons (pv 1) pa_nil)) pa_nil)) (nomark _)) (pss_one (ps_ret pe_bl)) pss_nil)))))
      (pss_one (ps_ret pe_bl))), ?_⟩
    refine ⟨fun σ' H' => ∃ u1 : Option V, σ' = [some (.ref di), u1] ∧ EW.Kept di H H' ∧ Dc H' di (n + 1000), ?_, ?_⟩
    · refine ⟨_, rfl, nil_ ⟨di, _, rfl, D, by omega, fun z1 H1 hz1 k1 D1 => ⟨_, rfl, nil_ ⟨di, _, rfl, D1, by omega, fun v2 H2 o2 k2 D2 => ⟨_, rfl, nil_ ⟨di, _, rfl, D2, by omega, fun v3 H3 o3 k3 D3 _ => ⟨_, rfl, nil_ ⟨di, _, rfl, D3, by omega, fun v4 H4 o4 k4 D4 => ⟨_, rfl, nil_ ⟨di, _, rfl, D4, by omega, fun z5 H5 hz5 k5 D5 => ?_⟩⟩⟩⟩⟩⟩⟩⟩⟩⟩
      refine ⟨(by show 5 ≤ sizeLine; omega), fun q6 H6 n6 s6 e6 => ?_⟩
      obtain ⟨ds2, hds2⟩ := D2.lst
      obtain ⟨ds3, hds3⟩ := D3.lst
      obtain ⟨ds4, hds4⟩ := D4.lst
      obtain ⟨ds5, hds5⟩ := D5.lst
      have facts : AllO K H6 [.str z1, v2, v3, v4, .str z5] := by
        refine .cons (.str_ (by omega)) (.cons ?_ (.cons ?_ (.cons ?_ (.cons (.str_ (by omega)) .nil))))
        · exact (o2.kept hds2 hds5 (k3.trans (k4.trans k5))).same s6
        · exact (o3.kept hds3 hds5 (k4.trans k5)).same s6
        · exact (o4.kept hds4 hds5 k5).same s6
      have k06 := k1.trans (k2.trans (k3.trans (k4.trans (k5.trans (kept_of s6)))))
      have D6 := D5.same s6
      refine ⟨q6, rfl, ⟨_, SqL.of e6⟩, ?_⟩
      refine for_list (xs := [.str z1, v2, v3, v4, .str z5]) (fun i σ' H' => ∃ u1 : Option V, σ' = [some (.ref di), u1] ∧ Same H6 H') ⟨none, rfl, Same.refl _⟩ ?_ ?_ ?_
      · rintro i σ' H' _ ⟨_, _, s7⟩
        exact SqL.of (s7 _ _ e6)
      · rintro i x σ' H7 hx ⟨u1, rfl, s7⟩
        obtain ⟨dw, hdw, hok⟩ := facts x (List.mem_of_getElem? hx)
        have hdw := hdw.same s7
        have hav := hdw.av
        have hsh := hok.shr
        refine ⟨_, rfl, dw.dv, x, rfl, hav, shr_one hsh, fun H8 s8 => ⟨_, rfl, ?_⟩⟩
        refine ⟨_, rfl, dw.dv, x, rfl, hav.same s8, shr_one hsh, fun H9 s9 => ⟨_, rfl, rfl, _, rfl, ?_⟩⟩
        refine iteN (by simp) ?_
        have s79 := s8.trans s9
        refine ⟨_, rfl, dw.dv, x, rfl, hav.same s79, hsh, fun H10 s10 => ⟨_, rfl, ?_⟩⟩
        refine ⟨_, rfl, dw.dv, x, rfl, hav.same (s79.trans s10), hsh, fun H11 s11 => ⟨_, rfl, rfl, _, rfl, ?_⟩⟩
        refine iteN (by simp) ?_
        have s711 := s79.trans (s10.trans s11)
        refine ⟨_, rfl, x, dw, rfl, hdw.same s711, hok, fun H12 s12 => ⟨_, rfl, ?_⟩⟩
        refine ⟨_, rfl, x, dw, rfl, hdw.same (s711.trans s12), hok, fun H13 s13 => ⟨_, rfl, rfl, _, rfl, ?_⟩⟩
        exact iteN (by simp) ⟨_, rfl, s7.trans (s711.trans (s12.trans s13))⟩
      · rintro σ' H7 ⟨u1, rfl, s7⟩
        exact ⟨u1, rfl, k06.trans (kept_of s7), (D6.same s7).mono (by omega)⟩
    rintro σ' H1 ⟨u1, rfl, k1, D1⟩
    exact k H1 k1 D1
end
end TM
end

section
set_option maxHeartbeats 4000000
set_option exponentiation.threshold 4000
namespace L2
theorem Room.u100 {k : Nat} {A : PySem.Around} (r : Room k A) : A.units + 100 < PySem.cLine := by
  have := r.un
  omega
end L2
namespace TM
open PySem PySem.Spec PyProof.Rows L2 EW
abbrev NRowsRt : List Str := ["_law_dice_here", "_law_shape_here", "_law_row_here", "_law_wrong", "_law_value", "_law_due", "_law_size", "_law_one", "_law_told"]
theorem RowsRt : FnScope NRowsRt ["_law_dice_here"] (defScope sRowsRt) := ⟨rfl, rfl, rfl, by decide +kernel, rfl, by decide +kernel, by decide +kernel⟩
def spRowsRt (PT : PT2) : Sp := fun vs H Q _ => ∃ (di : Addr) (n : Int), vs = [.ref di] ∧ Dc H di n ∧ n + 50 ≤ 1000000 ∧ LamX.Tabs (LT PT) H ∧ ∀ H' : Hp, EW.KeptN di H H' → Dc H' di (n + 50) → LamX.Tabs (LT PT) H' → Q (.bl true) H'
theorem dc_ext {H H' : Hp} {d : Addr} {n : Int} (h : Dc H d n) (e : LamX.ExtN H H') : Dc H' d n := by
  obtain ⟨g, b, c, h1, r⟩ := h
  exact ⟨g, b, c, ext_lst e h1, r⟩
theorem ext_upd {H H2 H3 : Hp} {l : Addr} {o : HO} (e1 : LamX.ExtN H H2) (n : H2 l = none) (e2 : LamX.ExtN H2 H3) : LamX.ExtN H (upd H3 l o) := fun b w e t => by
  have h := e1 b w e t
  rw [upd_ne (fun z => by rw [z, n] at h; cases h)]
  exact e2 b w h t
theorem tabs_kept {H H' : Hp} {d : Addr} {T : List (Addr × Str)} {xs : List V} (t : LamX.Tabs T H) (h : H d = some (.lst xs)) (k : EW.Kept d H H') : LamX.Tabs T H' := fun p hp => by
  obtain ⟨ps, h1, h2, h3⟩ := t p hp
  refine ⟨ps, k _ _ (fun z => ?_) h1, h2, fun pos cv hc => ?_⟩
  · rw [z, h] at h1
    cases h1
  · obtain ⟨c, e1, e2⟩ := h3 pos cv hc
    refine ⟨c, e1, k _ _ (fun z => ?_) e2⟩
    rw [z, h] at e2
    have e2 := Option.some.inj e2
    unfold LamX.CodeO at e2
    cases e2
theorem rep_nat {K : W.Frag} {H : Hp} {n : Nat} (h : n ≤ 10000000000000000000000000000000000000000) : RepV K H (.int (n : Int)) (Str.ofString (toString (n : Int))) := by
  refine .int _ ?_ ?_
  · show n.log2 < 1920
    by_cases c : n = 0
    · subst c
      decide
    · rw [Nat.log2_lt c]
      exact Nat.lt_of_le_of_lt h (by decide)
  · rw [TL.len_tl, TL.tl_num]
    exact Nat.le_trans (TL.numL_len (k := 50) (by decide) (Nat.lt_of_le_of_lt h (by decide))) (by decide)
theorem absMax_nn : ∀ l : List Int, 0 ≤ absMax l
  | [] => Int.le_refl _
  | t :: r => by
    have := absMax_nn r
    show 0 ≤ max _ _
    omega
theorem absMax_le {M : Nat} : ∀ l : List Int, (∀ t ∈ l, t.natAbs ≤ M) → absMax l ≤ M
  | [], _ => Int.natCast_nonneg _
  | t :: r, h => by
    have h1 := absMax_le r fun x hx => h x (List.mem_cons_of_mem _ hx)
    have h2 := h t List.mem_cons_self
    show max (t.natAbs : Int) (absMax r) ≤ M
    omega
/-- the greatest of 0 and the absolute values -/
theorem absMax_of {l : List Int} {m : Int} (hm : m ∈ 0 :: l.map fun t : Int => if t < 0 then -t else t) (hu : ∀ y ∈ 0 :: l.map fun t : Int => if t < 0 then -t else t, y ≤ m) : m = absMax l := by
  have up : ∀ l : List Int, ∀ t ∈ l, (t.natAbs : Int) ≤ absMax l := by
    intro l
    induction l with
    | nil => intro t h; cases h
    | cons x r ih =>
      intro t h
      show _ ≤ max (x.natAbs : Int) (absMax r)
      rcases List.mem_cons.mp h with e | h
      · rw [e]; omega
      · have := ih t h
        omega
  have lo : ∀ l : List Int, absMax l = 0 ∨ ∃ t ∈ l, absMax l = (t.natAbs : Int) := by
    intro l
    induction l with
    | nil => exact .inl rfl
    | cons x r ih =>
      have e : absMax (x :: r) = max (x.natAbs : Int) (absMax r) := rfl
      rcases Int.le_total (absMax r) (x.natAbs : Int) with h | h
      · exact .inr ⟨x, List.mem_cons_self, by omega⟩
      · rcases ih with h0 | ⟨t, ht, e2⟩
        · exact .inl (by omega)
        · exact .inr ⟨t, List.mem_cons_of_mem _ ht, by omega⟩
  have ab : ∀ t : Int, (if t < 0 then -t else t) = (t.natAbs : Int) := fun t => by split <;> omega
  refine Int.le_antisymm ?_ ?_
  · rcases List.mem_cons.mp hm with e | h
    · rw [e]; exact absMax_nn l
    · obtain ⟨t, ht, e⟩ := List.mem_map.mp h
      rw [← e, ab]
      exact up l t ht
  · rcases lo l with e | ⟨t, ht, e⟩
    · rw [e]; exact hu 0 List.mem_cons_self
    · rw [e, ← ab]
      exact hu _ (List.mem_cons_of_mem _ (List.mem_map.mpr ⟨t, ht, rfl⟩))
theorem ints_small {l : List Dv} (h : l.all Dv.sm1 = true) : absMax (intsD l) ≤ ((10000000000000000000000000000000000000000 : Nat) : Int) := absMax_le _ fun t ht => by
  obtain ⟨d, hd, e⟩ := List.mem_filterMap.mp ht
  have := List.all_eq_true.mp h d hd
  cases d <;> first | cases e | skip
  exact of_decide_eq_true this
section
variable {P : Program} {w : World} {K : W.Frag} {mg : Str → Option Value} {base : Heap}
theorem ok_rowsRt {fd : FuncData} (F : FnP K "_law_rows_right" sRowsRt fd) (T : Fre mg) (fRepr : mg "repr" = none) (MF : MetF K mg) {cR : Addr} {PT : PT2} (hne : TNe PT) (hcdR : fd.code = .ref cR) (TBR : LamX.TabB base mg cR PT) (D_law_shape : Df P w K mg base 3 "_law_shape" ["_law_dice_here", "_law_most"] (spShapeL K)) (D_law_row : Df P w K mg base 3 "_law_row" ["_law_dice_here", "_law_shape_here"] (spRow K))
    (D_law_pick : Df P w K mg base 2 "_law_pick" ["_law_dice_here", "_law_items"] (spPick K)) (D_law_odd : Df P w K mg base 3 "_law_odd" ["_law_dice_here"] (spOdd K)) (D_law_bent : Df P w K mg base 3 "_law_bent" ["_law_dice_here", "_law_row_here"] (spBent K)) (D_law_is_row : Df P w K mg base 1 "_law_is_row" ["_law_shape_here", "_law_value"] (spLRow K))
    (Dis_row : DfX P w K mg base 6 "is_row" ["shape", "value"] (spIsRow K)) (Dsize_of : DfX P w K mg base 6 "size_of" ["shape", "row"] (spSizeOf K)) :
    FnG P w K mg base CX0 14 (He.ga K "_law_rows_right") fd ["_law_dice_here"] (spRowsRt PT) := by
  refine okGC F hcdR RowsRt (fun vs H Q E h => ?_) (fun A outer s H vs Q E hr hG h => ?_)
  · obtain ⟨di, n, rfl, _⟩ := h
    rfl
  · obtain ⟨di, n, rfl, D, hn, hT, k⟩ := h
    have hbig : (1000 : Nat) ≤ sizeLine := by decide
    obtain ⟨ds0, hds0⟩ := D.lst
    have hlm : (PT, (cxOf CX0 P w K mg base NRowsRt "_law_rows_right" (defScope sRowsRt) (He.ga K "_law_rows_right") (.ref cR) A outer s H E).env.qual ++ "<lambda>") ∈ LT PT := List.mem_cons_self
    have hlu : ∀ p ∈ LT PT, p.1 = PT → p.2 = (cxOf CX0 P w K mg base NRowsRt "_law_rows_right" (defScope sRowsRt) (He.ga K "_law_rows_right") (.ref cR) A outer s H E).env.qual ++ "<lambda>" := fun p hp hq => by rw [List.mem_singleton.mp hp]; rfl
    refine ⟨_, PSs.nox (pss_cons (ps_set (i := 1) RowsRt.nd rfl (Or.inr rfl) (pe_df D_law_shape (hr.mono (by decide)) rfl (pa_cons (pv 0) (pa_cons pe_int pa_nil))))
      (pss_cons (ps_cut (ps_asg (pe_tupS (pa_cons (pe_df D_law_row (hr.mono (by decide)) rfl (pa_cons (pv 0) (pa_cons (pv 1) pa_nil))) (pa_cons (pe_df D_law_pick (hr.mono (by decide)) rfl (pa_cons (pv 0) (pa_cons (pe_lstS (pa_cons pe_non (pa_cons (pe_tupS pa_nil) (pa_cons (pe_lstS pa_nil) (pa_cons (pe_disp (pps_cons pe_str pe_str pps_nil) rfl rfl (fun z => nomatch z) (by decide)) (pa_cons (pe_disp (pps_cons pe_str pe_str pps_nil) rfl rfl (fun z => nomatch z) (by decide)) (pa_cons pe_int (pa_cons (pe_disp (pps_cons pe_str pe_str pps_nil) rfl rfl (fun z => nomatch z) (by decide)) pa_nil)))))))) pa_nil))) pa_nil))) (pg_tup rfl (pgs_cons (pg_name (i := 2) RowsRt.nd rfl (Or.inr rfl)) (pgs_cons (pg_name (i := 3) RowsRt.nd rfl (Or.inr rfl)) pgs_nil)))))
      (pss_cons (ps_cut (ps_for PassesOwn.never rfl (pi_listK (K := K) rfl (pe_op op_catS (pe_lstS (pa_cons (pv 2) (pa_cons (pe_df D_law_odd (hr.mono (by decide)) rfl (pa_cons (pv 0) pa_nil)) pa_nil))) (pe_df D_law_bent (hr.mono (by decide)) rfl (pa_cons (pv 0) (pa_cons (pv 2) pa_nil))))) (pg_name (i := 4) RowsRt.nd rfl (Or.inr rfl)) (pss_cons (ps_set (i := 5) RowsRt.nd rfl (Or.inl rfl) (pe_df D_law_is_row (hr.mono (by decide)) rfl (pa_cons (pv 1) (pa_cons (pv 4) pa_nil))))
      (pss_cons (ps_if (pt_cmpR op_ne (pe_callB EW.call_repr_bl (by rfl) fRepr EW.boot_repr (pa_cons (pe_dfX Dis_row (hr.mono (by decide)) (by exact LamX.takes0) rfl (pa_cons (pv 1) (pa_cons (pv 4) pa_nil))) pa_nil)) (pe_callB EW.call_repr_bl (by rfl) fRepr EW.boot_repr (pa_cons (pv 5) pa_nil)) (nomark _)) (pss_one (ps_ret pe_bl)) pss_nil)
      (pss_cons (ps_cut (ps_set (i := 6) RowsRt.nd rfl (Or.inl rfl) (pe_ifExp (pt_val (pv 5)) (pe_callB (EW.cr_max1 K rfl rfl) (by rfl) T.max EW.boot_max (pa_cons (pe_op op_catS (pe_lstS (pa_cons pe_int pa_nil)) (pe_lc (own := [("_law_one", 7)]) (g := gName 7) (tt := _) (by rfl) RowsRt.nd (pi_tupK (K := K) rfl (pv 4)) (blkOk_by (own := [("_law_one", 7)]) (N := NRowsRt) (sc := defScope sRowsRt) (by decide +kernel)) (fun _ _ _ _ _ => (pg_name (i := 7) RowsRt.nd rfl (Or.inl rfl))) (fun _ _ _ _ _ => (pts_one (pt_not (pt_val (pe_callB (call_isiE K rfl) (by rfl) T.isinstance EW.boot_isinstance (pa_cons (pv 7) (pa_cons (pe_bltn (v := .ty "str") rfl T.str EW.boot_str rfl) pa_nil))))))) (fun _ _ _ _ _ => (pe_callB call_abs (by rfl) T.abs EW.boot_abs (pa_cons (pv 7) pa_nil))))) pa_nil)) pe_str)))
      (pss_one (ps_cut (ps_if (pt_cmpR op_ne (pe_callB (EW.call_reprWK K rfl (by exact hG) hr.u100) (by rfl) fRepr EW.boot_repr (pa_cons (pe_met (k := 11) K rfl MF (by exact hG) TBR rfl hlm hlu (hr.mono (by decide)) rfl (LamX.lamS_by (by rfl)) rfl (fun _ _ _ _ _ => rfl) (fun A outer s H E f c' hr' => (pe_dfX Dsize_of (hr'.mono (by decide)) (by exact takes_lam) rfl (pa_cons (pv 1) (pa_cons (pv 4) pa_nil))))) pa_nil)) (pe_callB (EW.call_reprWK K rfl (by exact hG) hr.u100) (by rfl) fRepr EW.boot_repr (pa_cons (pv 6) pa_nil)) (nomark _)) (pss_one (ps_ret pe_bl)) pss_nil))))))))
      (pss_cons (ps_cut (ps_set (i := 8) RowsRt.nd rfl (Or.inl rfl) (pe_lstS (pa_cons (pe_met (k := 11) K rfl MF (by exact hG) TBR rfl hlm hlu (hr.mono (by decide)) rfl (LamX.lamS_by (by rfl)) rfl (fun _ _ _ _ _ => rfl) (fun A outer s H E f c' hr' => (pe_dfX Dis_row (hr'.mono (by decide)) (by exact takes_lam) rfl (pa_cons (pv 3) (pa_cons (pv 2) pa_nil))))) pa_nil))))
      (pss_cons (ps_cut (ps_expr (pe_bm PySem.F.plainAttrs_list PySem.F.slot_list_append PySem.F.type_list_append mt_append (pv 8) (pa_cons (pe_met (k := 11) K rfl MF (by exact hG) TBR rfl hlm hlu (hr.mono (by decide)) rfl (LamX.lamS_by (by rfl)) rfl (fun _ _ _ _ _ => rfl) (fun A outer s H E f c' hr' => (pe_dfX Dsize_of (hr'.mono (by decide)) (by exact takes_lam) rfl (pa_cons (pv 3) (pa_cons pe_non pa_nil))))) pa_nil))))
      (pss_one (ps_ret (pe_cmpR (EW.op_eqStrK hr.units) (pv 8) (pe_op op_repS (pe_lstS (pa_cons pe_str pa_nil)) pe_int) (nomark _))))))))), ?_⟩
    refine ⟨_, rfl, di, 2, n, rfl, D, by omega, by decide, by decide, fun us S H1 nu hS dr ht k1 D1 => ?_⟩
    have so := dr.ok
    have S5 : S.length ≤ 5 := by
      have := so.tms
      have := so.few
      omega
    obtain ⟨ds1, hds1⟩ := D1.lst
    refine ⟨fun σ' H' => ∃ (r : Addr) (l : List Dv) (wr : V) (dw : Dw), σ' = [some (.ref di), some (.ref us), some (.ref r), some wr, none, none, none, none, none] ∧ EW.Kept di H H' ∧ Dc H' di (n + 31) ∧ ShpAt K H' (.ref us) S ∧ RowD K H' S r l ∧ Aw K H' dw wr ∧ dw.ok ∧ shapeW dw = false, ?_, ?_⟩
    · refine ⟨_, rfl, _, rfl, nil_ ⟨di, .ref us, S, _, rfl, D1, by omega, hS, so, fun r l H2 k2 D2 hr2 => ⟨_, rfl, (by show 0 ≤ sizeLine; omega), fun a3 H3 n3 s3 e3 => ⟨(by show 0 ≤ sizeLine; omega), fun a4 H4 n4 s4 e4 => ?_⟩⟩⟩⟩
      refine fun p5 n5 => ⟨upd_same, [(.inr "now", .str "time")], rfl, (by show 1 ≤ 15; decide), ?_⟩
      have s5 := dispS (kvs := mergeK [] [(.inr "now", .str "time")]) n5 (Same.refl _)
      have e5 : (upd (upd H4 p5 (.dK [])) p5 (.dK (mergeK [] [(.inr "now", .str "time")]))) p5 = some (.dK [(.inr "now", .str "time")]) := upd_same
      generalize (upd (upd H4 p5 (.dK [])) p5 (.dK (mergeK [] [(.inr "now", .str "time")]))) = H5 at s5 e5 ⊢
      refine fun p6 n6 => ⟨upd_same, [(.inr "a", .str "b")], rfl, (by show 1 ≤ 15; decide), ?_⟩
      have s6 := dispS (kvs := mergeK [] [(.inr "a", .str "b")]) n6 (Same.refl _)
      have e6 : (upd (upd H5 p6 (.dK [])) p6 (.dK (mergeK [] [(.inr "a", .str "b")]))) p6 = some (.dK [(.inr "a", .str "b")]) := upd_same
      generalize (upd (upd H5 p6 (.dK [])) p6 (.dK (mergeK [] [(.inr "a", .str "b")]))) = H6 at s6 e6 ⊢
      refine fun p7 n7 => ⟨upd_same, [(.inr "A", .str "time")], rfl, (by show 1 ≤ 15; decide), ?_⟩
      have s7 := dispS (kvs := mergeK [] [(.inr "A", .str "time")]) n7 (Same.refl _)
      have e7 : (upd (upd H6 p7 (.dK [])) p7 (.dK (mergeK [] [(.inr "A", .str "time")]))) p7 = some (.dK [(.inr "A", .str "time")]) := upd_same
      generalize (upd (upd H6 p7 (.dK [])) p7 (.dK (mergeK [] [(.inr "A", .str "time")]))) = H7 at s7 e7 ⊢
      refine ⟨(by show 7 ≤ sizeLine; omega), fun q8 H8 n8 s8 e8 => nil_ ?_⟩
      have s78 := s7.trans s8
      have s68 := s6.trans s78
      have s58 := s5.trans s68
      have s48 := s4.trans s58
      have s28 := s3.trans s48
      have facts : ∀ v ∈ [V.non, .ref a3, .ref a4, .ref p5, .ref p6, .int 5, .ref p7], ∃ dw, Aw K H8 dw v ∧ dw.ok ∧ shapeW dw = false := fun v hv => by
        simp only [List.mem_cons, List.not_mem_nil, or_false] at hv
        rcases hv with rfl | rfl | rfl | rfl | rfl | rfl | rfl
        · exact ⟨.val .non, ⟨.non_, rfl⟩, ⟨rfl, rfl⟩, rfl⟩
        · exact ⟨.val (.tup []), ⟨.tup_ (SqT.of (s48 _ _ e3)) .nil, rfl⟩, ⟨rfl, rfl⟩, rfl⟩
        · exact ⟨.val .lst, ⟨.lst_ (s58 _ _ e4), rfl⟩, ⟨rfl, rfl⟩, rfl⟩
        · exact ⟨.dic [(.inr "now", .str "time")], ⟨p5, _, rfl, s68 _ _ e5, .cons ⟨rfl, .str_ _⟩ .nil⟩, dic1_ok (by decide) fun z h => by cases h; decide, by decide +kernel⟩
        · exact ⟨.dic [(.inr "a", .str "b")], ⟨p6, _, rfl, s78 _ _ e6, .cons ⟨rfl, .str_ _⟩ .nil⟩, dic1_ok (by decide) fun z h => by cases h; decide, by decide +kernel⟩
        · exact ⟨.val (.int 5), ⟨.int_ 5, rfl⟩, ⟨rfl, rfl⟩, rfl⟩
        · exact ⟨.dic [(.inr "A", .str "time")], ⟨p7, _, rfl, s8 _ _ e7, .cons ⟨rfl, .str_ _⟩ .nil⟩, dic1_ok (by decide) fun z h => by cases h; decide, by decide +kernel⟩
      have D8 := D2.same s28
      refine ⟨di, q8, _, _, rfl, D8, by omega, .inl ⟨SqL.of e8, (D2.same (s3.trans (s4.trans (s5.trans (s6.trans s7))))).nn n8⟩, (by show 0 < 7; omega), (by show 7 < 1000; omega), fun wr H9 hwr k9 D9 => ?_⟩
      obtain ⟨dw, f1, f2, f3⟩ := facts wr hwr
      obtain ⟨ds2, hds2⟩ := D2.lst
      obtain ⟨ds8, hds8⟩ := D8.lst
      obtain ⟨ds9, hds9⟩ := D9.lst
      refine ⟨(by show 2 ≤ sizeLine; omega), fun qa HA nA sA eA => ?_⟩
      have k29 := (kept_of (d := di) s28).trans (k9.trans (kept_of sA))
      obtain ⟨dsA, hdsA⟩ := (D9.same sA).lst
      refine ⟨qa, _, rfl, SqT.of eA, rfl, _, _, rfl, _, _, rfl, rfl, ?_⟩
      refine ⟨r, l, wr, dw, rfl, k1.trans (k2.trans k29), (D9.same sA).mono (by omega), hS.kept hds1 (k2.trans k29), ⟨hr2.1.kept hds2 hdsA k29, hr2.2⟩, ?_, f2, f3⟩
      have := f1.kept hds8 hds9 k9
      exact this.same sA
    rintro σ' H2 ⟨r, l, wr, dw, rfl, k2, D2, hS2, hr2, hw2, hok, hbad⟩
    clear hS k1 D1 hds1 ds1
    refine ⟨fun σ' H' => ∃ u4 u5 u6 u7 : Option V, σ' = [some (.ref di), some (.ref us), some (.ref r), some wr, u4, u5, u6, u7, none] ∧ EW.KeptN di H H' ∧ Dc H' di (n + 50) ∧ LamX.Tabs (LT PT) H' ∧ ShpAt K H' (.ref us) S ∧ RowD K H' S r l ∧ Aw K H' dw wr, ?_, ?_⟩
    · obtain ⟨ds2, hds2⟩ := D2.lst
      refine ⟨_, rfl, _, rfl, nil_ ⟨di, _, rfl, D2, by omega, fun v3 H3 o3 k3 D3 => ⟨(by show 2 ≤ sizeLine; omega), fun q4 H4 n4 s4 e4 => ?_⟩⟩⟩
      have q4d : q4 ≠ di := D3.nn n4
      have D4 := D3.same s4
      obtain ⟨ds3, hds3⟩ := D3.lst
      obtain ⟨ds4, hds4⟩ := D4.lst
      have k24 := k3.trans (kept_of s4)
      have lr : l.length ≤ 5 := by
        have := (rowA_val hr2.2.1).1
        omega
      refine ⟨_, rfl, _, rfl, nil_ ⟨di, r, l, _, rfl, D4, by omega, hr2.1.kept hds2 hds4 k24, hr2.2.2, lr, fun fl xs H5 k5 D5 fd' e5 a5 x5 => ?_⟩⟩
      obtain ⟨ds5, hds5⟩ := D5.lst
      refine ⟨q4, fl, _, _, rfl, rfl, k5 _ _ q4d e4, e5, by show 2 + _ ≤ sizeLine; omega, fun q6 H6 n6 s6 e6 => ?_⟩
      have k26 := k24.trans (k5.trans (kept_of s6))
      have D6 := D5.same s6
      obtain ⟨ds6, hds6⟩ := D6.lst
      have hS6 := hS2.kept hds2 k26
      have hr6 : Av K H6 (.tup l) (.ref r) := hr2.1.kept hds2 hds6 k26
      have hw6 := hw2.kept hds2 hds6 k26
      have tH6 : LamX.Tabs (LT PT) H6 := tabs_kept hT hds0 (k2.trans k26)
      have a6 : AllA K H6 ([.ref r, v3] ++ xs) := by
        refine (AllA.cons ⟨_, hr6, all_sml hr2.2.2⟩ (.cons ?_ .nil)).app (a5.same s6)
        obtain ⟨dw3, g1, g2⟩ := o3
        have g3 : dw3.dv.sml = true := by
          cases dw3 with
          | val d => exact g2.2
          | dic es => rfl
        exact ⟨dw3.dv, ((g1.av.same s4).kept hds4 hds5 k5).same s6, g3⟩
      refine ⟨q6, rfl, ⟨_, SqL.of e6⟩, ?_⟩
      refine for_list (xs := [.ref r, v3] ++ xs) (fun i σ' H' => ∃ u4 u5 u6 u7 : Option V, σ' = [some (.ref di), some (.ref us), some (.ref r), some wr, u4, u5, u6, u7, none] ∧ LamX.ExtN H6 H' ∧ LamX.Tabs (LT PT) H') ⟨none, none, none, none, rfl, .refl _, tH6⟩ ?_ ?_ ?_
      · rintro i σ' H' _ ⟨_, _, _, _, _, e7, _⟩
        exact SqL.of (ext_lst e7 e6)
      · rintro i x σ' H7 hx ⟨u4, u5, u6, u7, rfl, x7, t7⟩
        obtain ⟨dv, hdv0, hdm⟩ := a6 x (List.mem_of_getElem? hx)
        have hdv := hdv0.ext x7
        have hS7 := shp_ext hS6 x7
        refine ⟨_, rfl, _, rfl, nil_ ⟨.ref us, x, S, dv, rfl, hS7, so, hdv, fun H8 s8 => ?_⟩⟩
        refine ⟨_, rfl, _, rfl, nil_ (.inl ⟨.ref us, x, S, dv, rfl, hS7.same s8, so, hdv.same s8, fun H9 s9 => ⟨_, rfl, _, rfl, _, rfl, rfl, _, rfl, ?_⟩⟩)⟩
        refine iteN (by simp) ?_
        have s79 := s8.trans s9
        refine ⟨fun σ' H' => ∃ (sz : V) (u7 : Option V), σ' = [some (.ref di), some (.ref us), some (.ref r), some wr, some x, some (.bl (rowA S dv)), some sz, u7, none] ∧ Same H7 H' ∧ (∀ l, dv = .tup l → rowA S dv = true → sz = .int (absMax (intsD l))) ∧ (rowA S dv = false → sz = .str "operation"), ?_, ?_⟩
        · refine ⟨_, rfl, _, rfl, ?_⟩
          by_cases cr : rowA S dv = true
          rotate_left
          · have cr' : rowA S dv = false := by simpa using cr
            rw [cr']
            refine iteF ⟨_, _, rfl, s79, fun l e h => ?_, fun _ => rfl⟩
            cases h
          rw [cr]
          have c : dv.isT = true := by cases dv <;> first | rfl | cases cr
          obtain ⟨ls, rfl⟩ := tup_of c
          obtain ⟨a, ys, rfl, hA, hl⟩ := (hdv.same s79).tup_inv
          have lln := (rowA_val cr).1
          have yln := hl.len
          refine iteT ⟨(by show 1 ≤ sizeLine; omega), fun qb HB nB sB eB => ⟨_, rfl, a, rfl, ⟨_, SqT.same hA sB⟩, fun D' hD => ?_⟩⟩
          refine loop_tup (xs := ys) (fun i H' => H' D' = some (.lst (((intsD (ls.take i)).map fun t : Int => if t < 0 then -t else t).map V.int)) ∧ Same HB H') ⟨upd_same, upd_new hD⟩ ?_ ?_ ?_
          · rintro i HC _ ⟨_, sC⟩
            exact SqT.same (SqT.same hA sB) sC
          · rintro i v HC hv ⟨eC, sC⟩
            obtain ⟨dd, hdd, hav⟩ := hl.get hv
            have hi : i < ls.length := (List.getElem?_eq_some_iff.mp hdd).1
            have hav := hav.same (sB.trans sC)
            refine ⟨rfl, ?_⟩
            have et : ls.take (i + 1) = ls.take i ++ [dd] := by rw [List.take_add_one, hdd]; rfl
            have il : (intsD (ls.take i)).length ≤ 5 := by
              refine Nat.le_trans (List.length_filterMap_le _ _) ?_
              rw [List.length_take]
              omega
            refine ⟨_, rfl, v, _, .type dd.cl, _, dd.isS, rfl, .ty "str", hav.ty, avS dd, _, rfl, ?_⟩
            -- what stands at a column of the row
            obtain ⟨n0, hn0⟩ : ∃ n0, (Zr.names S)[i]? = some n0 := ⟨_, List.getElem?_eq_getElem (by rw [names_len]; omega)⟩
            have hval := (rowA_val cr).2 i n0 dd hn0 hdd
            cases dd with
            | str z =>
              refine iteN rfl ⟨?_, sC⟩
              rw [eC, et]
              simp [intsD]
            | int t =>
              rw [Av] at hav
              subst hav
              refine iteD rfl ⟨_, rfl, t, rfl, _, eC, by rw [List.length_map, List.length_map]; omega, ?_, same_upd sC hD⟩
              rw [upd_same, et]
              simp [intsD]
            | _ =>
              exfalso
              revert hval
              cases kindOf S n0 <;> exact fun z => by cases z
          · rintro HC ⟨eC, sC⟩
            rw [yln, List.take_length] at eC
            have il : (intsD ls).length ≤ 5 := Nat.le_trans (List.length_filterMap_le _ _) (by omega)
            refine ⟨qb, D', _, _, rfl, rfl, sC _ _ eB, eC, by rw [List.length_map, List.length_map]; show 1 + _ ≤ sizeLine; omega, fun qd HD nD sD eD => nil_ ⟨qd, 0 :: (intsD ls).map fun t : Int => if t < 0 then -t else t, rfl, SqL.of eD, by rw [List.length_cons]; omega, fun m hm hu => ?_⟩⟩
            refine ⟨_, _, rfl, s79.trans (sB.trans (sC.trans sD)), fun l e h => ?_, fun h => by cases h⟩
            cases e
            rw [absMax_of hm hu]
        rintro σ' HA ⟨sz, v7, rfl, sA, z1, z2⟩
        refine ⟨fun σ' H' => ∃ u4 u5 u6 u7 : Option V, σ' = [some (.ref di), some (.ref us), some (.ref r), some wr, u4, u5, u6, u7, none] ∧ LamX.ExtN H6 H' ∧ LamX.Tabs (LT PT) H', ?_, fun _ _ h => h⟩
        refine ⟨t7.ext sA, fun HB eB tB => ⟨_, rfl, _, rfl, nil_ (.inl ⟨.ref us, x, S, dv, rfl, shp_ext (hS7.same sA) eB, so, (hdv.same sA).ext eB, fun hf => rse_op fun HC sC => ?_, fun ls e hf HC sC => ?_⟩)⟩⟩
        · have ez := z2 hf
          subst ez
          refine ⟨_, _, rfl, .old (.str "operation" (by decide +kernel)), _, rfl, _, _, rfl, .old (.str "operation" (by decide +kernel)), rfl, _, rfl, ?_⟩
          exact iteN (by simp) ⟨_, _, _, _, rfl, x7.trans (same_ext sA (ext_same eB sC)), tB.ext sC⟩
        · have ez := z1 ls e hf
          subst ez
          have hsm : ls.all Dv.sm1 = true := by rw [e] at hdm; exact hdm
          obtain ⟨m, hm⟩ : ∃ m : Nat, absMax (intsD ls) = (m : Int) := ⟨(absMax (intsD ls)).toNat, by have := absMax_nn (intsD ls); omega⟩
          have hm2 : m ≤ 10000000000000000000000000000000000000000 := by
            have := ints_small hsm
            omega
          rw [hm]
          refine ⟨_, _, rfl, .old (rep_nat hm2), _, rfl, _, _, rfl, .old (rep_nat hm2), rfl, _, rfl, ?_⟩
          exact iteN (by simp) ⟨_, _, _, _, rfl, x7.trans (same_ext sA (ext_same eB sC)), tB.ext sC⟩
      · rintro σ' H7 ⟨u4, u5, u6, u7, rfl, x7, t7⟩
        refine ⟨u4, u5, u6, u7, rfl, keptN_ext (k2.trans k26) x7, ?_, t7, shp_ext hS6 x7, ⟨hr6.ext x7, hr2.2⟩, hw6.ext x7⟩
        exact dc_ext (D6.mono (by omega)) x7
    rintro σ' H3 ⟨u4, u5, u6, u7, rfl, k3, D3, t3, hS3, hr3, hw3⟩
    refine ⟨fun σ' H' => ∃ (tl : Addr) (H0 : Hp), σ' = [some (.ref di), some (.ref us), some (.ref r), some wr, u4, u5, u6, u7, some (.ref tl)] ∧ LamX.ExtN H3 H0 ∧ H0 tl = none ∧ LamX.ExtN H0 H' ∧ LamX.Tabs (LT PT) H' ∧ H' tl = some (.lst [.str "shape"]), ?_, ?_⟩
    · refine ⟨t3, fun H4 e4 t4 => ⟨_, rfl, _, rfl, nil_ (.inr ⟨wr, .ref r, dw, rfl, hw3.ext e4, hok, hbad, rse_shape fun H5 s5 => nil_ ⟨(by show 1 ≤ sizeLine; omega), fun tl H6 n6 s6 q6 => ?_⟩⟩)⟩⟩
      exact ⟨tl, H5, rfl, ext_same e4 s5, n6, .of s6, (t4.ext s5).ext s6, q6⟩
    rintro σ' H4 ⟨tl, H0, rfl, e0, n0, e4, t4, q4⟩
    refine ⟨fun σ' H' => σ' = [some (.ref di), some (.ref us), some (.ref r), some wr, u4, u5, u6, u7, some (.ref tl)] ∧ LamX.ExtN H0 H' ∧ LamX.Tabs (LT PT) H' ∧ H' tl = some (.lst [.str "shape", .str "shape"]), ?_, ?_⟩
    · refine ⟨_, rfl, .inl ⟨rfl, _, SqL.of q4⟩, t4, fun H5 e5 t5 => ⟨_, rfl, (.inr ⟨wr, .non, dw, rfl, hw3.ext (e0.trans (e4.trans e5)), hok, hbad, rse_shape fun H6 s6 => ?_⟩)⟩⟩
      have q6 := ext_lst (ext_same e5 s6) q4
      exact nil_ ⟨tl, _, _, rfl, rfl, q6, (by show 1 < sizeLine; omega), rfl, ext_upd (.refl _) n0 (e4.trans (ext_same e5 s6)), tabs_lst (t5.ext s6) q6, upd_same⟩
    rintro σ' H5 ⟨rfl, e5, t5, q5⟩
    refine ⟨_, rfl, (by show 1 ≤ sizeLine; omega), fun m H6 n6 s6 q6 => ⟨m, 2, _, rfl, rfl, q6, by decide, by decide, (by show 1 * 2 ≤ sizeLine; omega), fun m2 H7 n7 s7 q7 => ?_⟩⟩
    have s57 := s6.trans s7
    refine ⟨tl, m2, ["shape", "shape"], ["shape", "shape"], rfl, rfl, s57 _ _ q5, q7, ?_⟩
    have x37 := ext_same (e0.trans e5) s57
    exact k H7 (fun a o na h nt => x37 _ _ (k3 a o na h nt) nt) (dc_ext D3 x37) (t5.ext s57)
end
end TM
end

section
set_option maxHeartbeats 4000000
/-! EwTupStr: tuple(text). -/
namespace EW
open PySem PySem.Spec PyProof.Rows L2
def signsV (z : Str) : List V := z.cps.toList.map fun c => V.str ⟨#[c]⟩
theorem cr_tupStr {X : Cx} (K : W.Frag) (h : X.K = K) (hc : X.calm = true) : CallR X (.type "tuple") (fun xs H Q => ∃ z : Str, xs = [.str z] ∧ z.length ≤ 1000 ∧ New H (fun _ => .tup (signsV z)) Q) := by
  intro pins s σ H xs us Q I r h
  obtain ⟨z, rfl, hz, q⟩ := h
  cases r with
  | cons rx rn =>
    cases rn
    obtain ⟨t, rfl⟩ := rx
    have hbig : (1000 : Nat) ≤ sizeLine := by decide
    have hz' : z.cps.size ≤ 1000 := hz
    refine call_tuple_str (I.ok.hd hc) z t (fun h' tk acc kp hacc => ?_) (by omega)
    have I1 : Inv X pins σ H { s with heap := h', toks := tk } := I.kept (t' := tk) kp
    have hlen : (signsV z).length = acc.toList.length := by
      unfold signsV
      rw [List.length_map, Array.length_toList, Array.length_toList, hacc.1]
    have hv : Vals (signsV z) acc.toList := vals_of_idx _ _ hlen.symm fun j u hu => by
      rw [Array.getElem?_toList] at hu
      obtain ⟨c, t', h1, h2⟩ := hacc.2 j u hu
      refine ⟨.str ⟨#[c]⟩, ?_, ?_⟩
      · unfold signsV
        rw [List.getElem?_map, Array.getElem?_toList, h1]
        rfl
      · rw [h2]
        exact ⟨t', rfl⟩
    have hl : (signsV z).length ≤ sizeLine := by
      unfold signsV
      rw [List.length_map, Array.length_toList]
      omega
    have I2 : Inv X pins σ (upd H h'.objs.size (.tup (signsV z))) { s with heap := h'.push { cls := .type "tuple", data := .seq acc.toList.toArray }, toks := tk } :=
      I1.laid (t' := tk) (fun b o e => Heap.get?_push_of_some _ e) (Nat.le_refl _) (show ObjOk X.prog X.w _ _ _ (.tup (signsV z)) from ⟨hl, acc.toList, hv, IsTup.new _ _⟩)
    rw [Array.toArray_toList] at I2
    exact ⟨.ref h'.objs.size, _, I2, rfl, q.at (I1.hok.fresh (Nat.le_refl _))⟩
end EW
end

section
set_option maxHeartbeats 4000000
namespace TM
open PySem PySem.Spec PyProof.Rows L2 EW
abbrev NLaw : List Str := ["_law_script", "_law_spot", "_law_dice_here", "_law_turn", "_law_two", "_law_told"]
theorem Law : FnScope NLaw ["_law_script"] (defScope sLaw) := ⟨rfl, rfl, rfl, by decide +kernel, rfl, by decide +kernel, by decide +kernel⟩
theorem kn_new {H H1 H2 : Hp} {d : Addr} (s : Same H H1) (n : H d = none) (k : EW.KeptN d H1 H2) : LamX.ExtN H H2 := fun b o e t => k b o (fun z => by rw [z, n] at e; cases e) (s b o e) t
theorem kn_trans {H H1 H2 : Hp} {d : Addr} (k1 : EW.KeptN d H H1) (k2 : EW.KeptN d H1 H2) : EW.KeptN d H H2 := fun a o n e t => k2 a o n (k1 a o n e t) t
theorem kn_kept {H H1 : Hp} {d : Addr} (k1 : EW.Kept d H H1) : EW.KeptN d H H1 := fun a o n e t => k1 a o n e
theorem tabs_nil {PT : PT2} {H : Hp} (h : ∀ q ∈ LT PT, H q.1 = some (.tbl #[])) : LamX.Tabs (LT PT) H := fun q hq => LamX.TabS.nil (h q hq)
def spLaw (K : W.Frag) (PT : PT2) : Sp := fun vs H Q _ => ∃ (a : Addr) (ns : List Int), vs = [.ref a] ∧ SqL K H a (ns.map V.int) ∧ ns.length ≤ 63 ∧ LamX.Tabs (LT PT) H ∧ ∀ H', Q (.bl true) H'
abbrev S2 : Shp := [("a", .time), ("b", .time), ("c", .dom ["p"]), ("d", .dom ["p"]), ("e", .dom ["p", "q"])]
theorem s2_tms : tms S2 = (["a", "b"] : List Str) := (srt_eq (m := ["a", "b"]) (List.Perm.refl _) (by decide +kernel)).symm
theorem s2_names : Zr.names S2 = (["a", "b", "c", "d", "e"] : List Str) := (srt_eq (m := ["a", "b", "c", "d", "e"]) (List.Perm.refl _) (by decide +kernel)).symm
theorem dom_p : DomOk ["p"] := ⟨by decide, by decide, by decide +kernel, by decide +kernel⟩
theorem dom_pq : DomOk ["p", "q"] := ⟨by decide, by decide, by decide +kernel, by decide +kernel⟩
theorem s2_ok : ShpOk S2 where
  nd := by decide +kernel
  nam := by
    intro q hq
    simp only [List.mem_cons, List.not_mem_nil, or_false] at hq
    rcases hq with rfl | rfl | rfl | rfl | rfl <;> exact ⟨by decide +kernel, by decide +kernel⟩
  dom := by
    intro q hq l e
    simp only [List.mem_cons, List.not_mem_nil, or_false] at hq
    rcases hq with rfl | rfl | rfl | rfl | rfl <;> cases e
    · exact dom_p
    · exact dom_p
    · exact dom_pq
  tms := by rw [s2_tms]; decide
  few := by rw [s2_tms]; decide
  all := by decide
theorem s0_ok : ShpOk [] := ⟨by decide, (fun q h => nomatch h), (fun q h => nomatch h), by simp [tms, srt], by simp [tms, srt], by decide⟩
abbrev row2 : List Dv := [.int (-((10 : Int) ^ (11 : Int).toNat)), .int 3, .str "p", .str "p", .str "q"]
theorem row2_ok : rowA S2 (.tup row2) = true := by
  show valsA S2 (Zr.names S2) _ = true
  rw [s2_names]
  decide +kernel
theorem row2_sz : absMax (intsD row2) = (10 : Int) ^ (11 : Int).toNat := by decide +kernel
theorem row0_ok : rowA [] (.tup []) = true := by
  show valsA [] (Zr.names []) _ = true
  rw [show Zr.names [] = [] by simp [Zr.names, srt]]
  rfl
abbrev es2 : Des := [(.inr "a", .str "time"), (.inr "b", .str "time"), (.inr "c", .tup [.str "p"]), (.inr "d", .tup [.str "p"]), (.inr "e", .tup [.str "p", .str "q"])]
def lettersD (z : Str) : List Dv := z.cps.toList.map fun c => Dv.str ⟨#[c]⟩
theorem avl_letters {K : W.Frag} {H : Hp} (z : Str) : AvL K H (lettersD z) (signsV z) := by
  unfold lettersD signsV
  generalize z.cps.toList = l
  induction l with
  | nil => exact .nil
  | cons c l ih => exact .cons (.str_ _) ih
section
variable {P : Program} {w : World} {K : W.Frag} {mg : Str → Option Value} {base : Heap}
theorem ok_law {fd : FuncData} (F : FnP K "law" sLaw fd) (T : Fre mg) (G : Glb K mg) {PT : PT2} (D_law_dice : Df P w K mg base 1 "_law_dice" ["_law_script", "_law_spot"] (spDice K)) (D_law_judged_right : DfG P w K mg base 8 "_law_judged_right" ["_law_dice_here"] (spJudged PT)) (D_law_rows_right : DfG P w K mg base 14 "_law_rows_right" ["_law_dice_here"] (spRowsRt PT))
    (Dis_shape : Df P w K mg base 4 "is_shape" ["value"] (spIsShape K)) (Dis_kind : Df P w K mg base 3 "is_kind" ["value"] (spKind K)) (Dis_name : Df P w K mg base 1 "is_name" ["value"] (spName K)) (Dsize_of : DfX P w K mg base 6 "size_of" ["shape", "row"] (spSizeOf K)) : FnG P w K mg base CX0 15 (He.ga K "law") fd ["_law_script"] (spLaw K PT) := by
  refine okG F Law (fun vs H Q E h => ?_) (fun cdv A outer s H vs Q E hr hG h => ?_)
  · obtain ⟨a, ns, rfl, _⟩ := h
    rfl
  · obtain ⟨a, ns, rfl, hS, hlen, hT, k⟩ := h
    have hbig : (64 : Nat) ≤ sizeLine := by decide
    refine ⟨_, PSs.nox (pss_cons (ps_for PassesOwn.never rfl (pi_range1 rfl T.range (pa_cons (pe_callB (call_max2 rfl) (by rfl) T.max EW.boot_max (pa_cons pe_int (pa_cons (pe_callB (call_min2 rfl) (by rfl) T.min EW.boot_min (pa_cons pe_int (pa_cons (pe_callB (call_lenK K rfl) (by rfl) T.len PySem.boot_len (pa_cons (pv 0) pa_nil)) pa_nil))) pa_nil))) pa_nil)) (pg_name (i := 1) Law.nd rfl (Or.inl rfl)) (pss_cons (ps_set (i := 2) Law.nd rfl (Or.inl rfl) (pe_df D_law_dice (hr.mono (by decide)) rfl (pa_cons (pv 0) (pa_cons (pv 1) pa_nil))))
      (pss_one (ps_for PassesOwn.never rfl (pi_range1 rfl T.range (pa_cons pe_int pa_nil)) (pg_name (i := 3) Law.nd rfl (Or.inl rfl)) (pss_one (ps_if (PW.pt (pw_or (pt_not (pt_val (pe_dfG D_law_judged_right (hr.mono (by decide)) (by exact hG) rfl (pa_cons (pv 2) pa_nil)))) (pw_or1 (pt_not (pt_val (pe_dfG D_law_rows_right (hr.mono (by decide)) (by exact hG) rfl (pa_cons (pv 2) pa_nil))))))) (pss_one (ps_ret pe_bl)) pss_nil))))))
      (pss_cons (ps_cut (ps_if (pt_cmpR (op_neDK K rfl hr.units) (pe_lstS (pa_cons (pe_glob (v := .str "time") rfl G.time.choose_spec ⟨_, rfl⟩) (pa_cons (pe_glob (v := .int 2) rfl G.mt.choose_spec ⟨_, rfl⟩) (pa_cons (pe_glob (v := .int 3) rfl G.md.choose_spec ⟨_, rfl⟩) pa_nil)))) (pe_lstS (pa_cons pe_str (pa_cons pe_int (pa_cons pe_int pa_nil)))) (nomark _)) (pss_one (ps_ret pe_bl)) pss_nil))
      (pss_cons (ps_cut (ps_set (i := 4) Law.nd rfl (Or.inl rfl) (pe_disp (pps_cons pe_str pe_str (pps_cons pe_str pe_str (pps_cons pe_str (pe_tupS (pa_cons pe_str pa_nil)) (pps_cons pe_str (pe_tupS (pa_cons pe_str pa_nil)) (pps_cons pe_str (pe_tupS (pa_cons pe_str (pa_cons pe_str pa_nil))) pps_nil))))) rfl rfl (fun z => nomatch z) (by decide))))
      (pss_cons (ps_cut (ps_set (i := 5) Law.nd rfl (Or.inl rfl) (pe_lstS (pa_cons (pe_df Dis_shape (hr.mono (by decide)) rfl (pa_cons (pv 4) pa_nil)) (pa_cons (pe_df Dis_shape (hr.mono (by decide)) rfl (pa_cons pe_dnewS pa_nil)) (pa_cons (pe_df Dis_shape (hr.mono (by decide)) rfl (pa_cons (pe_callTy (call_dictP rfl) (by rfl) T.dict EW.boot_dict (pa_cons (pe_op op_catS (LiI.pe_listItems rfl (pv 4) (by rfl) T.list EW.boot_list) (pe_lstS (pa_cons (pe_tupS (pa_cons pe_str (pa_cons pe_str pa_nil))) pa_nil))) pa_nil)) pa_nil)) pa_nil))))))
      (pss_cons (ps_cut (ps_expr (pe_bm PySem.F.plainAttrs_list PySem.F.slot_list_append PySem.F.type_list_append mt_append (pv 5) (pa_cons (pe_df Dis_shape (hr.mono (by decide)) rfl (pa_cons (pe_callTy (call_dictP rfl) (by rfl) T.dict EW.boot_dict (pa_cons (pe_op op_catS (LiI.pe_listItems rfl (pv 4) (by rfl) T.list EW.boot_list) (pe_lstS (pa_cons (pe_tupS (pa_cons pe_str (pa_cons (pe_tupS (pa_cons pe_str pa_nil)) pa_nil))) pa_nil))) pa_nil)) pa_nil)) pa_nil))))
      (pss_cons (ps_cut (ps_set (i := 5) Law.nd rfl (Or.inl rfl) (pe_op op_catS (pv 5) (pe_lstS (pa_cons (pe_df Dis_kind (hr.mono (by decide)) rfl (pa_cons (pe_callTy (EW.cr_tupStr K rfl rfl) (by rfl) T.tuple EW.boot_tuple (pa_cons pe_str pa_nil)) pa_nil)) (pa_cons (pe_df Dis_kind (hr.mono (by decide)) rfl (pa_cons (pe_callTy (EW.cr_tupStr K rfl rfl) (by rfl) T.tuple EW.boot_tuple (pa_cons pe_str pa_nil)) pa_nil)) pa_nil))))))
      (pss_cons (ps_cut (ps_set (i := 5) Law.nd rfl (Or.inl rfl) (pe_op op_catS (pv 5) (pe_lstS (pa_cons (pe_df Dis_name (hr.mono (by decide)) rfl (pa_cons pe_str pa_nil)) (pa_cons (pe_df Dis_name (hr.mono (by decide)) rfl (pa_cons pe_str pa_nil)) (pa_cons (pe_dfX Dsize_of (hr.mono (by decide)) (by exact LamX.takes0) rfl (pa_cons pe_dnewS (pa_cons (pe_tupS pa_nil) pa_nil))) pa_nil)))))))
      (pss_cons (ps_cut (ps_expr (pe_bm PySem.F.plainAttrs_list PySem.F.slot_list_append PySem.F.type_list_append mt_append (pv 5) (pa_cons (pe_dfX Dsize_of (hr.mono (by decide)) (by exact LamX.takes0) rfl (pa_cons (pv 4) (pa_cons (pe_tupS (pa_cons (pe_un un_neg (pe_op op_powW pe_int pe_int)) (pa_cons pe_int (pa_cons pe_str (pa_cons pe_str (pa_cons pe_str pa_nil)))))) pa_nil))) pa_nil))))
      (pss_one (ps_ret (pe_cmpR (op_eqDK K rfl hr.units) (pv 5) (pe_lstS (pa_cons pe_bl (pa_cons pe_bl (pa_cons pe_bl (pa_cons pe_bl (pa_cons pe_bl (pa_cons pe_bl (pa_cons pe_bl (pa_cons pe_bl (pa_cons pe_int (pa_cons (pe_op op_powW pe_int pe_int) pa_nil))))))))))) (nomark _)))))))))))), ?_⟩
    refine ⟨_, rfl, _, (ns.map V.int).length, rfl, Or.inl ⟨_, hS, rfl⟩, _, _, rfl, _, _, rfl, _, rfl, ?_, ?_, ?_⟩
    · split <;> split <;> omega
    · rw [List.length_map]
      split <;> split <;> omega
    refine for_range (lo := 0) (fun i σ' H' => ∃ u1 u2 u3 : Option V, σ' = [some (.ref a), u1, u2, u3, none, none] ∧ LamX.ExtN H H' ∧ LamX.Tabs (LT PT) H') ⟨_, _, _, rfl, LamX.ExtN.refl H, hT⟩ ?_ ?_
    · rintro i σ' H1 hi ⟨u1, u2, u3, rfl, e1, t1⟩
      refine ⟨_, rfl, _, rfl, a, ns, _, rfl, sqL_ext hS e1, by omega, fun d H2 nd s2 D2 => ?_⟩
      refine ⟨_, rfl, by decide, by decide, ?_⟩
      refine for_range (lo := 0) (n := 3) (fun j σ' H' => ∃ u3 : Option V, σ' = [some (.ref a), some (.int (0 + (i : Int))), some (.ref d), u3, none, none] ∧ EW.KeptN d H2 H' ∧ Dc H' d (1050 * (j : Int)) ∧ LamX.Tabs (LT PT) H') ⟨_, rfl, kn_kept (EW.Kept.refl _ _), D2.mono (by omega), t1.ext s2⟩ ?_ ?_
      · rintro j σ' H3 hj ⟨u3, rfl, k3, D3, t3⟩
        obtain ⟨ds3, hds3⟩ := D3.lst
        refine ⟨_, rfl, d, _, rfl, D3, by omega, fun H4 k4 D4 => ⟨_, rfl, iteF ?_⟩⟩
        have t4 := tabs_kept t3 hds3 k4
        refine ⟨_, rfl, d, _, rfl, D4, by omega, t4, fun H5 k5 D5 t5 => ⟨_, rfl, iteF ?_⟩⟩
        exact ⟨_, rfl, kn_trans k3 (kn_trans (kn_kept k4) k5), D5.mono (by omega), t5⟩
      · rintro σ' H3 ⟨u3, rfl, k3, D3, t3⟩
        exact ⟨_, _, _, rfl, e1.trans (kn_new s2 nd k3), t3⟩
    rintro σ' H1 ⟨u1, u2, u3, rfl, _, _⟩
    refine ⟨fun σ' H' => ∃ u1 u2 u3 : Option V, σ' = [some (.ref a), u1, u2, u3, none, none], ?_, ?_⟩
    · refine ⟨(by show 3 ≤ sizeLine; omega), fun q2 H2 n2 s2 e2 => ⟨(by show 3 ≤ sizeLine; omega), fun q3 H3 n3 s3 e3 => ?_⟩⟩
      have dl : ∀ {q : Addr}, H3 q = some (.lst [.str "time", .int 2, .int 3]) → Dp K H3 (.ref q) (.list [.str "time", .int 2, .int 3]) := fun h => .lst (SqL.of h) (.cons (.str _) (.cons (.int _) (.cons (.int _) .nil)))
      refine ⟨_, _, dl (s3 _ _ e2), dl e3, by decide +kernel, by decide +kernel, _, rfl, ?_⟩
      exact iteN (by decide +kernel) ⟨_, _, _, rfl⟩
    rintro σ' H2 ⟨u1, u2, u3, rfl⟩
    refine ⟨fun σ' H' => ∃ (tw : Addr) (kvs : List (Key × V)), σ' = [some (.ref a), u1, u2, u3, some (.ref tw), none] ∧ H' tw = some (.dK kvs) ∧ Ent K H' kvs S2, ?_, ?_⟩
    · refine fun p np => ⟨(by show 1 ≤ sizeLine; omega), fun t1 H3 n3 s3 e3 => ⟨(by show 1 ≤ sizeLine; omega), fun t2 H4 n4 s4 e4 => ⟨(by show 2 ≤ sizeLine; omega), fun t3 H5 n5 s5 e5 => ⟨(s3.trans (s4.trans s5)) _ _ upd_same, [(.inr "a", .str "time"), (.inr "b", .str "time"), (.inr "c", .ref t1), (.inr "d", .ref t2), (.inr "e", .ref t3)], rfl, (by show 5 ≤ 15; decide), ?_⟩⟩⟩⟩
      have ep := (s3.trans (s4.trans s5)) _ _ (upd_same (H := H2) (a := p) (o := .dK []))
      have ne : ∀ {t : Addr} {xs : List V}, H5 t = some (.tup xs) → upd H5 p (.dK (mergeK [] [(.inr "a", .str "time"), (.inr "b", .str "time"), (.inr "c", .ref t1), (.inr "d", .ref t2), (.inr "e", .ref t3)])) t = some (.tup xs) := fun {t xs} h => by
        rw [upd_ne (fun z => by rw [z, ep] at h; cases h)]
        exact h
      refine ⟨p, _, rfl, upd_same, ?_⟩
      exact .cons ⟨rfl, rfl⟩ (.cons ⟨rfl, rfl⟩ (.cons ⟨rfl, Tp.of (ne ((s4.trans s5) _ _ e3))⟩ (.cons ⟨rfl, Tp.of (ne (s5 _ _ e4))⟩ (.cons ⟨rfl, Tp.of (ne e5)⟩ .nil))))
    rintro σ' H3 ⟨tw, kvs, rfl, hd, en⟩
    have ed := ent_des en
    have kk : kvs.map (·.1) = [.inr "a", .inr "b", .inr "c", .inr "d", .inr "e"] := dent_keys ed
    have hu : ∀ {H'}, Same H3 H' → ShpAt K H' (.ref tw) S2 := fun s => ShpAt.same ⟨tw, kvs, rfl, hd, en⟩ s
    -- a column more
    have more : ∀ {H4 H5 H6 : Hp} {lm q : Addr} {ts : List Addr} {x : V} {d6 : Dv}, Same H3 H4 → Paired (fun (t : Addr) (q : Key × V) => H4 t = some (.tup [kV q.1, q.2])) ts kvs → Same H4 H5 → H5 q = some (.tup [.str "f", x]) → Av K H5 d6 x → d6.shr = true → Same H5 H6 → H6 lm = some (.lst (ts.map V.ref ++ [.ref q])) →
        SqL K H6 lm ((ts ++ [q]).map V.ref) ∧ Paired (fun p kv => SqT K H6 p [kV kv.1, kv.2]) (ts ++ [q]) (kvs ++ [((.inr "f" : Key), x)]) ∧ (∀ f, H6 f = none → Same H6 (upd H6 f (.dK (mergeK [] (kvs ++ [((.inr "f" : Key), x)])))) ∧ Aw K (upd H6 f (.dK (mergeK [] (kvs ++ [((.inr "f" : Key), x)])))) (.dic (desOf S2 ++ [(.inr "f", d6)])) (.ref f)) ∧ (Dw.dic (desOf S2 ++ [(.inr "f", d6)])).ok := by
      intro H4 H5 H6 lm q ts x d6 s4 pts s5 eq hx hsh s6 el
      have nd : ((kvs ++ [((.inr "f" : Key), x)]).map (·.1)).Nodup := by
        rw [List.map_append, kk]
        show ([.inr "a", .inr "b", .inr "c", .inr "d", .inr "e", .inr "f"] : List Key).Nodup
        decide +kernel
      have em : mergeK [] (kvs ++ [((.inr "f" : Key), x)]) = kvs ++ [((.inr "f" : Key), x)] := (mergeK_new _ [] (fun _ _ => rfl) nd).trans (List.nil_append _)
      rw [em]
      refine ⟨SqL.of (by rw [List.map_append]; exact el), pr_append (Paired.mono (fun _ _ h => SqT.of ((s5.trans s6) _ _ h)) pts) (.cons (SqT.of (s6 _ _ eq)) .nil), fun f nf => ⟨upd_new nf, ⟨f, _, rfl, upd_same, pr_append (DEnt.same ed (s4.trans (s5.trans (s6.trans (upd_new nf))))) (.cons ⟨rfl, hx.same (s6.trans (upd_new nf))⟩ .nil)⟩⟩, ?_⟩
      obtain ⟨o1, o2, o3⟩ := des_ok s2_ok.w (by decide)
      refine ⟨?_, by rw [List.length_append]; show 5 + 1 < 60; decide, fun e he => ?_⟩
      · rw [List.map_append]
        show ([.inr "a", .inr "b", .inr "c", .inr "d", .inr "e", .inr "f"] : List Key).Nodup
        decide +kernel
      rcases List.mem_append.mp he with he | he
      · exact o3 e he
      · rw [List.mem_singleton.mp he]
        exact ⟨hsh, fun z e => by cases e; decide⟩
    refine ⟨fun σ' H' => ∃ tl : Addr, σ' = [some (.ref a), u1, u2, u3, some (.ref tw), some (.ref tl)] ∧ H3 tl = none ∧ Same H3 H' ∧ H' tl = some (.lst [.bl true, .bl true, .bl false]), ?_, ?_⟩
    · refine ⟨_, rfl, nil_ ⟨.ref tw, .dic (desOf S2), rfl, shpAt_aw (hu (Same.refl _)), des_ok s2_ok.w (by decide), fun H4 s4 => fun d5 H5 n5 s5 e5 => nil_ ⟨.ref d5, .dic [], rfl, ⟨d5, [], rfl, e5, .nil⟩, ⟨.nil, by decide, fun _ h => nomatch h⟩, fun H6 s6 => ?_⟩⟩⟩
      have s36 := s4.trans (s5.trans s6)
      refine ⟨_, rfl, tw, kvs, rfl, s36 _ _ hd, fun H7 l ts s7 nl nts nlt el pts => ⟨(by show 2 ≤ sizeLine; omega), fun q H8 n8 s8 e8 => ⟨(by show 1 ≤ sizeLine; omega), fun m H9 n9 s9 e9 => ⟨l, m, _, _, rfl, rfl, (s8.trans s9) _ _ el, e9, ?_, fun lm HA nA sA eA => nil_ ?_⟩⟩⟩⟩
      · have := Paired.length pts
        have k5 : kvs.length = 5 := by have := congrArg List.length kk; rw [List.length_map] at this; exact this
        rw [List.length_map]
        show ts.length + 1 ≤ sizeLine
        omega
      refine ⟨lm, ts ++ [q], kvs ++ [((.inr "f" : Key), .str "time")], rfl, ?_⟩
      obtain ⟨f1, f2, f3, f4⟩ := more (s36.trans s7) pts s8 e8 (.str_ "time") (by decide) (s9.trans sA) eA
      refine ⟨f1, f2, fun f nf => nil_ ?_⟩
      obtain ⟨g1, g2⟩ := f3 f nf
      generalize upd HA f (.dK (mergeK [] (kvs ++ [((.inr "f" : Key), .str "time")]))) = HB at g1 g2 ⊢
      refine ⟨.ref f, _, rfl, g2, f4, fun HC sC => nil_ ⟨(by show 3 ≤ sizeLine; omega), fun tl HD nD sD eD => ?_⟩⟩
      rw [show shapeW (.dic (desOf S2)) = true from des_shape s2_ok, show shapeW (.dic []) = true from rfl, show shapeW (.dic (desOf S2 ++ [(.inr "f", .str "time")])) = false by decide +kernel] at eD
      have s7 : Same H6 H7 := s7
      have sCC := s36.trans (s7.trans (s8.trans (s9.trans (sA.trans (g1.trans sC)))))
      exact ⟨tl, rfl, free_of sCC nD, sCC.trans sD, eD⟩
    rintro σ' H4 ⟨tl, rfl, ntl, s4, q4⟩
    refine ⟨fun σ' H' => ∃ tl : Addr, σ' = [some (.ref a), u1, u2, u3, some (.ref tw), some (.ref tl)] ∧ Same H3 H' ∧ H' tl = some (.lst [.bl true, .bl true, .bl false, .bl false]), ?_, ?_⟩
    · refine ⟨_, rfl, .inl ⟨rfl, _, SqL.of q4⟩, ?_⟩
      refine ⟨_, rfl, tw, kvs, rfl, s4 _ _ hd, fun H7 l ts s7 nl nts nlt el pts => ⟨(by show 1 ≤ sizeLine; omega), fun q0 H6 n6 s6 e6 => ⟨(by show 2 ≤ sizeLine; omega), fun q H8 n8 s8 e8 => ⟨(by show 1 ≤ sizeLine; omega), fun m H9 n9 s9 e9 => ⟨l, m, _, _, rfl, rfl, (s6.trans (s8.trans s9)) _ _ el, e9, ?_, fun lm HA nA sA eA => nil_ ?_⟩⟩⟩⟩⟩
      · have := Paired.length pts
        have k5 : kvs.length = 5 := by have := congrArg List.length kk; rw [List.length_map] at this; exact this
        rw [List.length_map]
        show ts.length + 1 ≤ sizeLine
        omega
      obtain ⟨f1, f2, f3, f4⟩ := more (x := .ref q0) (d6 := .tup [.str "a"]) (s4.trans s7) pts (s6.trans s8) e8 (.tup_ (SqT.of (s8 _ _ e6)) (.cons (.str_ "a") .nil)) (by decide) (s9.trans sA) eA
      refine ⟨lm, ts ++ [q], kvs ++ [((.inr "f" : Key), V.ref q0)], rfl, f1, f2, fun f nf => nil_ ?_⟩
      obtain ⟨g1, g2⟩ := f3 f nf
      generalize upd HA f (.dK (mergeK [] (kvs ++ [((.inr "f" : Key), .ref q0)]))) = HB at g1 g2 ⊢
      have s7 : Same H4 H7 := s7
      have sB := s7.trans (s6.trans (s8.trans (s9.trans (sA.trans g1))))
      refine ⟨.ref f, _, rfl, g2, f4, fun HC sC => nil_ ?_⟩
      rw [show shapeW (.dic (desOf S2 ++ [(.inr "f", .tup [.str "a"])])) = false by decide +kernel]
      have eC := (sB.trans sC) _ _ q4
      refine ⟨tl, _, _, rfl, rfl, eC, (by show 3 < sizeLine; omega), tl, rfl, same_upd (s4.trans (sB.trans sC)) ntl, upd_same⟩
    clear q4 s4 ntl
    rintro σ' H4 ⟨tl, rfl, s4, q4⟩
    refine ⟨fun σ' H' => ∃ tl : Addr, σ' = [some (.ref a), u1, u2, u3, some (.ref tw), some (.ref tl)] ∧ Same H3 H' ∧ H' tl = some (.lst [.bl true, .bl true, .bl false, .bl false, .bl true, .bl false]), ?_, ?_⟩
    · refine ⟨_, rfl, ⟨"abcdefgh", rfl, by decide, fun p5 H5 n5 s5 e5 => nil_ ⟨.tup (lettersD "abcdefgh"), .ref p5, rfl, .tup_ (SqT.of e5) (avl_letters _), by decide +kernel, fun H6 s6 => ⟨"abcdefghi", rfl, by decide, fun p7 H7 n7 s7 e7 => nil_ ⟨.tup (lettersD "abcdefghi"), .ref p7, rfl, .tup_ (SqT.of e7) (avl_letters _), by decide +kernel, fun H8 s8 => nil_ ⟨(by show 2 ≤ sizeLine; omega), fun m H9 n9 s9 e9 => ?_⟩⟩⟩⟩⟩⟩
      rw [show kindA (.tup (lettersD "abcdefgh")) = true by decide +kernel, show kindA (.tup (lettersD "abcdefghi")) = false by decide +kernel] at e9
      have s49 := s5.trans (s6.trans (s7.trans (s8.trans s9)))
      refine ⟨tl, m, _, _, rfl, rfl, s49 _ _ q4, e9, (by show 4 + 2 ≤ sizeLine; omega), fun tl2 HA nA sA eA => ?_⟩
      exact ⟨tl2, rfl, s4.trans (s49.trans sA), eA⟩
    clear q4 s4
    rintro σ' H4 ⟨tl, rfl, s4, q4⟩
    refine ⟨fun σ' H' => ∃ tl : Addr, σ' = [some (.ref a), u1, u2, u3, some (.ref tw), some (.ref tl)] ∧ Same H3 H' ∧ H' tl = some (.lst [.bl true, .bl true, .bl false, .bl false, .bl true, .bl false, .bl true, .bl false, .int 0]), ?_, ?_⟩
    · refine ⟨_, rfl, ⟨.str "abcdefgh", _, rfl, .str_ _, by decide, fun H5 s5 => ⟨.str "abcdefghi", _, rfl, .str_ _, by decide, fun H6 s6 => ?_⟩⟩⟩
      refine fun d7 H7 n7 s7 e7 => ⟨(by show 0 ≤ sizeLine; omega), fun t8 H8 n8 s8 e8 => nil_ (.inl ⟨.ref d7, .ref t8, [], .tup [], rfl, ⟨d7, [], rfl, s8 _ _ e7, .nil⟩, s0_ok, .tup_ (SqT.of e8) .nil, (fun h => by rw [row0_ok] at h; cases h), fun l e _ H9 s9 => nil_ ⟨(by show 3 ≤ sizeLine; omega), fun m HA nA sA eA => ?_⟩⟩)⟩
      cases e
      rw [show nameA (.str "abcdefgh") = true by decide +kernel, show nameA (.str "abcdefghi") = false by decide +kernel] at eA
      have s4A := s5.trans (s6.trans (s7.trans (s8.trans (s9.trans sA))))
      refine ⟨tl, m, _, _, rfl, rfl, s4A _ _ q4, eA, (by show 6 + 3 ≤ sizeLine; omega), fun tl2 HB nB sB eB => ?_⟩
      exact ⟨tl2, rfl, s4.trans (s4A.trans sB), eB⟩
    clear q4 s4
    rintro σ' H4 ⟨tl, rfl, s4, q4⟩
    refine ⟨fun σ' H' => ∃ tl : Addr, σ' = [some (.ref a), u1, u2, u3, some (.ref tw), some (.ref tl)] ∧ H' tl = some (.lst [.bl true, .bl true, .bl false, .bl false, .bl true, .bl false, .bl true, .bl false, .int 0, .int ((10 : Int) ^ (11 : Int).toNat)]), ?_, ?_⟩
    · refine ⟨_, rfl, .inl ⟨rfl, _, SqL.of q4⟩, ?_⟩
      refine ⟨_, rfl, _, _, rfl, rfl, ⟨by decide, by decide⟩, _, rfl, (by show 5 ≤ sizeLine; omega), fun t5 H5 n5 s5 e5 => nil_ (.inl ⟨.ref tw, .ref t5, S2, .tup row2, rfl, hu (s4.trans s5), s2_ok, .tup_ (SqT.of e5) (.cons (.int_ _) (.cons (.int_ _) (.cons (.str_ _) (.cons (.str_ _) (.cons (.str_ _) .nil))))), (fun h => by rw [row2_ok] at h; cases h), fun l e _ H6 s6 => nil_ ?_⟩)⟩
      cases e
      rw [row2_sz]
      exact ⟨tl, _, _, rfl, rfl, (s5.trans s6) _ _ q4, (by show 9 < sizeLine; omega), tl, rfl, upd_same⟩
    clear q4 s4
    rintro σ' H4 ⟨tl, rfl, q4⟩
    refine ⟨_, rfl, _, _, rfl, rfl, ⟨by decide, by decide⟩, (by show 10 ≤ sizeLine; omega), fun m H5 n5 s5 e5 => ?_⟩
    have dl : ∀ {q : Addr}, H5 q = some (.lst [.bl true, .bl true, .bl false, .bl false, .bl true, .bl false, .bl true, .bl false, .int 0, .int ((10 : Int) ^ (11 : Int).toNat)]) → Dp K H5 (.ref q) (.list [.bool true, .bool true, .bool false, .bool false, .bool true, .bool false, .bool true, .bool false, .int 0, .int ((10 : Int) ^ (11 : Int).toNat)]) := fun h => .lst (SqL.of h) (.cons (.bl _) (.cons (.bl _) (.cons (.bl _) (.cons (.bl _) (.cons (.bl _) (.cons (.bl _) (.cons (.bl _) (.cons (.bl _) (.cons (.int _) (.cons (.int _) .nil))))))))))
    exact ⟨_, _, dl (s5 _ _ q4), dl e5, by decide +kernel, by decide +kernel, k H5⟩
end
end TM
end

section
set_option maxHeartbeats 4000000
namespace EW
open PySem PySem.Spec PyProof.Rows L2
section
variable {K : W.Frag} {h : Heap} {mg : Str → Option Value}
theorem klB_ok (X : K.In h) (G : h.Ns mainGlobals mg) {x : Str} (c : klB K x = true) : Kl K mg x := by
  obtain ⟨c1, c⟩ := He.ba c
  obtain ⟨c2, c⟩ := He.ba c
  obtain ⟨c3, c⟩ := He.ba c
  obtain ⟨c4, c⟩ := He.ba c
  obtain ⟨c5, c⟩ := He.ba c
  obtain ⟨c6, c⟩ := He.ba c
  obtain ⟨c7, c⟩ := He.ba c
  obtain ⟨c8, c⟩ := He.ba c
  obtain ⟨c9, c10⟩ := He.ba c
  exact ⟨He.glo_ok X G c1, He.mkr_ok c2, He.cls_ok c3, He.noat_ok c4, He.noat_ok c5, He.eqO_ok c6, He.eqO_ok c7, of_decide_eq_true c8, of_decide_eq_true c9, c10⟩
theorem propB_ok {C : Addr} {f : Str} (c : propB K C f = true) : PropOf K C f (He.ma K C f) (He5.wf K C "property" f) := by
  obtain ⟨c1, c⟩ := He.ba c
  obtain ⟨c2, c⟩ := He.ba c
  obtain ⟨c3, c4⟩ := He.ba c
  refine ⟨He.eqO_ok c1, He.eqO_ok c2, of_decide_eq_true c3, ?_⟩
  unfold He5.wf
  split at c4
  · rename_i f r e
    exact ⟨r, by rw [e]⟩
  · cases c4
theorem creadB_ok {C : Addr} (c : creadB K C = true) : ClX.CRead K C (.type "type") := by
  obtain ⟨c1, c2⟩ := He.ba c
  exact ⟨c1, He.eqO_ok c2⟩
theorem cmetB_ok {C : Addr} {m : Str} (c : cmetB K C m = true) : ClX.CMet K C (.type "type") m (He.ma K C m) (He5.wf K C "classmethod" m) := by
  obtain ⟨c1, c2⟩ := He.ba c
  exact He5.cmet_of c1 c2
theorem kitB1_ok {t u : Value} {b : Bool} (c : kitB1 K t u b = true) : W.kitOne K t u = some b := of_decide_eq_true c
theorem findB_ok {C : Addr} {m : Str} {id : String} (c : findB K C m id = true) : W.findIn K (.ref C) m = some (some (.builtin id)) := He.eqO_ok c
end
end EW
end

section
set_option maxHeartbeats 0
namespace TM
open PySem PySem.Spec PyProof.Rows L2 EW
theorem facts {P : Program} {w : World} {K : W.Frag} {h : Heap} {mg : Str → Option Value} {f : Addr} (X : K.In h) (G : h.Ns mainGlobals mg) (hfa : mg ("law" : Str) = some (.ref f)) (c : He5.SaysA fa fn K) (cx : exAll exl K = true) :
    noTabB K = true ∧ tabsNdB K [("_law_rows_right" : Str)] = true ∧ (∀ y ∈ ([("_law_rows_right" : Str)] : List Str), mg y = some (.ref (He.ga K y)) ∧ ∃ (o : Obj) (fd : FuncData), K.lookup (He.ga K y) = some o ∧ o.data = .func fd) ∧ ∀ cc pp : Str → Addr, (∀ y ∈ ([("_law_rows_right" : Str)] : List Str), ∀ (o : Obj) (fd : FuncData), K.lookup (He.ga K y) = some o → o.data = .func fd → fd.code = .ref (cc y)) → (([("_law_rows_right" : Str)] : List Str).map pp).Nodup →
      ∃ fd : FuncData, (∀ (s : Shared) (v : Value), BindsTo s fd ⟨[v], []⟩ [("_law_script", v)]) ∧ ∀ base : Heap, K.In base → base.Ns mainGlobals mg → (∀ y ∈ ([("_law_rows_right" : Str)] : List Str), LamX.TabB base mg (cc y) (pp y)) → FnG P w K mg base CX0 15 f fd ["_law_script"] (spLaw K (pp "_law_rows_right")) := by
  have x0 : (noTabB K) = true := exAll_at cx 0 (e := fun K => noTabB K) rfl
  have x1 : (tabsNdB K [("_law_rows_right" : Str)]) = true := exAll_at cx 1 (e := fun K => tabsNdB K [("_law_rows_right" : Str)]) rfl
  have x2 : (xmsgB K "InvalidShape") = true := exAll_at cx 2 (e := fun K => xmsgB K "InvalidShape") rfl
  have xS := xmsgB_ok X G x2
  have x3 : (xmsgB K "InvalidOperation") = true := exAll_at cx 3 (e := fun K => xmsgB K "InvalidOperation") rfl
  have xO := xmsgB_ok X G x3
  have x4 : (xrowB K) = true := exAll_at cx 4 (e := fun K => xrowB K) rfl
  have xR := xrowB_ok x4
  obtain ⟨fd0, F0⟩ : ∃ fd, FunD K "is_integer" "is_integer" (defArgs sIsInt) (defBody sIsInt) (defScope sIsInt) [] [] (He.ga K "is_integer") fd := c.def_ 0
  have b0 := FunD.bindsN (ps := ["value"]) F0 fun _ _ _ _ _ _ us hl => match us, hl with | [_], _ => rfl
  have g0 : mg "is_integer" = some (.ref (He.ga K "is_integer")) := He.glo_ok X G (c.fact 0 (f := .glo "is_integer") rfl)
  obtain ⟨fd1, F1⟩ : ∃ fd, FunD K "is_name" "is_name" (defArgs sIsName) (defBody sIsName) (defScope sIsName) [] [] (He.ga K "is_name") fd := c.def_ 1
  have b1 := FunD.bindsN (ps := ["value"]) F1 fun _ _ _ _ _ _ us hl => match us, hl with | [_], _ => rfl
  have g1 : mg "is_name" = some (.ref (He.ga K "is_name")) := He.glo_ok X G (c.fact 1 (f := .glo "is_name") rfl)
  obtain ⟨fd2, F2⟩ : ∃ fd, FunD K "is_column_name" "is_column_name" (defArgs sIsCol) (defBody sIsCol) (defScope sIsCol) [] [] (He.ga K "is_column_name") fd := c.def_ 2
  have b2 := FunD.bindsN (ps := ["value"]) F2 fun _ _ _ _ _ _ us hl => match us, hl with | [_], _ => rfl
  have g2 : mg "is_column_name" = some (.ref (He.ga K "is_column_name")) := He.glo_ok X G (c.fact 2 (f := .glo "is_column_name") rfl)
  obtain ⟨fd3, F3⟩ : ∃ fd, FunD K "is_domain" "is_domain" (defArgs sIsDomain) (defBody sIsDomain) (defScope sIsDomain) [] [] (He.ga K "is_domain") fd := c.def_ 3
  have b3 := FunD.bindsN (ps := ["value"]) F3 fun _ _ _ _ _ _ us hl => match us, hl with | [_], _ => rfl
  have g3 : mg "is_domain" = some (.ref (He.ga K "is_domain")) := He.glo_ok X G (c.fact 3 (f := .glo "is_domain") rfl)
  obtain ⟨fd4, F4⟩ : ∃ fd, FunD K "is_kind" "is_kind" (defArgs sIsKind) (defBody sIsKind) (defScope sIsKind) [] [] (He.ga K "is_kind") fd := c.def_ 4
  have b4 := FunD.bindsN (ps := ["value"]) F4 fun _ _ _ _ _ _ us hl => match us, hl with | [_], _ => rfl
  have g4 : mg "is_kind" = some (.ref (He.ga K "is_kind")) := He.glo_ok X G (c.fact 4 (f := .glo "is_kind") rfl)
  obtain ⟨fd5, F5⟩ : ∃ fd, FunD K "times_in" "times_in" (defArgs sTimesIn) (defBody sTimesIn) (defScope sTimesIn) [] [] (He.ga K "times_in") fd := c.def_ 5
  have b5 := FunD.bindsN (ps := ["shape"]) F5 fun _ _ _ _ _ _ us hl => match us, hl with | [_], _ => rfl
  have g5 : mg "times_in" = some (.ref (He.ga K "times_in")) := He.glo_ok X G (c.fact 5 (f := .glo "times_in") rfl)
  obtain ⟨fd6, F6⟩ : ∃ fd, FunD K "is_shape" "is_shape" (defArgs sIsShape) (defBody sIsShape) (defScope sIsShape) [] [] (He.ga K "is_shape") fd := c.def_ 6
  have b6 := FunD.bindsN (ps := ["value"]) F6 fun _ _ _ _ _ _ us hl => match us, hl with | [_], _ => rfl
  have g6 : mg "is_shape" = some (.ref (He.ga K "is_shape")) := He.glo_ok X G (c.fact 6 (f := .glo "is_shape") rfl)
  obtain ⟨fd7, F7⟩ : ∃ fd, FunD K "require_shape" "require_shape" (defArgs sReqShape) (defBody sReqShape) (defScope sReqShape) [] [] (He.ga K "require_shape") fd := c.def_ 7
  have b7 := FunD.bindsN (ps := ["shape"]) F7 fun _ _ _ _ _ _ us hl => match us, hl with | [_], _ => rfl
  have g7 : mg "require_shape" = some (.ref (He.ga K "require_shape")) := He.glo_ok X G (c.fact 7 (f := .glo "require_shape") rfl)
  obtain ⟨fd8, F8⟩ : ∃ fd, FunD K "is_value_of" "is_value_of" (defArgs sIsValue) (defBody sIsValue) (defScope sIsValue) [] [] (He.ga K "is_value_of") fd := c.def_ 8
  have b8 := FunD.bindsN (ps := ["kind", "value"]) F8 fun _ _ _ _ _ _ us hl => match us, hl with | [_, _], _ => rfl
  have g8 : mg "is_value_of" = some (.ref (He.ga K "is_value_of")) := He.glo_ok X G (c.fact 8 (f := .glo "is_value_of") rfl)
  obtain ⟨fd9, F9⟩ : ∃ fd, FunD K "split_row" "split_row" (defArgs sSplitR) (defBody sSplitR) (defScope sSplitR) [] [] (He.ga K "split_row") fd := c.def_ 9
  have b9 := FunD.bindsN (ps := ["shape", "row"]) F9 fun _ _ _ _ _ _ us hl => match us, hl with | [_, _], _ => rfl
  have g9 : mg "split_row" = some (.ref (He.ga K "split_row")) := He.glo_ok X G (c.fact 9 (f := .glo "split_row") rfl)
  obtain ⟨fd10, F10⟩ : ∃ fd, FunD K "size_in" "size_in" (defArgs sSizeIn) (defBody sSizeIn) (defScope sSizeIn) [] [] (He.ga K "size_in") fd := c.def_ 10
  have b10 := FunD.bindsN (ps := ["shape", "row"]) F10 fun _ _ _ _ _ _ us hl => match us, hl with | [_, _], _ => rfl
  have g10 : mg "size_in" = some (.ref (He.ga K "size_in")) := He.glo_ok X G (c.fact 10 (f := .glo "size_in") rfl)
  obtain ⟨fd11, F11⟩ : ∃ fd, FunD K "is_row_in" "is_row_in" (defArgs sIsRowIn) (defBody sIsRowIn) (defScope sIsRowIn) [] [] (He.ga K "is_row_in") fd := c.def_ 11
  have b11 := FunD.bindsN (ps := ["shape", "value"]) F11 fun _ _ _ _ _ _ us hl => match us, hl with | [_, _], _ => rfl
  have g11 : mg "is_row_in" = some (.ref (He.ga K "is_row_in")) := He.glo_ok X G (c.fact 11 (f := .glo "is_row_in") rfl)
  obtain ⟨fd12, F12⟩ : ∃ fd, FunD K "is_row" "is_row" (defArgs sIsRow) (defBody sIsRow) (defScope sIsRow) [] [] (He.ga K "is_row") fd := c.def_ 12
  have b12 := FunD.bindsN (ps := ["shape", "value"]) F12 fun _ _ _ _ _ _ us hl => match us, hl with | [_, _], _ => rfl
  have g12 : mg "is_row" = some (.ref (He.ga K "is_row")) := He.glo_ok X G (c.fact 12 (f := .glo "is_row") rfl)
  obtain ⟨fd13, F13⟩ : ∃ fd, FunD K "require_row" "require_row" (defArgs sReqRow) (defBody sReqRow) (defScope sReqRow) [] [] (He.ga K "require_row") fd := c.def_ 13
  have b13 := FunD.bindsN (ps := ["shape", "row"]) F13 fun _ _ _ _ _ _ us hl => match us, hl with | [_, _], _ => rfl
  have g13 : mg "require_row" = some (.ref (He.ga K "require_row")) := He.glo_ok X G (c.fact 13 (f := .glo "require_row") rfl)
  obtain ⟨fd14, F14⟩ : ∃ fd, FunD K "size_of" "size_of" (defArgs sSizeOf) (defBody sSizeOf) (defScope sSizeOf) [] [] (He.ga K "size_of") fd := c.def_ 14
  have b14 := FunD.bindsN (ps := ["shape", "row"]) F14 fun _ _ _ _ _ _ us hl => match us, hl with | [_, _], _ => rfl
  have g14 : mg "size_of" = some (.ref (He.ga K "size_of")) := He.glo_ok X G (c.fact 14 (f := .glo "size_of") rfl)
  obtain ⟨fd15, F15⟩ : ∃ fd, FunD K "_law_dice" "_law_dice" (defArgs sDice) (defBody sDice) (defScope sDice) [] [] (He.ga K "_law_dice") fd := c.def_ 15
  have b15 := FunD.bindsN (ps := ["_law_script", "_law_spot"]) F15 fun _ _ _ _ _ _ us hl => match us, hl with | [_, _], _ => rfl
  have g15 : mg "_law_dice" = some (.ref (He.ga K "_law_dice")) := He.glo_ok X G (c.fact 15 (f := .glo "_law_dice") rfl)
  obtain ⟨fd16, F16⟩ : ∃ fd, FunD K "_law_roll" "_law_roll" (defArgs sRoll) (defBody sRoll) (defScope sRoll) [] [] (He.ga K "_law_roll") fd := c.def_ 16
  have b16 := FunD.bindsN (ps := ["_law_dice_here", "_law_many"]) F16 fun _ _ _ _ _ _ us hl => match us, hl with | [_, _], _ => rfl
  have g16 : mg "_law_roll" = some (.ref (He.ga K "_law_roll")) := He.glo_ok X G (c.fact 16 (f := .glo "_law_roll") rfl)
  obtain ⟨fd17, F17⟩ : ∃ fd, FunD K "_law_pick" "_law_pick" (defArgs sPick) (defBody sPick) (defScope sPick) [] [] (He.ga K "_law_pick") fd := c.def_ 17
  have b17 := FunD.bindsN (ps := ["_law_dice_here", "_law_items"]) F17 fun _ _ _ _ _ _ us hl => match us, hl with | [_, _], _ => rfl
  have g17 : mg "_law_pick" = some (.ref (He.ga K "_law_pick")) := He.glo_ok X G (c.fact 17 (f := .glo "_law_pick") rfl)
  obtain ⟨fd18, F18⟩ : ∃ fd, FunD K "_law_near" "_law_near" (defArgs sNear) (defBody sNear) (defScope sNear) [] [] (He.ga K "_law_near") fd := c.def_ 18
  have b18 := FunD.bindsN (ps := ["_law_dice_here", "_law_far"]) F18 fun _ _ _ _ _ _ us hl => match us, hl with | [_, _], _ => rfl
  have g18 : mg "_law_near" = some (.ref (He.ga K "_law_near")) := He.glo_ok X G (c.fact 18 (f := .glo "_law_near") rfl)
  obtain ⟨fd19, F19⟩ : ∃ fd, FunD K "_law_mixed" "_law_mixed" (defArgs sMixed) (defBody sMixed) (defScope sMixed) [] [] (He.ga K "_law_mixed") fd := c.def_ 19
  have b19 := FunD.bindsN (ps := ["_law_dice_here", "_law_items"]) F19 fun _ _ _ _ _ _ us hl => match us, hl with | [_, _], _ => rfl
  have g19 : mg "_law_mixed" = some (.ref (He.ga K "_law_mixed")) := He.glo_ok X G (c.fact 19 (f := .glo "_law_mixed") rfl)
  obtain ⟨fd20, F20⟩ : ∃ fd, FunD K "_law_times_of" "_law_times_of" (defArgs sTimesOf) (defBody sTimesOf) (defScope sTimesOf) [] [] (He.ga K "_law_times_of") fd := c.def_ 20
  have b20 := FunD.bindsN (ps := ["_law_shape_here"]) F20 fun _ _ _ _ _ _ us hl => match us, hl with | [_], _ => rfl
  have g20 : mg "_law_times_of" = some (.ref (He.ga K "_law_times_of")) := He.glo_ok X G (c.fact 20 (f := .glo "_law_times_of") rfl)
  obtain ⟨fd21, F21⟩ : ∃ fd, FunD K "_law_domains_of" "_law_domains_of" (defArgs sDomsOf) (defBody sDomsOf) (defScope sDomsOf) [] [] (He.ga K "_law_domains_of") fd := c.def_ 21
  have b21 := FunD.bindsN (ps := ["_law_shape_here"]) F21 fun _ _ _ _ _ _ us hl => match us, hl with | [_], _ => rfl
  have g21 : mg "_law_domains_of" = some (.ref (He.ga K "_law_domains_of")) := He.glo_ok X G (c.fact 21 (f := .glo "_law_domains_of") rfl)
  obtain ⟨fd22, F22⟩ : ∃ fd, FunD K "_law_shape" "_law_shape" (defArgs sShape) (defBody sShape) (defScope sShape) [] [] (He.ga K "_law_shape") fd := c.def_ 22
  have b22 := FunD.bindsN (ps := ["_law_dice_here", "_law_most"]) F22 fun _ _ _ _ _ _ us hl => match us, hl with | [_, _], _ => rfl
  have g22 : mg "_law_shape" = some (.ref (He.ga K "_law_shape")) := He.glo_ok X G (c.fact 22 (f := .glo "_law_shape") rfl)
  obtain ⟨fd23, F23⟩ : ∃ fd, FunD K "_law_is_name" "_law_is_name" (defArgs sLName) (defBody sLName) (defScope sLName) [] [] (He.ga K "_law_is_name") fd := c.def_ 23
  have b23 := FunD.bindsN (ps := ["_law_value"]) F23 fun _ _ _ _ _ _ us hl => match us, hl with | [_], _ => rfl
  have g23 : mg "_law_is_name" = some (.ref (He.ga K "_law_is_name")) := He.glo_ok X G (c.fact 23 (f := .glo "_law_is_name") rfl)
  obtain ⟨fd24, F24⟩ : ∃ fd, FunD K "_law_is_kind" "_law_is_kind" (defArgs sLKind) (defBody sLKind) (defScope sLKind) [] [] (He.ga K "_law_is_kind") fd := c.def_ 24
  have b24 := FunD.bindsN (ps := ["_law_value"]) F24 fun _ _ _ _ _ _ us hl => match us, hl with | [_], _ => rfl
  have g24 : mg "_law_is_kind" = some (.ref (He.ga K "_law_is_kind")) := He.glo_ok X G (c.fact 24 (f := .glo "_law_is_kind") rfl)
  obtain ⟨fd25, F25⟩ : ∃ fd, FunD K "_law_is_shape" "_law_is_shape" (defArgs sLShape) (defBody sLShape) (defScope sLShape) [] [] (He.ga K "_law_is_shape") fd := c.def_ 25
  have b25 := FunD.bindsN (ps := ["_law_value"]) F25 fun _ _ _ _ _ _ us hl => match us, hl with | [_], _ => rfl
  have g25 : mg "_law_is_shape" = some (.ref (He.ga K "_law_is_shape")) := He.glo_ok X G (c.fact 25 (f := .glo "_law_is_shape") rfl)
  obtain ⟨fd26, F26⟩ : ∃ fd, FunD K "_law_is_row" "_law_is_row" (defArgs sLRow) (defBody sLRow) (defScope sLRow) [] [] (He.ga K "_law_is_row") fd := c.def_ 26
  have b26 := FunD.bindsN (ps := ["_law_shape_here", "_law_value"]) F26 fun _ _ _ _ _ _ us hl => match us, hl with | [_, _], _ => rfl
  have g26 : mg "_law_is_row" = some (.ref (He.ga K "_law_is_row")) := He.glo_ok X G (c.fact 26 (f := .glo "_law_is_row") rfl)
  obtain ⟨fd27, F27⟩ : ∃ fd, FunD K "_law_word" "_law_word" (defArgs sWord) (defBody sWord) (defScope sWord) [] [] (He.ga K "_law_word") fd := c.def_ 27
  have b27 := FunD.bindsN (ps := ["_law_dice_here"]) F27 fun _ _ _ _ _ _ us hl => match us, hl with | [_], _ => rfl
  have g27 : mg "_law_word" = some (.ref (He.ga K "_law_word")) := He.glo_ok X G (c.fact 27 (f := .glo "_law_word") rfl)
  obtain ⟨fd28, F28⟩ : ∃ fd, FunD K "_law_odd" "_law_odd" (defArgs sOdd) (defBody sOdd) (defScope sOdd) [] [] (He.ga K "_law_odd") fd := c.def_ 28
  have b28 := FunD.bindsN (ps := ["_law_dice_here"]) F28 fun _ _ _ _ _ _ us hl => match us, hl with | [_], _ => rfl
  have g28 : mg "_law_odd" = some (.ref (He.ga K "_law_odd")) := He.glo_ok X G (c.fact 28 (f := .glo "_law_odd") rfl)
  obtain ⟨fd29, F29⟩ : ∃ fd, FunD K "_law_near_kind" "_law_near_kind" (defArgs sNKind) (defBody sNKind) (defScope sNKind) [] [] (He.ga K "_law_near_kind") fd := c.def_ 29
  have b29 := FunD.bindsN (ps := ["_law_dice_here"]) F29 fun _ _ _ _ _ _ us hl => match us, hl with | [_], _ => rfl
  have g29 : mg "_law_near_kind" = some (.ref (He.ga K "_law_near_kind")) := He.glo_ok X G (c.fact 29 (f := .glo "_law_near_kind") rfl)
  obtain ⟨fd30, F30⟩ : ∃ fd, FunD K "_law_near_shape" "_law_near_shape" (defArgs sNearS) (defBody sNearS) (defScope sNearS) [] [] (He.ga K "_law_near_shape") fd := c.def_ 30
  have b30 := FunD.bindsN (ps := ["_law_dice_here"]) F30 fun _ _ _ _ _ _ us hl => match us, hl with | [_], _ => rfl
  have g30 : mg "_law_near_shape" = some (.ref (He.ga K "_law_near_shape")) := He.glo_ok X G (c.fact 30 (f := .glo "_law_near_shape") rfl)
  obtain ⟨fd31, F31⟩ : ∃ fd, FunD K "_law_row" "_law_row" (defArgs sRow) (defBody sRow) (defScope sRow) [] [] (He.ga K "_law_row") fd := c.def_ 31
  have b31 := FunD.bindsN (ps := ["_law_dice_here", "_law_shape_here"]) F31 fun _ _ _ _ _ _ us hl => match us, hl with | [_, _], _ => rfl
  have g31 : mg "_law_row" = some (.ref (He.ga K "_law_row")) := He.glo_ok X G (c.fact 31 (f := .glo "_law_row") rfl)
  obtain ⟨fd32, F32⟩ : ∃ fd, FunD K "_law_bent" "_law_bent" (defArgs sBent) (defBody sBent) (defScope sBent) [] [] (He.ga K "_law_bent") fd := c.def_ 32
  have b32 := FunD.bindsN (ps := ["_law_dice_here", "_law_row_here"]) F32 fun _ _ _ _ _ _ us hl => match us, hl with | [_, _], _ => rfl
  have g32 : mg "_law_bent" = some (.ref (He.ga K "_law_bent")) := He.glo_ok X G (c.fact 32 (f := .glo "_law_bent") rfl)
  obtain ⟨fd33, F33⟩ : ∃ fd, FunD K "_law_judged_right" "_law_judged_right" (defArgs sJudged) (defBody sJudged) (defScope sJudged) [] [] (He.ga K "_law_judged_right") fd := c.def_ 33
  have b33 := FunD.bindsN (ps := ["_law_dice_here"]) F33 fun _ _ _ _ _ _ us hl => match us, hl with | [_], _ => rfl
  have g33 : mg "_law_judged_right" = some (.ref (He.ga K "_law_judged_right")) := He.glo_ok X G (c.fact 33 (f := .glo "_law_judged_right") rfl)
  obtain ⟨fd34, F34⟩ : ∃ fd, FunD K "_law_met" "_law_met" (defArgs sLMet) (defBody sLMet) (defScope sLMet) [] [] (He.ga K "_law_met") fd := c.def_ 34
  have b34 := FunD.bindsN (ps := ["_law_call"]) F34 fun _ _ _ _ _ _ us hl => match us, hl with | [_], _ => rfl
  have g34 : mg "_law_met" = some (.ref (He.ga K "_law_met")) := He.glo_ok X G (c.fact 34 (f := .glo "_law_met") rfl)
  obtain ⟨fd35, F35⟩ : ∃ fd, FunD K "_law_rows_right" "_law_rows_right" (defArgs sRowsRt) (defBody sRowsRt) (defScope sRowsRt) [] [] (He.ga K "_law_rows_right") fd := c.def_ 35
  have b35 := FunD.bindsN (ps := ["_law_dice_here"]) F35 fun _ _ _ _ _ _ us hl => match us, hl with | [_], _ => rfl
  have g35 : mg "_law_rows_right" = some (.ref (He.ga K "_law_rows_right")) := He.glo_ok X G (c.fact 35 (f := .glo "_law_rows_right") rfl)
  obtain ⟨fd36, F36⟩ : ∃ fd, FunD K "law" "law" (defArgs sLaw) (defBody sLaw) (defScope sLaw) [] [] (He.ga K "law") fd := c.def_ 36
  have g36 : mg "law" = some (.ref (He.ga K "law")) := He.glo_ok X G (c.fact 36 (f := .glo "law") rfl)
  have f_len : mg "len" = none := He.free_ok X G (c.fact 37 (f := .free "len") rfl)
  have f_int : mg "int" = none := He.free_ok X G (c.fact 38 (f := .free "int") rfl)
  have f_bool : mg "bool" = none := He.free_ok X G (c.fact 39 (f := .free "bool") rfl)
  have f_tuple : mg "tuple" = none := He.free_ok X G (c.fact 40 (f := .free "tuple") rfl)
  have f_list : mg "list" = none := He.free_ok X G (c.fact 41 (f := .free "list") rfl)
  have f_set : mg "set" = none := He.free_ok X G (c.fact 42 (f := .free "set") rfl)
  have f_abs : mg "abs" = none := He.free_ok X G (c.fact 43 (f := .free "abs") rfl)
  have f_max : mg "max" = none := He.free_ok X G (c.fact 44 (f := .free "max") rfl)
  have f_min : mg "min" = none := He.free_ok X G (c.fact 45 (f := .free "min") rfl)
  have f_range : mg "range" = none := He.free_ok X G (c.fact 46 (f := .free "range") rfl)
  have f_any : mg "any" = none := He.free_ok X G (c.fact 47 (f := .free "any") rfl)
  have f_all : mg "all" = none := He.free_ok X G (c.fact 48 (f := .free "all") rfl)
  have f_sorted : mg "sorted" = none := He.free_ok X G (c.fact 49 (f := .free "sorted") rfl)
  have f_isinstance : mg "isinstance" = none := He.free_ok X G (c.fact 50 (f := .free "isinstance") rfl)
  have f_str : mg "str" = none := He.free_ok X G (c.fact 51 (f := .free "str") rfl)
  have f_dict : mg "dict" = none := He.free_ok X G (c.fact 52 (f := .free "dict") rfl)
  have f_zip : mg "zip" = none := He.free_ok X G (c.fact 53 (f := .free "zip") rfl)
  have f_enumerate : mg "enumerate" = none := He.free_ok X G (c.fact 54 (f := .free "enumerate") rfl)
  have f_repr : mg "repr" = none := He.free_ok X G (c.fact 55 (f := .free "repr") rfl)
  have i_MAX_LETTERS := He.int_ok X G (c.fact 56 (f := .int "MAX_LETTERS" 8) rfl)
  have i_MAX_TIMES := He.int_ok X G (c.fact 57 (f := .int "MAX_TIMES" 2) rfl)
  have i_MAX_DOMAINS := He.int_ok X G (c.fact 58 (f := .int "MAX_DOMAINS" 3) rfl)
  have i_MAX_VALUES := He.int_ok X G (c.fact 59 (f := .int "MAX_VALUES" 8) rfl)
  have t_TIME := He.str_ok X G (c.fact 60 (f := .str "TIME" "time") rfl)
  have t_NOW := He.str_ok X G (c.fact 61 (f := .str "NOW" "now") rfl)
  have t_LETTERS := He.str_ok X G (c.fact 62 (f := .str "LETTERS" "abcdefghijklmnopqrstuvwxyz") rfl)
  have o_InvalidShape : mg "InvalidShape" = some (.ref (He.ga K "InvalidShape")) := He.glo_ok X G (c.fact 63 (f := .glo "InvalidShape") rfl)
  have o_InvalidOperation : mg "InvalidOperation" = some (.ref (He.ga K "InvalidOperation")) := He.glo_ok X G (c.fact 64 (f := .glo "InvalidOperation") rfl)
  have o_EverError : mg "EverError" = some (.ref (He.ga K "EverError")) := He.glo_ok X G (c.fact 65 (f := .glo "EverError") rfl)
  have T : Fre mg := ⟨f_len, f_int, f_bool, f_tuple, f_list, f_set, f_abs, f_max, f_min, f_range, f_any, f_all, f_sorted, f_isinstance, f_str, f_dict, f_zip, f_enumerate⟩
  have fRepr := f_repr
  have G : Glb K mg := ⟨t_TIME, t_NOW, t_LETTERS, i_MAX_LETTERS, i_MAX_TIMES, i_MAX_DOMAINS, i_MAX_VALUES⟩
  have XC : Xcp K mg := ⟨xS, xO⟩
  have XN : XNam K mg := ⟨o_InvalidShape, o_InvalidOperation, o_EverError⟩
  have eL := hfa.symm.trans g36
  cases eL
  have bl := FunD.bindsA (ps := ["_law_script"]) F36 fun _ _ _ _ _ _ us hl => match us, hl with | [_], _ => rfl
  refine ⟨x0, x1, fun y hy => ?_, fun cc pp hcn hnd => ⟨fd36, fun s v => bl s [v] rfl, fun base _ _ tbs => ?_⟩⟩
  · simp only [List.mem_cons, List.not_mem_nil, or_false] at hy
    rcases hy with rfl
    · exact ⟨g35, by obtain ⟨oc, od, dV, kV, doc, pm, an, cdv, ct, osl, e, lk, _⟩ := F35.ex; exact ⟨_, _, lk, rfl⟩⟩
  have hcdR := code_of (hcn "_law_rows_right" (by simp)) F35
  have TBR := tbs "_law_rows_right" (by simp)
  have hne : TNe (pp "_law_rows_right") := hnd
  have Dis_integer : Df P w K mg base 1 "is_integer" ["value"] (spIsInt K) := ⟨⟨_, ok_isInt F0 T, b0⟩, F0.kp, g0⟩
  have Dis_name : Df P w K mg base 1 "is_name" ["value"] (spName K) := ⟨⟨_, ok_name F1 T G, b1⟩, F1.kp, g1⟩
  have Dis_column_name : Df P w K mg base 2 "is_column_name" ["value"] (spCol K) := ⟨⟨_, ok_col F2 G Dis_name, b2⟩, F2.kp, g2⟩
  have Dis_domain : Df P w K mg base 2 "is_domain" ["value"] (spDomain K) := ⟨⟨_, ok_domain F3 T G Dis_name, b3⟩, F3.kp, g3⟩
  have Dis_kind : Df P w K mg base 3 "is_kind" ["value"] (spKind K) := ⟨⟨_, ok_kind F4 T G Dis_domain, b4⟩, F4.kp, g4⟩
  have Dtimes_in : Df P w K mg base 1 "times_in" ["shape"] (spNamesR K tms) := ⟨⟨_, ok_timesIn F5 T G, b5⟩, F5.kp, g5⟩
  have Dis_shape : Df P w K mg base 4 "is_shape" ["value"] (spIsShape K) := ⟨⟨_, ok_shape F6 T G Dis_column_name Dis_kind Dtimes_in, b6⟩, F6.kp, g6⟩
  have Drequire_shape : DfX P w K mg base 5 "require_shape" ["shape"] (spReqShape K) := ⟨⟨_, ok_reqShape F7 XC Dis_shape, b7⟩, F7.kp, g7⟩
  have Dis_value_of : Df P w K mg base 2 "is_value_of" ["kind", "value"] (spValue K) := ⟨⟨_, ok_value F8 T G Dis_integer, b8⟩, F8.kp, g8⟩
  have Dsplit_row : Df P w K mg base 1 "split_row" ["shape", "row"] (spSplit K) := ⟨⟨_, ok_split F9 T G, b9⟩, F9.kp, g9⟩
  have Dsize_in : Df P w K mg base 2 "size_in" ["shape", "row"] (spSize K) := ⟨⟨_, ok_sizeIn F10 T Dsplit_row, b10⟩, F10.kp, g10⟩
  have Dis_row_in : Df P w K mg base 3 "is_row_in" ["shape", "value"] (spRowInA K) := ⟨⟨_, ok_rowIn F11 T Dis_value_of, b11⟩, F11.kp, g11⟩
  have Dis_row : DfX P w K mg base 6 "is_row" ["shape", "value"] (spIsRow K) := ⟨⟨_, ok_isRow F12 Drequire_shape Dis_row_in, b12⟩, F12.kp, g12⟩
  have Drequire_row : DfX P w K mg base 4 "require_row" ["shape", "row"] (spReqRow K) := ⟨⟨_, ok_reqRow F13 XC Dis_row_in, b13⟩, F13.kp, g13⟩
  have Dsize_of : DfX P w K mg base 6 "size_of" ["shape", "row"] (spSizeOf K) := ⟨⟨_, ok_sizeOf F14 Drequire_shape Drequire_row Dsize_in, b14⟩, F14.kp, g14⟩
  have D_law_dice : Df P w K mg base 1 "_law_dice" ["_law_script", "_law_spot"] (spDice K) := ⟨⟨_, ok_dice F15 T, b15⟩, F15.kp, g15⟩
  have D_law_roll : Df P w K mg base 1 "_law_roll" ["_law_dice_here", "_law_many"] spRoll := ⟨⟨_, ok_roll F16 T, b16⟩, F16.kp, g16⟩
  have D_law_pick : Df P w K mg base 2 "_law_pick" ["_law_dice_here", "_law_items"] (spPick K) := ⟨⟨_, ok_pick F17 T D_law_roll, b17⟩, F17.kp, g17⟩
  have D_law_near : Df P w K mg base 2 "_law_near" ["_law_dice_here", "_law_far"] spNear := ⟨⟨_, ok_near F18 D_law_roll, b18⟩, F18.kp, g18⟩
  have D_law_mixed : Df P w K mg base 2 "_law_mixed" ["_law_dice_here", "_law_items"] (spMixed K) := ⟨⟨_, ok_mixed F19 T D_law_roll, b19⟩, F19.kp, g19⟩
  have D_law_times_of : Df P w K mg base 1 "_law_times_of" ["_law_shape_here"] (spNames K tms) := ⟨⟨_, ok_timesOf F20 T, b20⟩, F20.kp, g20⟩
  have D_law_domains_of : Df P w K mg base 1 "_law_domains_of" ["_law_shape_here"] (spNames K dms) := ⟨⟨_, ok_domsOf F21 T, b21⟩, F21.kp, g21⟩
  have D_law_shape : Df P w K mg base 3 "_law_shape" ["_law_dice_here", "_law_most"] (spShapeL K) := ⟨⟨_, ok_shapeL F22 T D_law_mixed D_law_pick, b22⟩, F22.kp, g22⟩
  have D_law_is_name : Df P w K mg base 1 "_law_is_name" ["_law_value"] (spName K) := ⟨⟨_, ok_lname F23 T, b23⟩, F23.kp, g23⟩
  have D_law_is_kind : Df P w K mg base 2 "_law_is_kind" ["_law_value"] (spKind K) := ⟨⟨_, ok_lkind F24 T D_law_is_name, b24⟩, F24.kp, g24⟩
  have D_law_is_shape : Df P w K mg base 3 "_law_is_shape" ["_law_value"] (spIsShape K) := ⟨⟨_, ok_lshape F25 T D_law_is_name D_law_is_kind D_law_times_of D_law_domains_of, b25⟩, F25.kp, g25⟩
  have D_law_is_row : Df P w K mg base 1 "_law_is_row" ["_law_shape_here", "_law_value"] (spLRow K) := ⟨⟨_, ok_lrow F26 T, b26⟩, F26.kp, g26⟩
  have D_law_word : Df P w K mg base 3 "_law_word" ["_law_dice_here"] spWord := ⟨⟨_, ok_word F27 T D_law_roll D_law_pick, b27⟩, F27.kp, g27⟩
  have D_law_odd : Df P w K mg base 3 "_law_odd" ["_law_dice_here"] (spOdd K) := ⟨⟨_, ok_odd F28 T D_law_pick, b28⟩, F28.kp, g28⟩
  have D_law_near_kind : Df P w K mg base 4 "_law_near_kind" ["_law_dice_here"] (spNKind K) := ⟨⟨_, ok_nkind F29 T D_law_word D_law_pick, b29⟩, F29.kp, g29⟩
  have D_law_near_shape : Df P w K mg base 5 "_law_near_shape" ["_law_dice_here"] (spNShape K) := ⟨⟨_, ok_nshape F30 T D_law_shape D_law_roll D_law_word D_law_near_kind D_law_pick, b30⟩, F30.kp, g30⟩
  have D_law_row : Df P w K mg base 3 "_law_row" ["_law_dice_here", "_law_shape_here"] (spRow K) := ⟨⟨_, ok_row F31 T D_law_near D_law_pick, b31⟩, F31.kp, g31⟩
  have D_law_bent : Df P w K mg base 3 "_law_bent" ["_law_dice_here", "_law_row_here"] (spBent K) := ⟨⟨_, ok_bent F32 T D_law_pick, b32⟩, F32.kp, g32⟩
  have D_law_judged_right : DfG P w K mg base 8 "_law_judged_right" ["_law_dice_here"] (spJudged (pp "_law_rows_right")) := ⟨⟨_, ok_judged F33 T fRepr D_law_word D_law_odd D_law_near_kind D_law_near_shape Dis_name Dis_kind Dis_shape D_law_is_name D_law_is_kind D_law_is_shape, b33⟩, F33.kp, g33⟩
  have MF : MetF K mg := ⟨⟨_, F34, b34⟩, F34.kp, g34, xR, XN⟩
  have D_law_rows_right : DfG P w K mg base 14 "_law_rows_right" ["_law_dice_here"] (spRowsRt (pp "_law_rows_right")) := ⟨⟨_, ok_rowsRt F35 T fRepr MF hne hcdR TBR D_law_shape D_law_row D_law_pick D_law_odd D_law_bent D_law_is_row Dis_row Dsize_of, b35⟩, F35.kp, g35⟩
  exact ok_law F36 T G D_law_dice D_law_judged_right D_law_rows_right Dis_shape Dis_kind Dis_name Dsize_of
end TM
open PySem PySem.W PySem.Calls PyProof.Rows
theorem PySem.Challenge.cw_everwhen_k08_names_shapes_and_rows_holds : PySem.Challenge.rw_everwhen_k08_names_shapes_and_rows.Holds := by
  w_on; o_law
  refine HandSHeadRun.head_any (r := OpenLaw.row PySem.Challenge.rw_everwhen_k08_names_shapes_and_rows) (q := view (OpenLaw.row PySem.Challenge.rw_everwhen_k08_names_shapes_and_rows).prog [49, 48]) (H := TM.hk) (ob := TM.obz) (M := 20000) (loose := TM.loose) (d := HandSHeadRun.topDef (OpenLaw.row PySem.Challenge.rw_everwhen_k08_names_shapes_and_rows).prog 49) (kwd := []) TM.ob_eq
    (by kernel_rfl) (fun s => by kernel_rfl) TM.run (by kernel_rfl) (by kernel_rfl) (by kernel_rfl) (by rfl) (by first | assumption | decide +kernel) (by decide +kernel) ⟨rfl, rfl, rfl, rfl, rfl, by decide +kernel⟩ ?hw ?hc
  case hw => w_witness2
  case hc =>
    refine EW.walkTn (l := PySem.Challenge.rw_everwhen_k08_names_shapes_and_rows) (n := 63) (k := 15) (x := "_law_script") (CX := L2.CX0) [("_law_rows_right" : PySem.Str)] rfl (by decide) (by kernel_rfl) ⟨rfl, by decide, by decide⟩ (by kernel_rfl) ?F (fun _ _ _ _ z => z)
    intro w mg fa h Y G hmg0
    obtain ⟨K, KX, c, cx⟩ := Y
    have hmg : mg ("law" : PySem.Str) = some (.ref fa) := by
      have e : (HandSHeadRun.topDef (OpenLaw.row PySem.Challenge.rw_everwhen_k08_names_shapes_and_rows).prog 49).name = ("law" : PySem.Str) := by kernel_rfl
      rw [← e]
      exact hmg0
    obtain ⟨h1, h2, h3, hF⟩ := TM.facts (P := (PySem.Challenge.rw_everwhen_k08_names_shapes_and_rows).prog) (w := w) KX G hmg c cx
    refine ⟨K, KX, h1, h2, h3, fun cc pp hcn hnd => ?_⟩
    obtain ⟨fd, hb, hF⟩ := hF cc pp hcn hnd
    refine ⟨fd, TM.spLaw K (pp "_law_rows_right"), hb, fun H a ns hl _ hH hS => ⟨a, ns, rfl, hS, hl, TM.tabs_nil fun q hq => ?_, fun _ => rfl⟩, hF⟩
    simp only [List.mem_cons, List.not_mem_nil, or_false] at hq
    rcases hq with rfl
    · exact hH "_law_rows_right" (by simp)
end
