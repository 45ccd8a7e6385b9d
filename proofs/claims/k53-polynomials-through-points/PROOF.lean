import PyProof.Rows.All
import Wide.All
import OpenK.AllK
import Wide.FinOn
import PyProof.EqAt
import PyProof.EqKinds
import PyProof.TupleCall
import KE.KStateDown
import KE.KFromBytes
import KE.KExcSuper
import KE.GoesMore
import KE.GoesEnum
import HandS.Base
import HandS.Call
import HandS.List
import HandS.Comp
import HandS.Ends
import HandS.Exc
import HandS.Dict
import HandS.Iter
import HandS.Text
import HandS.Words
import HandS.WordsList
import HandS.WordsExc
import HandS.TryOnly
import HandS.ExcOwn
import HandS.More
import HandS.Defaults
import HandS.Flow
import HandS.Style
import HandS.Conv
import HandS.IsInst
import HandS.TupAny
import HandS.ExcInit
import HandS.ExcSuper
import HandS.ExcField
import HandS.ExcIs
import HandS.HotCalls
import HandS.RaiseFrom
import HandS.Hot
import HandS.ExcInitHot
import HandS.Walk
import HandS.Zip
import HandS.Head0
import HandS.Head1
import HandS.Head2
import HandS.HeadEnd
import HandS.HeadHook1
import HandS.HeadHook2
import PySem.Challenge.RW_sharesunseen_k53_polynomials_through_poi
set_option Elab.async false
set_option linter.all false
set_option maxRecDepth 100000
set_option maxHeartbeats 4000000
namespace SU
open PySem PySem.Spec PyProof.Rows L2
abbrev Frag := PySem.W.Frag
/-! ### what stands -/
/-- what stood stands, but at the addresses in S -/
def But (S : List Addr) (H H' : Hp) : Prop := ∀ b o, b ∉ S → H b = some o → H' b = some o
theorem But.refl {S : List Addr} {H : Hp} : But S H H := fun _ _ _ h => h
theorem But.trans {S : List Addr} {H H1 H2 : Hp} (a : But S H H1) (b : But S H1 H2) : But S H H2 := fun c o n h => b c o n (a c o n h)
theorem But.mono {S S' : List Addr} {H H1 : Hp} (a : But S H H1) (h : ∀ x ∈ S, x ∈ S') : But S' H H1 := fun c o n e => a c o (fun z => n (h c z)) e
theorem But.of {S : List Addr} {H H1 : Hp} (a : Same H H1) : But S H H1 := fun c o _ e => a c o e
theorem But.new {S : List Addr} {H : Hp} {p : Addr} {o : HO} (h : H p = none) : But S H (upd H p o) := fun c u _ e => by
  rw [upd_ne (ne_of_none e h)]
  exact e
theorem But.set {S : List Addr} {H : Hp} {p : Addr} {o : HO} (h : p ∈ S) : But S H (upd H p o) := fun c u n e => by
  rw [upd_ne (show c ≠ p from fun z => n (by rw [z]; exact h))]
  exact e
theorem Same.new {H : Hp} {p : Addr} {o : HO} (h : H p = none) : Same H (upd H p o) := fun c u e => by
  rw [upd_ne (ne_of_none e h)]
  exact e
theorem Same.but {H H' : Hp} (h : But [] H H') : Same H H' := fun c o e => h c o (by simp) e
/-- a write at an address that did not stand -/
theorem Same.set {H H1 : Hp} {p : Addr} {o : HO} (s : Same H H1) (h : H p = none) : Same H (upd H1 p o) := fun c u e => by
  rw [upd_ne (ne_of_none e h)]
  exact s c u e
theorem But.setN {S : List Addr} {H H1 : Hp} {p : Addr} {o : HO} (s : But S H H1) (h : H p = none) : But S H (upd H1 p o) := fun c u n e => by
  rw [upd_ne (ne_of_none e h)]
  exact s c u n e
theorem SqL.but {K : Frag} {S : List Addr} {H H' : Hp} {p : Addr} {xs : List V} (e : But S H H') (n : p ∉ S) (h : SqL K H p xs) : SqL K H' p xs := by
  rcases h with (h | ⟨o, h⟩) | h
  · exact .inl (.inl (e p _ n h))
  · exact .inl (.inr ⟨o, e p _ n h⟩)
  · exact .inr h
theorem SqT.but {K : Frag} {S : List Addr} {H H' : Hp} {p : Addr} {xs : List V} (e : But S H H') (n : p ∉ S) (h : SqT K H p xs) : SqT K H' p xs := by
  rcases h with (h | ⟨o, h⟩) | h
  · exact .inl (.inl (e p _ n h))
  · exact .inl (.inr ⟨o, e p _ n h⟩)
  · exact .inr h
/-! ### data that stand, out of the reach of S -/
mutual
inductive Rep (K : Frag) (S : List Addr) (H : Hp) : V → PyData → Prop
  | non : Rep K S H .non .none
  | bl (b : Bool) : Rep K S H (.bl b) (.bool b)
  | int (i : Int) : Rep K S H (.int i) (.int i)
  | str (x : Str) : Rep K S H (.str x) (.str x)
  | lst {p : Addr} {xs : List V} {ds : List PyData} : p ∉ S → SqL K H p xs → Reps K S H xs ds → Rep K S H (.ref p) (.list ds)
  | tup {p : Addr} {xs : List V} {ds : List PyData} : p ∉ S → SqT K H p xs → Reps K S H xs ds → Rep K S H (.ref p) (.tuple ds)
inductive Reps (K : Frag) (S : List Addr) (H : Hp) : List V → List PyData → Prop
  | nil : Reps K S H [] []
  | cons {v : V} {vs : List V} {d : PyData} {ds : List PyData} : Rep K S H v d → Reps K S H vs ds → Reps K S H (v :: vs) (d :: ds)
end
section
variable {K : Frag} {S S' : List Addr} {H H' : Hp}
mutual
theorem Rep.but (e : But S H H') {v : V} {d : PyData} (h : Rep K S H v d) : Rep K S H' v d := by
  cases h with
  | non => exact .non
  | bl b => exact .bl b
  | int i => exact .int i
  | str x => exact .str x
  | lst n q r => exact .lst n (SqL.but e n q) (Reps.but e r)
  | tup n q r => exact .tup n (SqT.but e n q) (Reps.but e r)
termination_by sizeOf d
theorem Reps.but (e : But S H H') {vs : List V} {ds : List PyData} (h : Reps K S H vs ds) : Reps K S H' vs ds := by
  cases h with
  | nil => exact .nil
  | cons a r => exact .cons (Rep.but e a) (Reps.but e r)
termination_by sizeOf ds
end
mutual
theorem Rep.less (e : ∀ x ∈ S', x ∈ S) {v : V} {d : PyData} (h : Rep K S H v d) : Rep K S' H v d := by
  cases h with
  | non => exact .non
  | bl b => exact .bl b
  | int i => exact .int i
  | str x => exact .str x
  | lst n q r => exact .lst (fun z => n (e _ z)) q (Reps.less e r)
  | tup n q r => exact .tup (fun z => n (e _ z)) q (Reps.less e r)
termination_by sizeOf d
theorem Reps.less (e : ∀ x ∈ S', x ∈ S) {vs : List V} {ds : List PyData} (h : Reps K S H vs ds) : Reps K S' H vs ds := by
  cases h with
  | nil => exact .nil
  | cons a r => exact .cons (Rep.less e a) (Reps.less e r)
termination_by sizeOf ds
end
mutual
theorem Rep.dp {v : V} {d : PyData} (h : Rep K S H v d) : Dp K H v d := by
  cases h with
  | non => exact .non
  | bl b => exact .bl b
  | int i => exact .int i
  | str x => exact .str x
  | lst n q r => exact .lst q (Reps.dp r)
  | tup n q r => exact .tup q (Reps.dp r)
termination_by sizeOf d
theorem Reps.dp {vs : List V} {ds : List PyData} (h : Reps K S H vs ds) : DpAll K H vs ds := by
  cases h with
  | nil => exact .nil
  | cons a r => exact .cons (Rep.dp a) (Reps.dp r)
termination_by sizeOf ds
end
theorem Rep.all {v : V} {d : PyData} (h : Rep K S H v d) : Rep K [] H v d := h.less (by simp)
theorem Rep.same {v : V} {d : PyData} (e : Same H H') (h : Rep K S H v d) : Rep K S H' v d := h.but (.of e)
theorem Reps.length {vs : List V} {ds : List PyData} (h : Reps K S H vs ds) : vs.length = ds.length := by
  induction vs generalizing ds with
  | nil => cases h; rfl
  | cons v vs ih =>
    cases h with
    | cons a r => exact congrArg (· + 1) (ih r)
theorem Reps.get {vs : List V} {ds : List PyData} (h : Reps K S H vs ds) {i : Nat} {d : PyData} (e : ds[i]? = some d) : ∃ v, vs[i]? = some v ∧ Rep K S H v d := by
  induction vs generalizing ds i with
  | nil => cases h; simp at e
  | cons v vs ih =>
    cases h with
    | cons a r =>
      cases i with
      | zero => exact ⟨v, rfl, by simp at e; exact e ▸ a⟩
      | succ i => exact ih r (by simpa using e)
theorem Reps.getV {vs : List V} {ds : List PyData} (h : Reps K S H vs ds) {i : Nat} {v : V} (e : vs[i]? = some v) : ∃ d, ds[i]? = some d ∧ Rep K S H v d := by
  induction vs generalizing ds i with
  | nil => simp at e
  | cons w vs ih =>
    cases h with
    | cons a r =>
      cases i with
      | zero => exact ⟨_, rfl, by simp at e; exact e ▸ a⟩
      | succ i => exact ih r (by simpa using e)
theorem Reps.snoc {vs : List V} {ds : List PyData} {v : V} {d : PyData} (h : Reps K S H vs ds) (a : Rep K S H v d) : Reps K S H (vs ++ [v]) (ds ++ [d]) := by
  induction vs generalizing ds with
  | nil => cases h; exact .cons a .nil
  | cons w vs ih =>
    cases h with
    | cons b r => exact .cons b (ih r)
theorem Reps.append {vs ws : List V} {ds es : List PyData} (h : Reps K S H vs ds) (g : Reps K S H ws es) : Reps K S H (vs ++ ws) (ds ++ es) := by
  induction vs generalizing ds with
  | nil => cases h; exact g
  | cons w vs ih =>
    cases h with
    | cons b r => exact .cons b (ih r)
abbrev di (ns : List Int) : List PyData := ns.map PyData.int
theorem Reps.ofInts (ns : List Int) : Reps K S H (ns.map V.int) (di ns) := by
  induction ns with
  | nil => exact .nil
  | cons n r ih => exact .cons (.int n) ih
theorem Reps.ints {vs : List V} {ns : List Int} (h : Reps K S H vs (di ns)) : vs = ns.map V.int := by
  induction ns generalizing vs with
  | nil => cases h; rfl
  | cons n r ih =>
    cases h with
    | cons a t =>
      cases a
      rw [ih t]
      rfl
/-- a list of ints, a tuple of ints -/
theorem Rep.ilst {v : V} {ns : List Int} (h : Rep K S H v (.list (di ns))) : ∃ p, v = .ref p ∧ p ∉ S ∧ SqL K H p (ns.map V.int) := by
  cases h with
  | lst n q r =>
    rw [r.ints] at q
    exact ⟨_, rfl, n, q⟩
theorem Rep.itup {v : V} {ns : List Int} (h : Rep K S H v (.tuple (di ns))) : ∃ p, v = .ref p ∧ p ∉ S ∧ SqT K H p (ns.map V.int) := by
  cases h with
  | tup n q r =>
    rw [r.ints] at q
    exact ⟨_, rfl, n, q⟩
theorem Rep.ofL {p : Addr} {ns : List Int} (n : p ∉ S) (q : SqL K H p (ns.map V.int)) : Rep K S H (.ref p) (.list (di ns)) := .lst n q (.ofInts ns)
theorem Rep.ofT {p : Addr} {ns : List Int} (n : p ∉ S) (q : SqT K H p (ns.map V.int)) : Rep K S H (.ref p) (.tuple (di ns)) := .tup n q (.ofInts ns)
/-- what stands at a new place is out of the reach of what stood -/
theorem fresh_notin {p : Addr} (n : H p = none) (h : ∀ x ∈ S, H x ≠ none) : p ∉ S := fun z => h p z n
end
/-! ### a sequence: a list or a tuple -/
def Sq (K : Frag) (H : Hp) (p : Addr) (xs : List V) : Prop := SqL K H p xs ∨ SqT K H p xs
theorem Sq.but {K : Frag} {S : List Addr} {H H' : Hp} {p : Addr} {xs : List V} (e : But S H H') (n : p ∉ S) (h : Sq K H p xs) : Sq K H' p xs := by
  rcases h with h | h
  · exact .inl (SqL.but e n h)
  · exact .inr (SqT.but e n h)
theorem Sq.same {K : Frag} {H H' : Hp} {p : Addr} {xs : List V} (e : Same H H') (h : Sq K H p xs) : Sq K H' p xs := Sq.but (S := []) (.of e) (by simp) h
/-- v is a list or a tuple of these ints, out of the reach of S -/
def Iq (K : Frag) (S : List Addr) (H : Hp) (v : V) (ns : List Int) : Prop := ∃ p, v = .ref p ∧ p ∉ S ∧ Sq K H p (ns.map V.int)
theorem Iq.but {K : Frag} {S : List Addr} {H H' : Hp} {v : V} {ns : List Int} (e : But S H H') (h : Iq K S H v ns) : Iq K S H' v ns := by
  obtain ⟨p, a, n, q⟩ := h
  exact ⟨p, a, n, q.but e n⟩
theorem Iq.less {K : Frag} {S S' : List Addr} {H : Hp} {v : V} {ns : List Int} (e : ∀ x ∈ S', x ∈ S) (h : Iq K S H v ns) : Iq K S' H v ns := by
  obtain ⟨p, a, n, q⟩ := h
  exact ⟨p, a, fun z => n (e _ z), q⟩
theorem Iq.all {K : Frag} {S : List Addr} {H : Hp} {v : V} {ns : List Int} (h : Iq K S H v ns) : Iq K [] H v ns := h.less (by simp)
theorem Rep.iqL {K : Frag} {S : List Addr} {H : Hp} {v : V} {ns : List Int} (h : Rep K S H v (.list (di ns))) : Iq K S H v ns := by
  obtain ⟨p, a, n, q⟩ := h.ilst
  exact ⟨p, a, n, .inl q⟩
theorem Rep.iqT {K : Frag} {S : List Addr} {H : Hp} {v : V} {ns : List Int} (h : Rep K S H v (.tuple (di ns))) : Iq K S H v ns := by
  obtain ⟨p, a, n, q⟩ := h.itup
  exact ⟨p, a, n, .inr q⟩
/-! ### the pool: one list of ints, changed by draws -/
def Pool (H : Hp) (a : Addr) : Prop := ∃ ns : List Int, H a = some (.lst (ns.map V.int))
/-- a step of the law: all but the pool stands -/
structure Step (a : Addr) (H H' : Hp) : Prop where
  but : But [a] H H'
  pool : Pool H' a
theorem Step.refl {a : Addr} {H : Hp} (p : Pool H a) : Step a H H := ⟨.refl, p⟩
theorem Step.trans {a : Addr} {H H1 H2 : Hp} (x : Step a H H1) (y : Step a H1 H2) : Step a H H2 := ⟨x.but.trans y.but, y.pool⟩
theorem Pool.same {a : Addr} {H H' : Hp} (p : Pool H a) (s : Same H H') : Pool H' a := by
  obtain ⟨ns, e⟩ := p
  exact ⟨ns, s _ _ e⟩
theorem Step.of {a : Addr} {H H' : Hp} (p : Pool H a) (s : Same H H') : Step a H H' := ⟨.of s, p.same s⟩
theorem Pool.ne {a p : Addr} {H : Hp} (h : Pool H a) (n : H p = none) : p ∉ [a] := fun z => by
  obtain ⟨ns, e⟩ := h
  have : p = a := by simpa using z
  rw [this, e] at n
  cases n
theorem Pool.neA {a p : Addr} {H : Hp} (h : Pool H a) (n : H p = none) : p ≠ a := fun z => h.ne n (by simp [z])
theorem Pool.upd {a p : Addr} {H : Hp} {o : HO} (h : Pool H a) (n : p ≠ a) : Pool (upd H p o) a := by
  obtain ⟨ns, e⟩ := h
  exact ⟨ns, by rw [upd_ne (fun z => n z.symm)]; exact e⟩
theorem Rep.st {K : Frag} {a : Addr} {H H' : Hp} {v : V} {d : PyData} (s : Step a H H') (h : Rep K [a] H v d) : Rep K [a] H' v d := h.but s.but
theorem Iq.st {K : Frag} {a : Addr} {H H' : Hp} {v : V} {ns : List Int} (s : Step a H H') (h : Iq K [a] H v ns) : Iq K [a] H' v ns := h.but s.but
end SU

namespace SU
open PySem PySem.Spec PyProof.Rows L2
/-! ### the head's facts, each a look of one's own at the written part -/
abbrev FXs := List (PySem.W.Frag → Bool)
/-- a def with a closure: the names of its cells -/
abbrev FnC : Type := Option (Str × Str × Arguments × FuncBody × Scope × Addr × List Str × Addr)
def fnC (K : Frag) (p : Str × Option Str) : FnC := match K.lookup (He.fAd K p) with
  | some ⟨_, _, .func fd, _⟩ => some (fd.name, fd.qualname, fd.params, fd.body, fd.scope, fd.globals, fd.closure.map (·.1), fd.builtins)
  | _ => none
def valC (d : He.DefD) : FnC := some (d.name, d.qual, d.params, .stmts d.body, d.scope, mainGlobals, ["__class__"], builtinsNs)
abbrev AlG : Type := Bool × (List He.FnW × List FnC)
def obsG (fx : FXs) (fn cn : List He.DefD) (K : Frag) : AlG := ((fx.all fun f => f K) && fn.all fun d => d.ok K, (fn.map fun d => He.fnW K d.at_, cn.map fun d => fnC K d.at_))
def valG (fn cn : List He.DefD) : AlG := (true, (fn.map He.DefD.val, cn.map valC))
def SaysG (fx : FXs) (fn cn : List He.DefD) (K : Frag) : Prop := obsG fx fn cn K = valG fn cn
def obsGG (n : Nat) (fx : FXs) (fn cn : List He.DefD) (g : Addr → Option Obj) : AlG := obsG fx fn cn (He.frG g (He.asD g n ++ [cStatics]))
def hookG (n : Nat) (fx : FXs) (fn cn : List He.DefD) : PySem.W.Hook where
  α := AlG
  obs := fun s => obsGG n fx fn cn s.heap.get?
  val := fun _ => valG fn cn
  says := fun _ h => ∃ K : PySem.W.Frag, K.In h ∧ SaysG fx fn cn K
  of := fun _ _ e => ⟨_, He.frG_in, e⟩
  keeps := fun _ _ _ ⟨K, hK, c⟩ k => ⟨K, PySem.W.Frag.In.keeps hK k, c⟩
theorem obsGG_eq {n : Nat} {fx : FXs} {fn cn : List He.DefD} {g : Addr → Option Obj} {s : Shared} (h : ∀ a, g a = s.heap.get? a) : obsGG n fx fn cn g = (hookG n fx fn cn).obs s := by
  have e : g = s.heap.get? := funext h
  rw [e] <;> rfl
section
variable {fx : FXs} {fn cn : List He.DefD} {K : Frag}
theorem SaysG.fact (c : SaysG fx fn cn K) (i : Nat) {f : Frag → Bool} (h : fx[i]? = some f := by rfl) : f K = true := by
  have c1 := (He.ba (show ((fx.all fun f => f K) && fn.all fun d => d.ok K) = true from congrArg (fun z : AlG => z.1) c)).1
  exact List.all_eq_true.mp c1 f (List.mem_of_getElem? h)
theorem SaysG.def_ (c : SaysG fx fn cn K) (i : Nat) {d : He.DefD} (h : fn[i]? = some d := by rfl) : ∃ fd, FunD K d.name d.qual d.params d.body d.scope (d.dvs K) (d.kws K) (He.fAd K d.at_) fd := by
  have c2 := (He.ba (show ((fx.all fun f => f K) && fn.all fun d => d.ok K) = true from congrArg (fun z : AlG => z.1) c)).2
  have e : fn.map (fun d => He.fnW K d.at_) = fn.map He.DefD.val := congrArg (fun z : AlG => z.2.1) c
  have e2 : (fn.map fun d => He.fnW K d.at_)[i]? = (fn.map He.DefD.val)[i]? := by rw [e]
  rw [List.getElem?_map, List.getElem?_map, h] at e2
  exact He.DefD.funD (Option.some.inj e2) (List.all_eq_true.mp c2 d (List.mem_of_getElem? h))
theorem SaysG.init (c : SaysG fx fn cn K) (i : Nat) {d : He.DefD} (h : cn[i]? = some d := by rfl) : fnC K d.at_ = valC d := by
  have e : cn.map (fun d => fnC K d.at_) = cn.map valC := congrArg (fun z : AlG => z.2.2) c
  have e2 : (cn.map fun d => fnC K d.at_)[i]? = (cn.map valC)[i]? := by rw [e]
  rw [List.getElem?_map, List.getElem?_map, h] at e2
  exact Option.some.inj e2
end
abbrev cutFile : Str := "/claim/cut.py"
/-- the module's names, the program's file -/
structure Glob (P : Program) (K : Frag) (mg : Str → Option Value) : Prop where
  ex : ∃ h : Heap, K.In h ∧ h.Ns mainGlobals mg
  file : (P.main.file : Str) = cutFile
  top : (P.main.scope.names.lookup ("super" : Str)).isSome = false
theorem Glob.glo {P : Program} {K : Frag} {mg : Str → Option Value} (g : Glob P K mg) {x : Str} (c : (He.Fa.glo x).ok K = true) : mg x = some (.ref (He.ga K x)) := by
  obtain ⟨h, X, G⟩ := g.ex
  exact He.glo_ok X G c
theorem Glob.free {P : Program} {K : Frag} {mg : Str → Option Value} (g : Glob P K mg) {x : Str} (c : (He.Fa.free x).ok K = true) : mg x = none := by
  obtain ⟨h, X, G⟩ := g.ex
  exact He.free_ok X G c
/-! ### defs that are called by their names -/
structure Cal (P : Program) (w : World) (K : Frag) (mg : Str → Option Value) (base : Heap) (k : Nat) (st : Stmt) (ps : List Str) (x : Str) (sp : Sp) : Prop where
  ex : ∃ (f : Addr) (fd : FuncData), FnOk P w K mg base CX0 k f fd ps sp ∧ mg x = some (.ref f) ∧ FunD K x x (defArgs st) (defBody st) (defScope st) [] [] f fd ∧ Binds K fd ps []
section
variable {P : Program} {w : World} {K : Frag} {mg : Str → Option Value} {base : Heap}
theorem calG {x : Str} {st : Stmt} {N ps : List Str} {k : Nat} {sp : Sp} {f : Addr} (hm : mg x = some (.ref f)) (hd : ∃ fd, FunD K x x (defArgs st) (defBody st) (defScope st) [] [] f fd ∧ Binds K fd ps [])
    (S : FnScope N ps (defScope st)) (len : ∀ vs H Q E, sp vs H Q E → vs.length = ps.length)
    (hbody : ∀ (cdv : Value) (A : Around) (outer : List Env) (s : Shared) (H : Hp) (vs : List V) (Q : VK) (E : XK), Room k (A.deeper (envOfC x (defScope st) s.heap.objs.size f cdv)) → sp vs H Q E →
      ∃ t, PSs (cxOf CX0 P w K mg base N x (defScope st) f cdv A outer s H E).nox (defBody st) t ∧ t { nx := fun _ H' => Q .non H', rt := Q } (start N vs) H) : Cal P w K mg base (k + 1) st ps x sp := by
  obtain ⟨fd, F, b⟩ := hd
  refine ⟨f, fd, F.ok S len fun cdv A outer s H vs Q E hr h => ?_, hm, F, b⟩
  obtain ⟨t, h1, h2⟩ := hbody cdv A outer s H vs Q E hr h
  exact ⟨t, h1.nox, h2⟩
variable {st : Stmt} {ps : List Str}
theorem Cal.mono {j k : Nat} {x : Str} {sp : Sp} (c : Cal P w K mg base j st ps x sp) (h : j ≤ k) : Cal P w K mg base k st ps x sp := by
  obtain ⟨f, fd, F, m, D, b⟩ := c.ex
  exact ⟨f, fd, F.mono h, m, D, b⟩
theorem Cal.imp {k : Nat} {x : Str} {sp sp' : Sp} (c : Cal P w K mg base k st ps x sp) (h : ∀ vs H Q E, sp' vs H Q E → sp vs H Q E) : Cal P w K mg base k st ps x sp' := by
  obtain ⟨f, fd, F, m, D, b⟩ := c.ex
  exact ⟨f, fd, F.imp h, m, D, b⟩
end
section
variable {X : Cx} {k j : Nat} {x : Str} {sp : Sp} {p pos : Pos} {e : Expr} {es : List Expr} {t : TA} {st : Stmt} {ps : List Str}
theorem pe_c (c : Cal X.prog X.w X.K X.mg X.base k st ps x sp) (hr : Room j X.A) (hk : k ≤ j) (hg : Gl X x) (ha : PA X (e :: es) t)
    (hdb : (x == ("__debug__" : Str)) = false := by decide) (he : starEach (e :: es) X.env = (false, eval e X.env) :: starEach es X.env := by rfl) (hpl : (backTo pos (starEach es X.env)).any (·.1) = false := by rfl) :
    PE X (.Call (.Name x p) (e :: es) [] pos) (tCall sp [] E0 t) := by
  obtain ⟨f, fd, F, hm, D, b⟩ := c.ex
  exact pe_call F (hr.mono hk) hg hm D.kp b .nil pass0 ha hdb he hpl
/-- how keywords are put: n positional values, the names ks -/
structure KwP (st : Stmt) (x : Str) (ps : List Str) (n : Nat) (ks : List Str) (g : ∀ {α : Type}, List α → List α → List α) : Prop where
  rel : ∀ {vs : List V} {us : List Value} {zs : List V} {ws : List Value}, Vals vs us → Vals zs ws → us.length = n → ws.length = ks.length → Vals (g vs zs) (g us ws)
  bd : ∀ (kV doc pm : Value) (an : Option Addr) (cdv ct : Value) (us ws : List Value), us.length = n → ws.length = ks.length → bindArgs (PySem.W.fnOf x x (defArgs st) (defBody st) (defScope st) .none kV doc pm an cdv ct) ⟨us, ks.zip ws⟩ = pure (ps.zip (g us ws))
variable {kws : List Keyword} {tk : TA} {n : Nat} {ks : List Str} {g : ∀ {α : Type}, List α → List α → List α}
theorem KwP.to {K : Frag} {f : Addr} {fd : FuncData} (w : KwP st x ps n ks g) (F : FunD K x x (defArgs st) (defBody st) (defScope st) [] [] f fd) {s : Shared} {us ws : List Value} (h1 : us.length = n) (h2 : ws.length = ks.length) : BindsTo s fd ⟨us, ks.zip ws⟩ (ps.zip (g us ws)) := by
  obtain ⟨oc, od, dV, kV, doc, pm, an, cdv, ct, osl, rfl, lk, hcd, hD, hK⟩ := F.ex
  rcases hD with ⟨_, rfl⟩ | ⟨e, _⟩
  · exact BindsTo.of_eq (w.bd kV doc pm an cdv ct us ws h1 h2)
  · exact absurd rfl e
theorem run_ck {pins : List (Addr × Obj)} {σ : L2.St} {H : Hp} {s : Shared} {Q : VK} {us ws : List Value} {vs zs : List V} (c : Cal X.prog X.w X.K X.mg X.base k st ps x sp) (w : KwP st x ps n ks g) (hr : Room j X.A) (hk : k ≤ j)
    (I : Inv X pins σ H s) (r : Vals vs us) (rz : Vals zs ws) (l1 : vs.length = n) (l2 : zs.length = ks.length) (h : sp (g vs zs) H Q E0) {f : Addr} (hf : X.mg x = some (.ref f)) : wpAny (model X.prog X.w) X.A (call (.ref f) us (ks.zip ws)) (EP X pins σ Q) X.xe s := by
  obtain ⟨f', fd, F, hm, D, b⟩ := c.ex
  rw [hm] at hf
  cases hf
  have h1 : us.length = n := r.length.symm.trans l1
  have h2 : ws.length = ks.length := rz.length.symm.trans l2
  refine wpAny_call (codeAny_mono (F.run X.A X.stack s H ⟨us, ks.zip ws⟩ (g us ws) (g vs zs) Q E0 (hr.mono hk) I.env0 (w.to D h1 h2) (w.rel r rz h1 h2) h) fun r s' hq => ?_)
  match r, hq with
  | .error e, hq => exact (pass0 pins σ H s e s' I hq)
  | .ok (.ret u), hq => exact I.after hq
  | .ok .next, hq => exact False.elim hq
  | .ok .brk, hq => exact False.elim hq
  | .ok .cont, hq => exact False.elim hq
def tCallKw (n m : Nat) (sp : Sp) (g : List V → List V → List V) (t tk : TA) : TE := fun σ H Q => t σ H fun vs H1 => tk σ H1 fun zs H2 => vs.length = n ∧ zs.length = m ∧ sp (g vs zs) H2 Q E0
theorem pe_ck (w : KwP st x ps n ks g) (c : Cal X.prog X.w X.K X.mg X.base k st ps x sp) (hr : Room j X.A) (hk : k ≤ j) (hg : Gl X x) (ha : PA X (e :: es) t) (hkw : PK X kws tk)
    (hall : (backToKw pos (keywordEach kws X.env)).all (·.1.isSome) = true := by rfl) (hks : (backToKw pos (keywordEach kws X.env)).filterMap (·.1) = ks := by rfl)
    (hdb : (x == ("__debug__" : Str)) = false := by decide) (he : starEach (e :: es) X.env = (false, eval e X.env) :: starEach es X.env := by rfl)
    (hpl : ((backTo pos (starEach (e :: es) X.env)).any (·.1) || (backToKw pos (keywordEach kws X.env)).any (·.1.isNone)) = false := by rfl) :
    PE X (.Call (.Name x p) (e :: es) kws pos) (tCallKw n ks.length sp g t tk) := by
  obtain ⟨f, fd, F, hm, D, b⟩ := id c.ex
  refine ⟨fun pins s σ H Q I h => ?_⟩
  refine wpAny_Call_Name_kw (ld_glob I hg hm ?_ hdb)
  refine PySem.W.callWith_KW (h₀ := X.base) I.ok.mod.kin D.kp hall (thn (ha.run pos pins s σ H _ I h) fun us s1 ⟨vs, H1, I1, r, q⟩ => ?_) hpl he
  refine thn (hkw.run pos pins s1 σ H1 _ I1 q) fun ws s2 ⟨zs, H2, I2, rz, l1, l2, q2⟩ => ⟨I2.kIn, ?_⟩
  rw [hks]
  exact run_ck c w hr hk I2 r rz l1 l2 q2 hm
/-- with keywords alone -/
theorem pe_ck0 (w : KwP st x ps 0 ks g) (c : Cal X.prog X.w X.K X.mg X.base k st ps x sp) (hr : Room j X.A) (hk : k ≤ j) (hg : Gl X x) (hkw : PK X kws tk)
    (hall : (backToKw pos (keywordEach kws X.env)).all (·.1.isSome) = true := by rfl) (hks : (backToKw pos (keywordEach kws X.env)).filterMap (·.1) = ks := by rfl)
    (hdb : (x == ("__debug__" : Str)) = false := by decide)
    (hpl : ((backTo pos (starEach [] X.env)).any (·.1) || (backToKw pos (keywordEach kws X.env)).any (·.1.isNone)) = false := by rfl) :
    PE X (.Call (.Name x p) [] kws pos) (tCallKw 0 ks.length sp g tNil tk) := by
  obtain ⟨f, fd, F, hm, D, b⟩ := id c.ex
  refine ⟨fun pins s σ H Q I h => ?_⟩
  refine wpAny_Call_Name_kw (ld_glob I hg hm ?_ hdb)
  refine PySem.W.callWith_KW0 (h₀ := X.base) I.ok.mod.kin D.kp hall (thn (hkw.run pos pins s σ H _ I h) fun ws s2 ⟨zs, H2, I2, rz, l1, l2, q2⟩ => ⟨I2.kIn, ?_⟩) hpl
  rw [hks]
  exact run_ck (us := []) (vs := []) c w hr hk I2 .nil rz rfl l2 q2 hm
end
/-! ### reading a sequence by place -/
section
variable {X : Cx}
def rIxQ (K : Frag) : R2 := fun x y H Q => ∃ p xs i v, x = .ref p ∧ y = .int i ∧ Sq K H p xs ∧ atI xs i = some v ∧ Q v H
theorem ix_sq : IxR X (rIxQ X.K) := by
  intro value slice pins s σ H x y v u Q I rx ry q hs
  obtain ⟨p, xs, i, z, e1, e2, h, e3, q⟩ := q
  rcases h with h | h
  · exact ix_list value slice pins s σ H x y v u Q I rx ry ⟨p, xs, i, z, e1, e2, h, e3, q⟩ hs
  · exact ix_tup value slice pins s σ H x y v u Q I rx ry ⟨p, xs, i, z, e1, e2, h, e3, q⟩ hs
end
end SU

namespace SU
open PySem PySem.Spec PyProof.Rows L2
/-! ### walking a list or a tuple, two of them in step -/
/-- true: a list; false: a tuple -/
def SqB (b : Bool) (K : Frag) (H : Hp) (a : Addr) (xs : List V) : Prop := match b with
  | true => SqL K H a xs
  | false => SqT K H a xs
theorem Sq.kind {K : Frag} {H : Hp} {a : Addr} {xs : List V} (h : Sq K H a xs) : ∃ b, SqB b K H a xs := by
  rcases h with h | h
  · exact ⟨true, h⟩
  · exact ⟨false, h⟩
theorem SqB.sq {b : Bool} {K : Frag} {H : Hp} {a : Addr} {xs : List V} (h : SqB b K H a xs) : Sq K H a xs := by
  cases b with
  | true => exact .inl h
  | false => exact .inr h
theorem SqB.but {b : Bool} {K : Frag} {S : List Addr} {H H' : Hp} {p : Addr} {xs : List V} (e : But S H H') (n : p ∉ S) (h : SqB b K H p xs) : SqB b K H' p xs := by
  cases b with
  | true => exact SqL.but e n h
  | false => exact SqT.but e n h
theorem SqB.same {b : Bool} {K : Frag} {H H' : Hp} {p : Addr} {xs : List V} (e : Same H H') (h : SqB b K H p xs) : SqB b K H' p xs := SqB.but (S := []) (.of e) (by simp) h
theorem Turn.imp {P : Program} {w : World} {K : Frag} {tg : Expr} {J J' : It} {fp : List Addr} {it : Addr} {tn : Nat → Heap → Prop} (T : Turn P w K tg J fp it tn) (hg : ∀ i H, J'.go i H → J.go i H)
    (hy : ∀ i H x H', J'.go i H → J.yld i H x H' → J'.yld i H x H') (hs : ∀ i H, J'.stop i H → J.stop i H) : Turn P w K tg J' fp it tn where
  mem := T.mem
  obj := T.obj
  keep := T.keep
  item := fun X a b c d i pins s σ H E I hf st go => thn (T.item X a b c d i pins s σ H E I hf st (hg i H go)) fun r s1 ⟨u, e, h⟩ => ⟨u, e, thn h fun _ s2 ⟨x, H', I', rx, y, z⟩ => ⟨x, H', I', rx, hy i H x H' go y, z⟩⟩
  done := fun X a b c d i pins s σ H E I hf st go => T.done X a b c d i pins s σ H E I hf st (hs i H go)
  self := T.self
def ItB (K : Frag) (b : Bool) (a : Addr) (xs : List V) : It :=
  ⟨fun i H => SqB b K H a xs ∧ i < xs.length, fun i H x H' => H' = H ∧ xs[i]? = some x, fun i H => SqB b K H a xs ∧ xs.length ≤ i⟩
theorem walk_sqB {K : Frag} {b : Bool} {a : Addr} {xs : List V} : Walk (ItB K b a xs) xs.length (fun H => SqB b K H a xs) (YAt xs) :=
  ⟨fun _ _ hi h => ⟨h, hi⟩, fun _ h => ⟨h, Nat.le_refl _⟩, fun _ _ _ _ _ _ y => y⟩
def iSq (K : Frag) (tl : TE) : TI := fun σ H R => tl σ H fun x H1 => ∃ a xs, x = .ref a ∧ Sq K H1 a xs ∧ ∀ b, SqB b K H1 a xs → R (ItB K b a xs) H1
theorem PI.imp {X : Cx} {tg iter : Expr} {wi wi' : TI} (h : PI X tg iter wi) (e : ∀ σ H R, wi' σ H R → wi σ H R) : PI X tg iter wi' :=
  ⟨fun pins s σ H R I q => h.run pins s σ H R I (e σ H R q)⟩
theorem PIE.turn {X : Cx} {pins : List (Addr × Obj)} {σ : L2.St} {tg : Expr} {R R' : It → Hp → Prop} {v : Value} {s : Shared} (h : PIE X pins σ tg R v s)
    (e : ∀ (J : It) (H : Hp) (fp : List Addr) (it : Addr) (tn : Nat → Heap → Prop), R J H → Turn X.prog X.w X.K tg J fp it tn → ∃ J', Turn X.prog X.w X.K tg J' fp it tn ∧ R' J' H) : PIE X pins σ tg R' v s := by
  obtain ⟨it, fp, tn, J, H', a, I, T, z, f, r⟩ := h
  obtain ⟨J', T', r'⟩ := e J H' fp it tn r T
  exact ⟨it, fp, tn, J', H', a, I, T', z, f, r'⟩
theorem pi_sq {X : Cx} {tg l : Expr} {tl : TE} (hl : PE X l tl) : PI X tg l (iSq X.K tl) := by
  refine ⟨fun pins s σ H R I h => ?_⟩
  refine thn (hl.run pins s σ H _ I h) fun v s1 ⟨x, H1, I1, r1, q1⟩ => ?_
  obtain ⟨a, xs, e, hq, q⟩ := q1
  subst e
  cases r1
  rcases hq with hq | hq
  · obtain ⟨its, rv, p, hz⟩ := I1.list hq
    refine wpAny_pyIter_list p.isList ?_
    refine ⟨s1.heap.objs.size, [s1.heap.objs.size], _, _, H1, rfl, I1.kept (t' := s1.toks) fun b o e => Heap.get?_push_of_some _ e,
      Turn.imp (J' := ItB X.K true a xs) (turn_list a _) (fun i H go => ⟨xs, _, go.1, List.getElem?_eq_getElem go.2⟩) (fun i H x H' go y => ⟨y.1, y.2 xs go.1⟩) (fun i H st => ⟨xs, st.1, st.2⟩), ⟨_, Heap.get?_push_size _ rfl, rfl, rfl⟩, fun b hb => ?_, q true hq⟩
    have e : b = s1.heap.objs.size := by simpa using hb
    subst e
    exact I1.fpOk (Nat.le_refl _) (I1.hok.fresh (Nat.le_refl _))
  · obtain ⟨its, rv, p, hz⟩ := I1.tuple hq
    refine wpAny_pyIter_tuple (show s1.heap.IsTuple a its.toArray from p) ?_
    refine ⟨s1.heap.objs.size, [s1.heap.objs.size], _, _, H1, rfl, I1.kept (t' := s1.toks) fun b o e => Heap.get?_push_of_some _ e,
      Turn.imp (J' := ItB X.K false a xs) (turn_tuple a _) (fun i H go => ⟨xs, _, go.1, List.getElem?_eq_getElem go.2⟩) (fun i H x H' go y => ⟨y.1, y.2 xs go.1⟩) (fun i H st => ⟨xs, st.1, st.2⟩), ⟨_, Heap.get?_push_size _ rfl, rfl, rfl⟩, fun b hb => ?_, q false hq⟩
    have e : b = s1.heap.objs.size := by simpa using hb
    subst e
    exact I1.fpOk (Nat.le_refl _) (I1.hok.fresh (Nat.le_refl _))
/-! ### zip -/
def itAt (b : Bool) (h : Heap) (it a : Addr) (i : Nat) : Prop := match b with
  | true => h.IsListIter it a i
  | false => h.IsTupleIter it a i
def sqAt (b : Bool) (h : Heap) (a : Addr) (xs : Array Value) : Prop := match b with
  | true => h.IsList a xs
  | false => h.IsTuple a xs
theorem drawsB {prog : Program} {w : World} {A : Around} (b : Bool) (hh : A.handled = none) (it l : Addr) (hne : l ≠ it) (items : Array Value) :
    Draws prog w A it [it, l] items.size (fun i v => items[i]? = some v) (fun i h => itAt b h it l i ∧ sqAt b h l items) := by
  cases b with
  | true => exact Draws.list hh it l hne items
  | false => exact Draws.tuple hh it l hne items
theorem inv_sqB {X : Cx} {pins : List (Addr × Obj)} {σ : L2.St} {H : Hp} {s : Shared} {b : Bool} {a : Addr} {xs : List V} (I : Inv X pins σ H s) (h : SqB b X.K H a xs) :
    ∃ its : List Value, Vals xs its ∧ sqAt b s.heap a its.toArray ∧ a < s.heap.objs.size := by
  cases b with
  | true =>
    obtain ⟨its, rv, p, _⟩ := I.list h
    exact ⟨its, rv, p.isList, p.lt⟩
  | false =>
    obtain ⟨its, rv, p, _⟩ := I.tuple h
    obtain ⟨o, e, _⟩ := id p
    exact ⟨its, rv, p, Heap.lt_size e⟩
theorem itAt.lt {b : Bool} {h : Heap} {it a : Addr} {i : Nat} (x : itAt b h it a i) : it < h.objs.size := by
  cases b with
  | true => obtain ⟨_, e, _⟩ := x; exact Heap.lt_size e
  | false => obtain ⟨_, e, _⟩ := x; exact Heap.lt_size e
theorem itAt.at {b : Bool} {h h' : Heap} {it a : Addr} {i : Nat} (x : itAt b h it a i) (k : ∀ o, h.get? it = some o → h'.get? it = some o) : itAt b h' it a i := by
  cases b with
  | true => exact Heap.IsListIter.at x k
  | false => exact Heap.IsTupleIter.at x k
theorem itAt.obj {b : Bool} {h : Heap} {it a : Addr} {i : Nat} (x : itAt b h it a i) : ∃ o, h.get? it = some o ∧ ∀ v, o.data ≠ .cell v := by
  cases b with
  | true => obtain ⟨o, e, _, d⟩ := x; exact ⟨o, e, fun v q => by rw [d] at q; cases q⟩
  | false => obtain ⟨o, e, _, d⟩ := x; exact ⟨o, e, fun v q => by rw [d] at q; cases q⟩
def ItzB (K : Frag) (b1 b2 : Bool) (a b : Addr) (xs ys : List V) : It :=
  ⟨fun i H => (SqB b1 K H a xs ∧ SqB b2 K H b ys) ∧ i < xs.length ∧ i < ys.length, fun i H v H' => ∃ T x y, v = .ref T ∧ H T = none ∧ H' = upd H T (.tup [x, y]) ∧ xs[i]? = some x ∧ ys[i]? = some y,
    fun i H => (SqB b1 K H a xs ∧ SqB b2 K H b ys) ∧ i ≤ xs.length ∧ i ≤ ys.length ∧ (i = xs.length ∨ i = ys.length)⟩
theorem walk_zipB {K : Frag} {b1 b2 : Bool} {a b : Addr} {xs ys : List V} {n : Nat} (hn : n = min xs.length ys.length) :
    Walk (ItzB K b1 b2 a b xs ys) n (fun H => SqB b1 K H a xs ∧ SqB b2 K H b ys) (YPair (fun i => xs[i]?) (fun i => ys[i]?)) := by
  subst hn
  refine ⟨fun i _ hi h => ⟨h, by omega, by omega⟩, fun _ h => ⟨h, by omega, by omega, by omega⟩, fun _ _ _ _ _ _ y => y⟩
theorem turn_zipB {P : Program} {w : World} {K : Frag} {elts : List Expr} {kk : Nat} {tpos : Pos} {b1 b2 : Bool} {a b z TI TO i1 i2 : Addr} {xs ys : List V} (D : ZipSep2 z TI TO i1 i2 [i1, a] [i2, b]) (n1 : a ≠ i1) (n2 : b ≠ i2) :
    Turn P w K (.Tuple elts kk tpos) (ItzB K b1 b2 a b xs ys) [z, TI, TO, i1, i2] z (fun i h => IsZip h z TI TO .none ∧ IsTupOf2 h TI (.ref i1) (.ref i2) ∧ (∃ x y, IsTupOf2 h TO x y) ∧ itAt b1 h i1 a i ∧ itAt b2 h i2 b i) where
  mem := by simp
  obj := fun i h st c hc => by
    obtain ⟨hz, hTI, ⟨x, y, hTO⟩, h1, h2⟩ := st
    have e' : c = z ∨ c = TI ∨ c = TO ∨ c = i1 ∨ c = i2 := by simpa using hc
    rcases e' with q | q | q | q | q
    · rw [q]; exact ⟨_, hz, fun v q => nomatch q⟩
    · rw [q]; exact ⟨_, hTI, fun v q => nomatch q⟩
    · rw [q]; exact ⟨_, hTO, fun v q => nomatch q⟩
    · rw [q]; exact h1.obj
    · rw [q]; exact h2.obj
  keep := fun i h h' st k => by
    obtain ⟨hz, hTI, ⟨x, y, hTO⟩, h1, h2⟩ := st
    exact ⟨k z (by simp) _ hz, k TI (by simp) _ hTI, ⟨x, y, k TO (by simp) _ hTO⟩, h1.at fun o q => k i1 (by simp) o q, h2.at fun o q => k i2 (by simp) o q⟩
  item := by
    intro X hP hw hK hc i pins s σ H E I hf st hg
    subst hP hw hK
    obtain ⟨hz, hTI, ⟨x0, y0, hTO⟩, h1, h2⟩ := st
    obtain ⟨⟨hqx, hqy⟩, hx, hy⟩ := hg
    obtain ⟨its, rv, p, _⟩ := inv_sqB I hqx
    obtain ⟨its2, rv2, p2, _⟩ := inv_sqB I hqy
    have l1 := rv.length
    have l2 := rv2.length
    have hh : X.A.in1.handled = none := I.ok.hd hc
    have hzl : z < s.heap.objs.size := Heap.lt_size hz
    refine wpAny_pyNext_zipD2_item D (drawsB b1 hh i1 a n1 its.toArray) (drawsB b2 hh i2 b n2 its2.toArray) hz hTI hTO ⟨h1, p⟩ ⟨h2, p2⟩ (by simp; omega) (by simp; omega) fun u u2 h' tk hu hu2 z' TO' h1' h2' hT hsz hk => ?_
    obtain ⟨x, ex⟩ : ∃ x, xs[i]? = some x := ⟨_, List.getElem?_eq_getElem hx⟩
    obtain ⟨y, ey⟩ : ∃ y, ys[i]? = some y := ⟨_, List.getElem?_eq_getElem hy⟩
    obtain ⟨u', e1, ru⟩ := rv.get ex
    obtain ⟨u2', e2, ru2⟩ := rv2.get ey
    have eu : u = u' := by
      have q : its[i]? = some u := by simpa using hu
      exact Option.some.inj (q.symm.trans e1)
    have eu2 : u2 = u2' := by
      have q : its2[i]? = some u2 := by simpa using hu2
      exact Option.some.inj (q.symm.trans e2)
    subst eu eu2
    refine ⟨_, rfl, wpAny_letOwnedTupleGo_zip (s := { s with heap := h', toks := tk }) z' fun h'' z'' sb => ?_⟩
    have hT2 : h''.get? s.heap.objs.size = some { cls := .type "tuple", data := .seq #[u, u2] } := (sb.2 _ (Nat.ne_of_gt hzl)).trans hT
    have new : ObjOk X.prog X.w (upd H s.heap.objs.size (.tup [x, y])) h'' s.heap.objs.size (.tup [x, y]) :=
      ⟨by show 2 ≤ sizeLine; decide, [u, u2], .cons ru (.cons ru2 .nil), ⟨_, hT2, rfl, _, rfl⟩⟩
    have I1 : Inv X pins σ (upd H s.heap.objs.size (.tup [x, y])) { s with heap := h'', toks := tk } :=
      I.turnedNew (t' := tk) (ch := [z, TI, TO, i1, i2]) (fun c o hb q => (sb.2 c (fun q' => hb (by simp [q']))).trans (hk c o (fun q' => hb (by simp [q'])) (fun q' => hb (by simp [q'])) (fun q' => hb (by simp [q'])) (fun q' => hb (by simp [q'])) q)) hf (Nat.le_refl _) new
    refine ⟨.ref s.heap.objs.size, _, I1, rfl, ⟨_, x, y, rfl, I.hok.fresh (Nat.le_refl _), rfl, ex, ey⟩, ⟨z'', ?_, ⟨u, u2, ?_⟩, ?_, ?_⟩, fun c hcm => ?_⟩
    · exact (sb.2 _ D.TIz).trans (hk _ _ D.TIz D.TITO D.TIi1 D.TIi2 hTI)
    · exact (sb.2 _ D.TOz).trans TO'
    · exact h1'.1.at fun o q => (sb.2 _ (Ne.symm D.zi1)).trans q
    · exact h2'.1.at fun o q => (sb.2 _ (Ne.symm D.zi2)).trans q
    · have hlt : c < s.heap.objs.size := by
        have e' : c = z ∨ c = TI ∨ c = TO ∨ c = i1 ∨ c = i2 := by simpa using hcm
        rcases e' with q | q | q | q | q
        · rw [q]; exact hzl
        · rw [q]; exact Heap.lt_size hTI
        · rw [q]; exact Heap.lt_size hTO
        · rw [q]; exact h1.lt
        · rw [q]; exact h2.lt
      rw [upd_ne (Nat.ne_of_lt hlt)]
      exact (hf c hcm).1
  done := by
    intro X hP hw hK hc i pins s σ H E I hf st hg
    subst hP hw hK
    obtain ⟨hz, hTI, ⟨x0, y0, hTO⟩, h1, h2⟩ := st
    obtain ⟨⟨hqx, hqy⟩, k1, k2, hend⟩ := hg
    obtain ⟨its, rv, p, _⟩ := inv_sqB I hqx
    obtain ⟨its2, rv2, p2, _⟩ := inv_sqB I hqy
    have l1 := rv.length
    have l2 := rv2.length
    have hh : X.A.in1.handled = none := I.ok.hd hc
    exact wpAny_pyNext_zipD2_end D (drawsB b1 hh i1 a n1 its.toArray) (drawsB b2 hh i2 b n2 its2.toArray) hz hTI hTO ⟨h1, p⟩ ⟨h2, p2⟩ (by simp; omega) (by simp; omega) (by simp; omega) fun h' tk hk => ⟨rfl, I.turnedL (t' := tk) (ch := [z, TI, TO, i1, i2]) (fun c o hb q =>
      hk c o (fun q' => hb (by simp [q'])) (fun q' => hb (by simp [q'])) (fun q' => hb (by simp [q'])) (fun q' => hb (by simp [q'])) q) hf⟩
  self := fun A i s Q E st h => wpAny_pyIter_zip st.1 h
theorem beginsB (b : Bool) (l : Addr) (items : Array Value) : ∃ o, Begins (.ref l) o (fun h => sqAt b h l items) ∧ ∀ (h : Heap) (it : Addr), h.get? it = some o → itAt b h it l 0 := by
  cases b with
  | true => exact ⟨_, begins_list l items, fun h it e => ⟨_, e, rfl, rfl⟩⟩
  | false => exact ⟨_, begins_tuple l items, fun h it e => ⟨_, e, rfl, rfl⟩⟩
def iZipQ (K : Frag) (ta : TA) : TI := fun σ H R => ta σ H fun vs H1 => ∃ a b xs ys, vs = [.ref a, .ref b] ∧ Sq K H1 a xs ∧ Sq K H1 b ys ∧ ∀ b1 b2, SqB b1 K H1 a xs → SqB b2 K H1 b ys → R (ItzB K b1 b2 a b xs ys) H1
theorem pi_zipQ {X : Cx} {e e2 : Expr} {ta : TA} {p pos tpos : Pos} {elts : List Expr} {kk : Nat} (hg : Gl X "zip") (hm : X.mg "zip" = none) (ha : PA X [e, e2] ta)
    (hs : starEach [e, e2] X.env = (false, eval e X.env) :: starEach [e2] X.env := by rfl) (hpl : (backTo pos (starEach [e2] X.env)).any (·.1) = false := by rfl) :
    PI X (.Tuple elts kk tpos) (.Call (.Name "zip" p) [e, e2] [] pos) (iZipQ X.K ta) := by
  refine ⟨fun pins s σ H R I h => ?_⟩
  refine Call_ (ld_blt I hg hm PyProof.Rows.boot_zip (PyProof.Rows.callWith_type1 (thn (ha.run pos pins s σ H _ I h) fun us s1 ⟨vs, H1, I1, r1, q1⟩ => ?_) hs hpl))
  obtain ⟨a, b, xs, ys, ex, hx, hy, q1⟩ := q1
  subst ex
  cases r1 with
  | cons r rr =>
    cases rr with
    | cons r' rr =>
      cases rr
      cases r
      cases r'
      obtain ⟨b1, hx⟩ := hx.kind
      obtain ⟨b2, hy⟩ := hy.kind
      obtain ⟨its, rv, p1, la⟩ := inv_sqB I1 hx
      obtain ⟨its2, rv2, p2, lb⟩ := inv_sqB I1 hy
      obtain ⟨o1, B1, k1⟩ := beginsB b1 a its.toArray
      obtain ⟨o2, B2, k2⟩ := beginsB b2 b its2.toArray
      have fresh5 : ∀ c, c ∈ [s1.heap.objs.size + 4, s1.heap.objs.size + 2, s1.heap.objs.size + 3, s1.heap.objs.size, s1.heap.objs.size + 1] → FpOk X pins H1 c := fun c hcm => by
        have e' : c = s1.heap.objs.size + 4 ∨ c = s1.heap.objs.size + 2 ∨ c = s1.heap.objs.size + 3 ∨ c = s1.heap.objs.size ∨ c = s1.heap.objs.size + 1 := by simpa using hcm
        have hle : s1.heap.objs.size ≤ c := by
          rcases e' with z | z | z | z | z
          · rw [z]; exact Nat.le_add_right _ _
          · rw [z]; exact Nat.le_add_right _ _
          · rw [z]; exact Nat.le_add_right _ _
          · rw [z]; exact Nat.le_refl _
          · rw [z]; exact Nat.le_add_right _ _
        exact I1.fpOk hle (I1.hok.fresh hle)
      refine zip_begins2 B1 B2 p1 p2 fun h' hz hTI hTO h1 h2 hsz hk => wpAny_pyIter_zip hz ?_
      have I2 : Inv X pins σ H1 { s1 with heap := h' } := I1.kept (t' := s1.toks) hk
      have na : a ≠ s1.heap.objs.size := Nat.ne_of_lt la
      have nb : b ≠ s1.heap.objs.size + 1 := Nat.ne_of_lt (Nat.lt_succ_of_lt lb)
      exact ⟨s1.heap.objs.size + 4, [s1.heap.objs.size + 4, s1.heap.objs.size + 2, s1.heap.objs.size + 3, s1.heap.objs.size, s1.heap.objs.size + 1], _, _, H1, rfl, I2,
        turn_zipB (b1 := b1) (b2 := b2) (zip_sep2 (fp1 := [a]) (fp2 := [b]) (by simpa using la) (by simpa using lb)) na nb, ⟨hz, hTI, ⟨_, _, hTO⟩, k1 _ _ h1, k2 _ _ h2⟩, fresh5, q1 b1 b2 hx hy⟩
end SU

namespace SU
open PySem PySem.Spec PyProof.Rows L2
/-! ### t[::-1] of a tuple; xs[::-1] of either -/
section
open HT
variable {prog : Program} {w : World} {A : Around} {E : Value → Shared → Prop} {s : Shared}
theorem sliceApplied_rev {sl : Addr} {vl vu vs : Value} {n : Nat} {Q : Int × Int × Nat → Shared → Prop} (hs : s.heap.IsSliceOf sl vl vu vs) (pl : IsPart vl none) (pu : IsPart vu none) (ps : IsPart vs (some (-1)))
    (h : Q ((n : Int) - 1, -1, n) s) : wpAny (model prog w) A (Builtin.Slice.sliceApplied (.ref sl) (pure (n : Int))) Q E s := by
  obtain ⟨os, hos, hcs, hds⟩ := id hs
  unfold Builtin.Slice.sliceApplied Builtin.Slice.sliceFields
  refine wpAny_bind (wpAny_bind (wpAny_field hos hds (x := vl) rfl (wpAny_bind (wpAny_field hos hds (x := vu) rfl (wpAny_bind (wpAny_field hos hds (x := vs) rfl (wpAny_pure ?_)))))))
  refine wpAny_bind (slicePart_ ps ?_)
  show wpAny _ _ (if ((-1 : Int) == 0) = true then _ else _) _ _ s
  rw [if_neg (by decide)]
  refine wpAny_bind (slicePart_ pl (wpAny_bind (slicePart_ pu (wpAny_bind (wpAny_pure ?_)))))
  have e1 : Builtin.Slice.sliceAdjust none none (-1) (n : Int) = ((n : Int) - 1, -1) := by
    unfold Builtin.Slice.sliceAdjust
    simp
  have e2 : Builtin.Slice.slicePlaces ((n : Int) - 1) (-1) (-1) = n := by
    unfold Builtin.Slice.slicePlaces
    simp
    omega
  show wpAny _ _ (match Builtin.Slice.sliceAdjust none none (-1) (n : Int) with | (lo, hi) => pure (lo, (-1 : Int), Builtin.Slice.slicePlaces lo hi (-1))) _ _ s
  rw [e1]
  show wpAny _ _ (pure ((n : Int) - 1, (-1 : Int), Builtin.Slice.slicePlaces ((n : Int) - 1) (-1) (-1))) _ _ s
  rw [e2]
  exact wpAny_pure h
theorem pick_rev (xs : Array Value) : ((List.range xs.size).filterMap fun (m : Nat) => xs[(((xs.size : Int) - 1) + (m : Int) * (-1)).toNat]?).toArray = xs.toList.reverse.toArray := by
  congr 1
  apply List.ext_getElem?
  intro i
  have key : ∀ k, k ≤ xs.size → (List.range k).filterMap (fun (m : Nat) => xs[(((xs.size : Int) - 1) + (m : Int) * (-1)).toNat]?) = (xs.toList.reverse).take k := by
    intro k
    induction k with
    | zero => intro _; simp
    | succ k ih =>
      intro hk
      rw [List.range_succ, List.filterMap_append, ih (by omega), List.take_add_one]
      congr 1
      have e : (((xs.size : Int) - 1) + (k : Int) * (-1)).toNat = xs.size - 1 - k := by omega
      have h2 : xs.size - 1 - k < xs.size := by omega
      simp only [List.filterMap_cons, List.filterMap_nil]
      rw [e]
      have e3 : xs.toList.reverse[k]? = xs[xs.size - 1 - k]? := by
        rw [List.getElem?_reverse (by simpa using (by omega : k < xs.size))]
        simp
      rw [e3, Array.getElem?_eq_getElem h2]
      rfl
  rw [key xs.size (Nat.le_refl _), List.take_of_length_le (by simp)]
theorem getItem_tuple_rev {t sl : Addr} {items : Array Value} {vl vu vs : Value} {Q : Value → Shared → Prop} (ht : IsTup s.heap t items) (hs : s.heap.IsSliceOf sl vl vu vs) (pl : IsPart vl none) (pu : IsPart vu none) (ps : IsPart vs (some (-1)))
    (h : Q (.ref s.heap.objs.size) { s with heap := s.heap.push { cls := .type "tuple", data := .seq items.toList.reverse.toArray } })
    (hsz : items.size ≤ sizeLine) : wpAny (model prog w) A (getItem (.ref t) (.ref sl)) Q E s := by
  have htake : sizeOk (.seq items.toList.reverse.toArray) := by
    show items.toList.reverse.toArray.size ≤ sizeLine
    simpa using hsz
  obtain ⟨os, hos, hcs, hds⟩ := id hs
  have hTs : s.TypeIs (.ref sl) "slice" := ⟨os, hos, hcs⟩
  unfold getItem
  try with_reducible refine wpAny_holding ?_
  first | refine wpAny_bind (wpAny_pure ?_) | skip
  refine wpAny_bind (wpAny_sequenceKey ht.typeIs (by decide) ?_)
  refine wpAny_bind (wpAny_callSpecial?_slot (name := Str.ofString "__getitem__") ht.typeIs PyProof.Rows.slot_tuple_getitem
    (wpAny_call_entry PyProof.Rows.slot_tuple_getitem ht.typeIs entry_tuple_getitem ?_ (args_tuple_getitem _ _)))
  show wpAny _ _ (Builtin.Tuple.tupleItemsOf (.ref t) >>= _) _ _ s
  refine wpAny_bind (tupleItemsOf_ ht ?_)
  refine wpAny_bind (wpAny_typeOf hTs ?_)
  rw [if_pos (by decide)]
  refine wpAny_bind (sliceApplied_rev hs pl pu ps ?_)
  have hno : ¬ ((((items.size : Int) - 1) == 0 && (-1 : Int) == 1 && items.size == items.size) = true) := by
    simp
  show wpAny _ _ (if (((items.size : Int) - 1) == 0 && (-1 : Int) == 1 && items.size == items.size) = true then _ else _) _ _ s
  rw [if_neg hno, pick_rev]
  first
    | exact wpAny_bind (m := Builtin.Tuple.tupleExact _) (wpAny_newObj_type (wpAny_pure ⟨_, rfl, wpAny_pure h⟩) htake)
    | exact wpAny_bind (m := Builtin.Tuple.tupleExact _) (wpAny_newObj_type (wpAny_bind (wpAny_pure (wpAny_pure ⟨_, rfl, wpAny_pure h⟩))) htake)
    | exact wpAny_bind (wpAny_bind (m := Builtin.Tuple.tupleExact _) (wpAny_newObj_type (wpAny_pure (wpAny_pure ⟨_, rfl, wpAny_pure h⟩)) htake))
    | exact wpAny_bind (wpAny_bind (m := Builtin.Tuple.tupleExact _) (wpAny_newObj_type (wpAny_pure ⟨_, rfl, wpAny_pure h⟩) htake))
end
def tRevQ (K : Frag) (te : TE) : TE := fun σ H Q => te σ H fun x H1 => ∃ a xs, x = .ref a ∧ ((SqL K H1 a xs ∧ ∀ p, H1 p = none → Q (.ref p) (upd H1 p (.lst xs.reverse))) ∨ (SqT K H1 a xs ∧ ∀ p, H1 p = none → Q (.ref p) (upd H1 p (.tup xs.reverse))))
theorem pe_revQ {X : Cx} {e : Expr} {te : TE} {k : Nat} {p1 p2 p3 pos : Pos} (he : PE X e te) : PE X (.Subscript e (.Slice none none (some (.UnaryOp .USub (.Constant (.int 1) k p1) p2)) p3) pos) (tRevQ X.K te) := by
  refine ⟨fun pins s σ H Q I h => ?_⟩
  refine Subscript_ (thn (he.run pins s σ H _ I h) fun v s1 ⟨x, H1, I1, r1, q1⟩ => ?_)
  obtain ⟨a, xs, ex, q⟩ := q1
  subst ex
  cases r1
  have hst : PO X (some (.UnaryOp .USub (.Constant (.int 1) k p1) p2)) (tPart (tUn (rU fun i => .int (-i)) (tC (.int 1)))) := po_some (pe_un un_neg pe_int)
  refine wpAny_Slice (thn (po_none.run pins s1 σ H1 (fun o H2 => o = none ∧ H2 = H1) I1 ⟨rfl, rfl⟩) fun vl s2 ⟨l, H2, I2, pl, el, e2⟩ => ?_)
  subst el e2
  refine thn (po_none.run pins s2 σ H2 (fun o H3 => o = none ∧ H3 = H2) I2 ⟨rfl, rfl⟩) fun vu s3 ⟨u, H3, I3, pu, eu, e3⟩ => ?_
  subst eu e3
  refine thn (hst.run pins s3 σ H3 (fun o H4 => o = some (-1) ∧ H4 = H3) I3 ⟨1, rfl, -1, rfl, rfl, rfl⟩) fun vs s4 ⟨o, H4, I4, ps, eo, e4⟩ => ?_
  subst eo e4
  have I5 : Inv X pins σ H4 { s4 with heap := s4.heap.push { cls := .type "slice", data := .fields #[vl, vu, vs] } } := I4.kept (t' := s4.toks) fun b ob q => Heap.get?_push_of_some _ q
  show wpAny (model X.prog X.w) X.A (subscriptTail e (.Slice none none (some (.UnaryOp .USub (.Constant (.int 1) k p1) p2)) p3) (.ref a) (.ref s4.heap.objs.size)) (EP X pins σ Q) X.xe { s4 with heap := s4.heap.push { cls := .type "slice", data := .fields #[vl, vu, vs] } }
  rcases q with ⟨hx, q⟩ | ⟨hx, q⟩
  · obtain ⟨its, r, ht, hz⟩ := I5.list hx
    have hlen := r.length
    refine tail_any (ops := [.ref a, .ref s4.heap.objs.size]) ht.isList.typeIs (PySem.slot_list_getitem.lookup) ?_ (by with_unfolding_all rfl)
    refine wpAny_getItem_list_slice ht.isList (Heap.IsSliceOf.new _ vl vu vs) pl pu ps (by decide) ?_ (by rw [List.size_toArray]; omega)
    rw [PySem.W.krv_pick]
    refine ⟨.ref _, _, I5.laid (t' := s4.toks) (o := .lst xs.reverse) (fun b ob q => Heap.get?_push_of_some _ q) (Nat.le_refl _) ?_, rfl, q _ (I5.hok.fresh (Nat.le_refl _))⟩
    exact ⟨by rw [List.length_reverse]; exact hz, _, 0, r.reverse, Heap.get?_push_size _ rfl⟩
  · obtain ⟨its, r, ht, hz⟩ := I5.tuple hx
    have hlen := r.length
    refine tail_any (ops := [.ref a, .ref s4.heap.objs.size]) ht.typeIs (PyProof.Rows.slot_tuple_getitem.lookup) ?_ (by with_unfolding_all rfl)
    refine getItem_tuple_rev ht (Heap.IsSliceOf.new _ vl vu vs) pl pu ps ?_ (by rw [List.size_toArray]; omega)
    refine ⟨.ref _, _, I5.laid (t' := s4.toks) (o := .tup xs.reverse) (fun b ob q => Heap.get?_push_of_some _ q) (Nat.le_refl _) ?_, rfl, q _ (I5.hok.fresh (Nat.le_refl _))⟩
    exact ⟨by rw [List.length_reverse]; exact hz, _, r.reverse, ⟨_, Heap.get?_push_size _ rfl, rfl, 0, rfl⟩⟩
end SU
namespace SU
open PySem PySem.Spec PyProof.Rows L2
theorem pe_imp {X : Cx} {e : Expr} {t t' : TE} (h : PE X e t) (k : ∀ σ H Q, t' σ H Q → t σ H Q) : PE X e t' := ⟨fun pins s σ H Q I q => h.run pins s σ H Q I (k σ H Q q)⟩
/-- q[::-1], a list or a tuple: a new one -/
def tRevS (K : Frag) (te : TE) : TE := fun σ H Q => te σ H fun x H1 => ∃ a xs, x = .ref a ∧ Sq K H1 a xs ∧ ∀ p H', H1 p = none → Same H1 H' → Sq K H' p xs.reverse → Q (.ref p) H'
theorem pe_revS {X : Cx} {e : Expr} {te : TE} {k : Nat} {p1 p2 p3 pos : Pos} (he : PE X e te) : PE X (.Subscript e (.Slice none none (some (.UnaryOp .USub (.Constant (.int 1) k p1) p2)) p3) pos) (tRevS X.K te) := by
  refine ⟨fun pins s σ H Q I q => ?_⟩
  have hm2 : PE X e (fun σ' H' R => te σ H (fun x H1 => ∃ a xs, x = .ref a ∧ Sq X.K H1 a xs ∧ ∀ p H', H1 p = none → Same H1 H' → Sq X.K H' p xs.reverse → Q (.ref p) H') ∧ σ' = σ ∧ H' = H ∧ ∀ x H1, (∃ a xs, x = .ref a ∧ Sq X.K H1 a xs ∧ ∀ p H', H1 p = none → Same H1 H' → Sq X.K H' p xs.reverse → Q (.ref p) H') → R x H1) := by
    refine ⟨fun pins' s' σ' H' R I' h => ?_⟩
    obtain ⟨h, rfl, rfl, k⟩ := h
    exact thn (he.run pins' s' _ _ _ I' h) fun u s1 ⟨x, H1, I1, r, q⟩ => ⟨x, H1, I1, r, k x H1 q⟩
  refine (pe_revQ hm2).run pins s σ H Q I ⟨q, rfl, rfl, ?_⟩
  rintro x H1 ⟨a, xs, e, hq, q⟩
  refine ⟨a, xs, e, ?_⟩
  rcases hq with hq | hq
  · exact .inl ⟨hq, fun p hp => q p _ hp (Same.new hp) (.inl (.inl (.inl upd_same)))⟩
  · exact .inr ⟨hq, fun p hp => q p _ hp (Same.new hp) (.inr (.inl (.inl upd_same)))⟩
end SU

namespace SU
open PySem PySem.Spec PyProof.Rows L2
open PySem.W (ksFn ksEnv)
/-! ### an own error class whose __init__ says super().__init__(v) and keeps v under a name -/
def iA1 (f : Str) (p1 p2 : Pos) : Arguments := { posonlyargs := [], args := [{ arg := "self", annotation := none, pos := p1 }, { arg := f, annotation := none, pos := p2 }], vararg := none, kwonlyargs := [], kw_defaults := [], kwarg := none, defaults := [] }
def iB1 (f : Str) (q1 q2 q3 q4 q5 q6 q7 q8 q9 q10 : Pos) : List Stmt :=
  [.Expr (.Call (.Attribute (.Call (.Name "super" q1) [] [] q2) "__init__" q3) [.Name f q4] [] q5) q6, .Assign [.Attribute (.Name "self" q7) f q8] (.Name f q9) q10]
def iS1 (f : Str) : Scope := { kind := .function, names := [(PySem.Str.ofString "self", .local), (f, .local), (PySem.Str.ofString "__class__", .free), (PySem.Str.ofString "super", .globalImplicit)], isGenerator := false, isCoroutine := false, more := [] }
def iA2 (f g : Str) (p1 p2 p3 : Pos) : Arguments := { posonlyargs := [], args := [{ arg := "self", annotation := none, pos := p1 }, { arg := f, annotation := none, pos := p2 }, { arg := g, annotation := none, pos := p3 }], vararg := none, kwonlyargs := [], kw_defaults := [], kwarg := none, defaults := [] }
def iB2 (f g : Str) (q1 q2 q3 q4 q4' q5 q6 q7 q8 q9 q10 r7 r8 r9 r10 : Pos) : List Stmt :=
  [.Expr (.Call (.Attribute (.Call (.Name "super" q1) [] [] q2) "__init__" q3) [.Name f q4, .Name g q4'] [] q5) q6, .Assign [.Attribute (.Name "self" q7) f q8] (.Name f q9) q10, .Assign [.Attribute (.Name "self" r7) g r8] (.Name g r9) r10]
def iS2 (f g : Str) : Scope := { kind := .function, names := [(PySem.Str.ofString "self", .local), (f, .local), (g, .local), (PySem.Str.ofString "__class__", .free), (PySem.Str.ofString "super", .globalImplicit)], isGenerator := false, isCoroutine := false, more := [] }
/-- what the written part says of the class and of its __init__ -/
structure SupC (file : Str) (K : Frag) (mg : Str → Option Value) (x : Str) (C fI : Addr) (A : Arguments) (B : List Stmt) (S : Scope) : Prop where
  gC : mg x = some (.ref C)
  cls : ∃ nm q N bs bm sn sub ab col dd k0 k1 k2 k3 k5, K.lookup C = some (excClassObj nm q C N bs bm true sn sub ab col dd k0 k1 k2 k3 k5 "ValueError.__new__") ∧ PySem.HandSPX.refsVE bm = true ∧ PySem.W.alongIn K "__init__" bm = some (some (.builtin "ValueError.__init__"))
  sa : PySem.W.findIn K (.ref C) "__setattr__" = some (some (.builtin "object.__setattr__"))
  iC : PySem.W.findIn K (.ref C) "__init__" = some (some (.ref fI))
  tC : PySem.W.typeIn K (.ref fI) = some (.type "function")
  kC : PySem.W.keepIn K (.ref C) = true
  exC : PySem.W.subIn K (.ref C) (.type "BaseException") = some true
  exV : PySem.W.subIn K (.ref C) (.type "ValueError") = some true
  tyC : PySem.W.typeIn K (.ref C) = some (.type "type")
  op : PySem.W.nsIn K cStatics "thirdparty.any" = some none
  sup : mg "super" = none
  fn : ∃ (oc : Value) (od : Option Addr) (doc pm : Value) (an : Option Addr) (ct : Value) (osl : Array (Option Value)) (cda cc : Addr) (ccl : Value) (cdd : Option Addr) (vs : Array Value) (ccs : Array (Option Value)) (tf : Tok) (cl : Value) (cld : Option Addr) (csl : Array (Option Value)),
    K.lookup fI = some ⟨oc, od, .func (ksFn "__init__" (x ++ ".__init__") A B S .none .none doc pm an (.ref cda) ct cc), osl⟩ ∧ PySem.W.codeIn K (.ref cda) (x ++ ".__init__") = true ∧
      K.lookup cda = some ⟨ccl, cdd, .fields vs, ccs⟩ ∧ vs[2]? = some (.str file tf) ∧ K.lookup cc = some ⟨cl, cld, .cell (some (.ref C)), csl⟩
/-- the names of a heap -/
structure Nms (K : Frag) (mg : Str → Option Value) (h : Heap) : Prop where
  kin : K.In h
  glob : h.Ns mainGlobals mg
  blt : ∃ mb, h.Ns builtinsNs mb ∧ ∀ x : Str, x ≠ "__name__" → mb x = bootBuiltins x
  nolimit : h.NoLimit
theorem Nms.keeps {K : Frag} {mg : Str → Option Value} {h h' : Heap} (n : Nms K mg h) (k : ∀ b o, h.get? b = some o → h'.get? b = some o) : Nms K mg h' := by
  obtain ⟨mb, a, b⟩ := n.blt
  exact ⟨n.kin.keeps k, n.glob.keeps k, ⟨mb, a.keeps k, b⟩, n.nolimit.keeps k⟩
theorem inv_nms {X : Cx} {pins : List (Addr × Obj)} {σ : L2.St} {H : Hp} {s : Shared} (I : Inv X pins σ H s) : Nms X.K X.mg s.heap :=
  Nms.keeps ⟨I.ok.mod.kin, I.ok.mod.glob, I.ok.mod.blt, I.ok.mod.nolimit⟩ I.bk
section
open PySem.W PySem.Calls PySem.HandSPX
variable {prog : Program} {w : World} {A : Around} {E : Value → Shared → Prop} {R : Result → Shared → Prop} {s : Shared} {K : Frag} {mg : Str → Option Value} {C fI : Addr} {x : Str}
/-- super().__init__ of a ValueError, called -/
theorem sup_call {file : Str} {As : Arguments} {Bs : List Stmt} {Ss : Scope} (T : SupC file K mg x C fI As Bs Ss) {u e t0 : Addr} {rest : List Value} {Q : Value → Shared → Prop} {hp : Heap} {g : Array GenState} {d : Drawn} {t : Nat} {os : OsState} (X : K.In hp)
    (he : hp.get? e = some (excO C t0)) (hu : hp.get? u = some (kxs_mw "ValueError.__init__" e)) (hrest : rest.length ≤ sizeLine)
    (hq : ∀ h' t1, (∀ b o, b ≠ e → hp.get? b = some o → h'.get? b = some o) → h'.get? e = some (excO C t1) → Q .none ⟨h', g, d, t, os⟩) :
    wpAny (model prog w) A (call (.ref u) rest) Q E ⟨hp, g, d, t, os⟩ := by
  obtain ⟨nm, q, N, bs, bm, sn, sub, ab, col, dd, k0, k1, k2, k3, k5, hC, hbm, _⟩ := T.cls
  refine wpAny_call (codeAny_of_tree ?_)
  show wpAny _ A.in1 (callAny (.ref u) ⟨rest, []⟩) _ _ _
  simp only [callAny]
  refine wpAny_bind (wpAny_load hu ?_)
  simp only [kxs_mw, show (Value.type "method-wrapper" == Value.type "method" || Value.type "method-wrapper" == Value.type "builtin_function_or_method" || Value.type "method-wrapper" == Value.type "method-wrapper") = true by decide, if_true]
  refine W.KFB.if_so (by decide) ?_
  refine wpAny_bind (check_bound_init F.excBase_ValueError.toExcCallFacts (X _ _ hC) he rfl ?_)
  refine wpAny_bind (wpAny_pure (wpAny_pure ?_))
  refine ⟨plainId_quiet F.excBase_ValueError.init.plain _, codeAny_builtin F.excBase_ValueError.initEntry ?_⟩
  wp_walk
  refine hq _ hp.objs.size (fun b o hb ho => ?_) ?_
  · rw [Heap.get?_update_other _ _ (Ne.symm hb)]
    exact Heap.get?_push_of_some _ ho
  · rw [Heap.get?_update_self _ (Heap.get?_push_of_some _ he) rfl]
    rfl
theorem kept_but {K : Frag} {h h' : Heap} {e : Addr} (X : K.In h) (hx : K.lookup e = none) (k : ∀ b o, b ≠ e → h.get? b = some o → h'.get? b = some o) : K.In h' := fun a o z =>
  k a o (fun y => by rw [y, hx] at z; cases z) (X a o z)
theorem sup_init1 {file f : Str} {p1 p2 q1 q2 q3 q4 q5 q6 q7 q8 q9 q10 : Pos} (T : SupC file K mg x C fI (iA1 f p1 p2) (iB1 f q1 q2 q3 q4 q5 q6 q7 q8 q9 q10) (iS1 f)) (hks : (iS1 f).names.lookup ("super" : Str) = some .globalImplicit) (hkc : (iS1 f).names.lookup ("__class__" : Str) = some .free)
    (lf : (iS1 f).names.lookup f = some .local) (df : (f == ("__debug__" : Str)) = false) (nf : (("self" : Str) == f) = false) (nof : PySem.W.findIn K (.ref C) f = some none) {e t0 : Addr} {v : Value} (n : Nms K mg s.heap) (hfile : (prog.main.file : Str) = file) (htop : (prog.main.scope.names.lookup ("super" : Str)).isSome = false)
    (he : s.heap.get? e = some (excO C t0)) (hnx : K.lookup e = none) (hroom : A.depth < recursionLimit)
    (hbind : ∀ (doc pm : Value) (an : Option Addr) (cd ct : Value) (cc : Addr) (e v : Value), bindArgs (ksFn "__init__" (x ++ ".__init__") (iA1 f p1 p2) (iB1 f q1 q2 q3 q4 q5 q6 q7 q8 q9 q10) (iS1 f) .none .none doc pm an cd ct cc) ⟨[e, v], []⟩ = pure [(("self" : Str), e), (f, v)])
    (pl : Sem Bool) (hev : ∀ (L : Addr) (cd : Value) (cc : Addr), eval (.Call (.Attribute (.Call (.Name "super" q1) [] [] q2) "__init__" q3) [.Name f q4] [] q5) (ksEnv (x ++ ".__init__") (iS1 f) L fI cd cc) = (do
      let ov ← attributeBase (.Call (.Name "super" q1) [] [] q2) "__init__" (ksEnv (x ++ ".__init__") (iS1 f) L fI cd cc) (eval (.Call (.Name "super" q1) [] [] q2) (ksEnv (x ++ ".__init__") (iS1 f) L fI cd cc))
      standAt q3.atName
      let (fn0, first) ← holding [ov] (getMethod ov "__init__" pl)
      callWith q5 fn0 first (backTo q5 (starEach [.Name f q4] (ksEnv (x ++ ".__init__") (iS1 f) L fI cd cc))) []))
    (hq : ∀ h' tk dx t1, (∀ b o, b ≠ e → s.heap.get? b = some o → h'.get? b = some o) → s.heap.objs.size ≤ dx → dx ≠ e → h'.get? e = some { cls := .ref C, dict := some dx, data := .fields #[.ref t1, .none, .none, .none, .bool false, .none] } → h'.Ns1 dx (fun y => if y = f then some v else none) → R (.ok (.ret .none)) { s with heap := h', toks := tk }) :
    codeAny (model prog w) A (.call (.ref fI) ⟨[.ref e, v], []⟩) R s := by
  obtain ⟨oc, od, doc, pm, an, ct, osl, cda, cc, ccl, cdd, vs, ccs, tf, cl, cld, csl, lk, hcd, lcd, hvs, lcc⟩ := T.fn
  obtain ⟨nm, q, N, bs, bm, sn, sub, ab, col, dd, k0, k1, k2, k3, k5, hC, hbm, hal⟩ := T.cls
  have hec : e ≠ C := fun z => by
    rw [z, hC] at hnx
    cases hnx
  have hcl : clsIn K C = some { name := nm, bases := bs, mro := .ref C :: bm, ns := N, qualname := q, hasDict := true, slotNames := sn, subclasses := sub, abstract := ab, collection := col, hasDel := false } := by unfold clsIn; rw [hC] <;> rfl
  refine ks_codeAny_call_defAt (fd := ksFn "__init__" (x ++ ".__init__") (iA1 f p1 p2) (iB1 f q1 q2 q3 q4 q5 q6 q7 q8 q9 q10) (iS1 f) .none .none doc pm an (.ref cda) ct cc) (body := (iB1 f q1 q2 q3 q4 q5 q6 q7 q8 q9 q10)) (binds := [(("self" : Str), Value.ref e), (f, v)]) hroom (n.kin _ _ lk) rfl n.nolimit (codeRec_of n.kin hcd) rfl (BindsTo.of_eq (hbind ..)) ?hcell ?hloc (fun h₀ hns hk => ?_) rfl rfl rfl
  case hcell =>
    intro y hy
    have hy' : y ∈ (iS1 f).names := hy
    simp only [iS1, List.mem_cons, List.mem_nil_iff, or_false] at hy'
    rcases hy' with rfl | rfl | rfl | rfl <;> (intro z; cases z)
  case hloc =>
    intro y hy
    simp only [List.mem_cons, List.mem_nil_iff, or_false] at hy
    rcases hy with rfl | rfl
    · rfl
    · exact lf
  have n0 := n.keeps hk
  have he0 := hk _ _ he
  show _root_.PySem.wpAt (model prog w) _ (.func _ (ksEnv (x ++ ".__init__") (iS1 f) s.heap.objs.size fI (.ref cda) cc)) (execs (iB1 f q1 q2 q3 q4 q5 q6 q7 q8 q9 q10) (ksEnv (x ++ ".__init__") (iS1 f) s.heap.objs.size fI (.ref cda) cc)) _ _ _
  refine ks_wpAt_execs_cons ?_
  refine ks_wpAt_Expr_any ?_
  refine ks_wpAt_MethodCall (pl := pl) ?_ (hev _ _ _)
  obtain ⟨mb, hb, hbe⟩ := n0.blt
  refine ks_wpAt_super_base (env := (ksEnv (x ++ ".__init__") (iS1 f) s.heap.objs.size fI (.ref cda) cc)) hks hkc (by decide) rfl (n0.kin _ _ lk) rfl rfl rfl (n0.kin _ _ lcd) rfl hvs (by rw [hfile]; exact beq_self_eq_true _) htop ?_
  refine ks_loadName_global rfl hks (loadGlobal_builtin (env := (ksEnv (x ++ ".__init__") (iS1 f) s.heap.objs.size fI (.ref cda) cc)) n0.glob T.sup hb ((hbe "super" (by decide)).trans (by decide +kernel)) ⟨rfl, ?_⟩)
  refine wpAny_loadName_free rfl hkc rfl ⟨_, n0.kin _ _ lcc, rfl⟩ ?_
  refine wpAny_loadName_local (m := fun y => ([(("self" : Str), Value.ref e), (f, v)]).reverse.lookup y) rfl rfl hns (v := .ref e) ?hself ?_
  case hself =>
    show List.lookup ("self" : Str) [(f, v), (("self" : Str), Value.ref e)] = _
    simp only [List.lookup, nf, beq_self_eq_true]
  refine ks_wpAny_isType_cls (n0.kin _ _ hC) rfl ⟨rfl, ?_⟩
  refine ks_wpAny_call_super (n0.kin _ _ hC) rfl he0 rfl (fun c z => by cases z) (looks_mroIn n0.kin (by unfold mroIn; rw [hcl, Option.bind_some, if_neg (show ¬ (List.isEmpty (Value.ref C :: bm) = true) from Bool.false_ne_true), List.contains_cons, beq_self_eq_true, Bool.true_or])) (fun h1 e1 k1 => ?_)
  have n1 := n0.keeps k1
  have he1 := k1 _ _ he0
  have I1 : InstAt h1 e (excO C t0) C none := ⟨he1, rfl, rfl, trivial⟩
  refine kxs_getMethod kxs_ValueError e1 (looks_opaque n1.kin T.op) (l₀ := .ref C :: bm) (l := bm) (fun A Q E s k q => wpAny_bind ((looks_clsIn n1.kin hcl) A _ E s k (wpAny_pure q))) (by simp [List.dropWhile_cons]) n1.kin hal (I1.type.andThen (looks_subIn n1.kin T.exV)) hec (by decide) ?_
  have k2 : ∀ b o, h1.get? b = some o → (h1.push (kxs_mw "ValueError.__init__" e)).get? b = some o := fun b o z => Heap.get?_push_of_some _ z
  have hu : KxsAt "ValueError.__init__" h1.objs.size e (h1.push (kxs_mw "ValueError.__init__" e)) := Heap.get?_push_at rfl rfl
  have hns2 : (h1.push (kxs_mw "ValueError.__init__" e)).Ns s.heap.objs.size (fun y => ([(("self" : Str), Value.ref e), (f, v)]).reverse.lookup y) := (hns.keeps k1).keeps k2
  have hmf : (fun y => ([(("self" : Str), Value.ref e), (f, v)]).reverse.lookup y) f = some v := by
    show List.lookup f [(f, v), (("self" : Str), Value.ref e)] = _
    simp only [List.lookup, beq_self_eq_true]
  refine kxs_callWith (i := "ValueError.__init__") (x := e) (by rfl) (evalArgs_plain (Calls.spliced_cons (ESX.ldL hns2 hmf (Calls.spliced_nil ⟨hu, ?_⟩) rfl lf df)))
  refine sup_call T (n1.kin.keeps k2) (k2 _ _ he1) hu (by rw [sizeLine_eq]; show 1 ≤ 16777216; decide) (fun h2 t1 k3 he2 => ?_)
  have hLe : s.heap.objs.size ≠ e := Nat.ne_of_gt (Heap.lt_size he)
  have k4 : ∀ b o, b ≠ e → s.heap.get? b = some o → h2.get? b = some o := fun b o hb z => k3 b o hb (k2 _ _ (k1 _ _ (hk b o z)))
  have X2 : K.In h2 := kept_but n.kin hnx k4
  have hns3 : h2.Ns s.heap.objs.size (fun y => ([(("self" : Str), Value.ref e), (f, v)]).reverse.lookup y) := hns2.at fun o z => k3 _ _ hLe z
  have hsz : s.heap.objs.size < h2.objs.size := hns3.lt
  refine ks_wpAt_execs_cons (_root_.PySem.wpAt_of_wpAny ?_)
  refine plainObj_wpAny_Assign_Attribute ?_
  refine ESX.ldL (env := (ksEnv (x ++ ".__init__") (iS1 f) s.heap.objs.size fI (.ref cda) cc)) hns3 hmf ?_ rfl lf df
  refine ESX.ldL (env := (ksEnv (x ++ ".__init__") (iS1 f) s.heap.objs.size fI (.ref cda) cc)) hns3 (v := .ref e) ?hself2 ?_
  case hself2 =>
    show List.lookup ("self" : Str) [(f, v), (("self" : Str), Value.ref e)] = _
    simp only [List.lookup, nf, beq_self_eq_true]
  refine set_plain X2 (ox := excO C t1) (od := none) ⟨he2, rfl, rfl, trivial⟩ T.sa ?_
  refine exc_osa X2 he2 hcl (show refsVE (.ref C :: bm) = true from hbm) rfl nof (fun h3 tk3 dx k5 dn dne he3 hn3 => ?_)
  refine _root_.PySem.wpAt_of_wpAny (wpAny_execs_nil ?_)
  exact hq h3 tk3 dx t1 (fun b o hb z => k5 b o hb (k4 b o hb z)) (Nat.le_of_lt (Nat.lt_of_lt_of_le hsz dn)) dne he3 hn3
theorem sup_init2 {file f g : Str} {p1 p2 p3 q1 q2 q3 q4 q4' q5 q6 q7 q8 q9 q10 r7 r8 r9 r10 : Pos} (T : SupC file K mg x C fI (iA2 f g p1 p2 p3) (iB2 f g q1 q2 q3 q4 q4' q5 q6 q7 q8 q9 q10 r7 r8 r9 r10) (iS2 f g)) (hks : (iS2 f g).names.lookup ("super" : Str) = some .globalImplicit) (hkc : (iS2 f g).names.lookup ("__class__" : Str) = some .free)
    (lf : (iS2 f g).names.lookup f = some .local) (df : (f == ("__debug__" : Str)) = false) (nf : (("self" : Str) == f) = false) (nof : PySem.W.findIn K (.ref C) f = some none) (lg : (iS2 f g).names.lookup g = some .local) (dg : (g == ("__debug__" : Str)) = false) (ng : (("self" : Str) == g) = false) (nog : PySem.W.findIn K (.ref C) g = some none) (ngf : (f == g) = false) (ngf2 : (g == f) = false) {e t0 : Addr} {v v2 : Value} (n : Nms K mg s.heap) (hfile : (prog.main.file : Str) = file) (htop : (prog.main.scope.names.lookup ("super" : Str)).isSome = false)
    (he : s.heap.get? e = some (excO C t0)) (hnx : K.lookup e = none) (hroom : A.depth < recursionLimit)
    (hbind : ∀ (doc pm : Value) (an : Option Addr) (cd ct : Value) (cc : Addr) (e v v2 : Value), bindArgs (ksFn "__init__" (x ++ ".__init__") (iA2 f g p1 p2 p3) (iB2 f g q1 q2 q3 q4 q4' q5 q6 q7 q8 q9 q10 r7 r8 r9 r10) (iS2 f g) .none .none doc pm an cd ct cc) ⟨[e, v, v2], []⟩ = pure [(("self" : Str), e), (f, v), (g, v2)])
    (pl : Sem Bool) (hev : ∀ (L : Addr) (cd : Value) (cc : Addr), eval (.Call (.Attribute (.Call (.Name "super" q1) [] [] q2) "__init__" q3) [.Name f q4, .Name g q4'] [] q5) (ksEnv (x ++ ".__init__") (iS2 f g) L fI cd cc) = (do
      let ov ← attributeBase (.Call (.Name "super" q1) [] [] q2) "__init__" (ksEnv (x ++ ".__init__") (iS2 f g) L fI cd cc) (eval (.Call (.Name "super" q1) [] [] q2) (ksEnv (x ++ ".__init__") (iS2 f g) L fI cd cc))
      standAt q3.atName
      let (fn0, first) ← holding [ov] (getMethod ov "__init__" pl)
      callWith q5 fn0 first (backTo q5 (starEach [.Name f q4, .Name g q4'] (ksEnv (x ++ ".__init__") (iS2 f g) L fI cd cc))) []))
    (hq : ∀ h' tk dx t1, (∀ b o, b ≠ e → s.heap.get? b = some o → h'.get? b = some o) → s.heap.objs.size ≤ dx → dx ≠ e → h'.get? e = some { cls := .ref C, dict := some dx, data := .fields #[.ref t1, .none, .none, .none, .bool false, .none] } → h'.Ns1 dx (fun y => if y = g then some v2 else if y = f then some v else none) → R (.ok (.ret .none)) { s with heap := h', toks := tk }) :
    codeAny (model prog w) A (.call (.ref fI) ⟨[.ref e, v, v2], []⟩) R s := by
  obtain ⟨oc, od, doc, pm, an, ct, osl, cda, cc, ccl, cdd, vs, ccs, tf, cl, cld, csl, lk, hcd, lcd, hvs, lcc⟩ := T.fn
  obtain ⟨nm, q, N, bs, bm, sn, sub, ab, col, dd, k0, k1, k2, k3, k5, hC, hbm, hal⟩ := T.cls
  have hec : e ≠ C := fun z => by
    rw [z, hC] at hnx
    cases hnx
  have hcl : clsIn K C = some { name := nm, bases := bs, mro := .ref C :: bm, ns := N, qualname := q, hasDict := true, slotNames := sn, subclasses := sub, abstract := ab, collection := col, hasDel := false } := by unfold clsIn; rw [hC] <;> rfl
  refine ks_codeAny_call_defAt (fd := ksFn "__init__" (x ++ ".__init__") (iA2 f g p1 p2 p3) (iB2 f g q1 q2 q3 q4 q4' q5 q6 q7 q8 q9 q10 r7 r8 r9 r10) (iS2 f g) .none .none doc pm an (.ref cda) ct cc) (body := (iB2 f g q1 q2 q3 q4 q4' q5 q6 q7 q8 q9 q10 r7 r8 r9 r10)) (binds := [(("self" : Str), Value.ref e), (f, v), (g, v2)]) hroom (n.kin _ _ lk) rfl n.nolimit (codeRec_of n.kin hcd) rfl (BindsTo.of_eq (hbind ..)) ?hcell ?hloc (fun h₀ hns hk => ?_) rfl rfl rfl
  case hcell =>
    intro y hy
    have hy' : y ∈ (iS2 f g).names := hy
    simp only [iS2, List.mem_cons, List.mem_nil_iff, or_false] at hy'
    rcases hy' with rfl | rfl | rfl | rfl | rfl <;> (intro z; cases z)
  case hloc =>
    intro y hy
    simp only [List.mem_cons, List.mem_nil_iff, or_false] at hy
    rcases hy with rfl | rfl | rfl
    · rfl
    · exact lf
    · exact lg
  have n0 := n.keeps hk
  have he0 := hk _ _ he
  show _root_.PySem.wpAt (model prog w) _ (.func _ (ksEnv (x ++ ".__init__") (iS2 f g) s.heap.objs.size fI (.ref cda) cc)) (execs (iB2 f g q1 q2 q3 q4 q4' q5 q6 q7 q8 q9 q10 r7 r8 r9 r10) (ksEnv (x ++ ".__init__") (iS2 f g) s.heap.objs.size fI (.ref cda) cc)) _ _ _
  refine ks_wpAt_execs_cons ?_
  refine ks_wpAt_Expr_any ?_
  refine ks_wpAt_MethodCall (pl := pl) ?_ (hev _ _ _)
  obtain ⟨mb, hb, hbe⟩ := n0.blt
  refine ks_wpAt_super_base (env := (ksEnv (x ++ ".__init__") (iS2 f g) s.heap.objs.size fI (.ref cda) cc)) hks hkc (by decide) rfl (n0.kin _ _ lk) rfl rfl rfl (n0.kin _ _ lcd) rfl hvs (by rw [hfile]; exact beq_self_eq_true _) htop ?_
  refine ks_loadName_global rfl hks (loadGlobal_builtin (env := (ksEnv (x ++ ".__init__") (iS2 f g) s.heap.objs.size fI (.ref cda) cc)) n0.glob T.sup hb ((hbe "super" (by decide)).trans (by decide +kernel)) ⟨rfl, ?_⟩)
  refine wpAny_loadName_free rfl hkc rfl ⟨_, n0.kin _ _ lcc, rfl⟩ ?_
  refine wpAny_loadName_local (m := fun y => ([(("self" : Str), Value.ref e), (f, v), (g, v2)]).reverse.lookup y) rfl rfl hns (v := .ref e) ?hself ?_
  case hself =>
    show List.lookup ("self" : Str) [(g, v2), (f, v), (("self" : Str), Value.ref e)] = _
    simp only [List.lookup, nf, ng, beq_self_eq_true]
  refine ks_wpAny_isType_cls (n0.kin _ _ hC) rfl ⟨rfl, ?_⟩
  refine ks_wpAny_call_super (n0.kin _ _ hC) rfl he0 rfl (fun c z => by cases z) (looks_mroIn n0.kin (by unfold mroIn; rw [hcl, Option.bind_some, if_neg (show ¬ (List.isEmpty (Value.ref C :: bm) = true) from Bool.false_ne_true), List.contains_cons, beq_self_eq_true, Bool.true_or])) (fun h1 e1 k1 => ?_)
  have n1 := n0.keeps k1
  have he1 := k1 _ _ he0
  have I1 : InstAt h1 e (excO C t0) C none := ⟨he1, rfl, rfl, trivial⟩
  refine kxs_getMethod kxs_ValueError e1 (looks_opaque n1.kin T.op) (l₀ := .ref C :: bm) (l := bm) (fun A Q E s k q => wpAny_bind ((looks_clsIn n1.kin hcl) A _ E s k (wpAny_pure q))) (by simp [List.dropWhile_cons]) n1.kin hal (I1.type.andThen (looks_subIn n1.kin T.exV)) hec (by decide) ?_
  have k2 : ∀ b o, h1.get? b = some o → (h1.push (kxs_mw "ValueError.__init__" e)).get? b = some o := fun b o z => Heap.get?_push_of_some _ z
  have hu : KxsAt "ValueError.__init__" h1.objs.size e (h1.push (kxs_mw "ValueError.__init__" e)) := Heap.get?_push_at rfl rfl
  have hns2 : (h1.push (kxs_mw "ValueError.__init__" e)).Ns s.heap.objs.size (fun y => ([(("self" : Str), Value.ref e), (f, v), (g, v2)]).reverse.lookup y) := (hns.keeps k1).keeps k2
  have hmf : (fun y => ([(("self" : Str), Value.ref e), (f, v), (g, v2)]).reverse.lookup y) f = some v := by
    show List.lookup f [(g, v2), (f, v), (("self" : Str), Value.ref e)] = _
    simp only [List.lookup, beq_self_eq_true, ngf]
  have hmg : (fun y => ([(("self" : Str), Value.ref e), (f, v), (g, v2)]).reverse.lookup y) g = some v2 := by
    show List.lookup g [(g, v2), (f, v), (("self" : Str), Value.ref e)] = _
    simp only [List.lookup, beq_self_eq_true]
  refine kxs_callWith (i := "ValueError.__init__") (x := e) (by rfl) (evalArgs_plain (Calls.spliced_cons (ESX.ldL hns2 hmf (Calls.spliced_cons (ESX.ldL hns2 hmg (Calls.spliced_nil ⟨hu, ?_⟩) rfl lg dg)) rfl lf df)))
  refine sup_call T (n1.kin.keeps k2) (k2 _ _ he1) hu (by rw [sizeLine_eq]; show 2 ≤ 16777216; decide) (fun h2 t1 k3 he2 => ?_)
  have hLe : s.heap.objs.size ≠ e := Nat.ne_of_gt (Heap.lt_size he)
  have k4 : ∀ b o, b ≠ e → s.heap.get? b = some o → h2.get? b = some o := fun b o hb z => k3 b o hb (k2 _ _ (k1 _ _ (hk b o z)))
  have X2 : K.In h2 := kept_but n.kin hnx k4
  have hns3 : h2.Ns s.heap.objs.size (fun y => ([(("self" : Str), Value.ref e), (f, v), (g, v2)]).reverse.lookup y) := hns2.at fun o z => k3 _ _ hLe z
  have hsz : s.heap.objs.size < h2.objs.size := hns3.lt
  refine ks_wpAt_execs_cons (_root_.PySem.wpAt_of_wpAny ?_)
  refine plainObj_wpAny_Assign_Attribute ?_
  refine ESX.ldL (env := (ksEnv (x ++ ".__init__") (iS2 f g) s.heap.objs.size fI (.ref cda) cc)) hns3 hmf ?_ rfl lf df
  refine ESX.ldL (env := (ksEnv (x ++ ".__init__") (iS2 f g) s.heap.objs.size fI (.ref cda) cc)) hns3 (v := .ref e) ?hself2 ?_
  case hself2 =>
    show List.lookup ("self" : Str) [(g, v2), (f, v), (("self" : Str), Value.ref e)] = _
    simp only [List.lookup, nf, ng, beq_self_eq_true]
  refine set_plain X2 (ox := excO C t1) (od := none) ⟨he2, rfl, rfl, trivial⟩ T.sa ?_
  refine exc_osa X2 he2 hcl (show refsVE (.ref C :: bm) = true from hbm) rfl nof (fun h3 tk3 dx k5 dn dne he3 hn3 => ?_)
  have k6 : ∀ b o, b ≠ e → s.heap.get? b = some o → h3.get? b = some o := fun b o hb z => k5 b o hb (k4 b o hb z)
  have X3 : K.In h3 := kept_but n.kin hnx k6
  have hns4 : h3.Ns s.heap.objs.size (fun y => ([(("self" : Str), Value.ref e), (f, v), (g, v2)]).reverse.lookup y) := hns3.at fun o z => k5 _ _ hLe z
  obtain ⟨oD, esD, epD, hoD, hrD⟩ := id hn3
  refine ks_wpAt_execs_cons (_root_.PySem.wpAt_of_wpAny ?_)
  refine plainObj_wpAny_Assign_Attribute ?_
  refine ESX.ldL (env := (ksEnv (x ++ ".__init__") (iS2 f g) s.heap.objs.size fI (.ref cda) cc)) hns4 hmg ?_ rfl lg dg
  refine ESX.ldL (env := (ksEnv (x ++ ".__init__") (iS2 f g) s.heap.objs.size fI (.ref cda) cc)) hns4 (v := .ref e) ?hself3 ?_
  case hself3 =>
    show List.lookup ("self" : Str) [(g, v2), (f, v), (("self" : Str), Value.ref e)] = _
    simp only [List.lookup, nf, ng, beq_self_eq_true]
  refine set_plain X3 (ox := { cls := .ref C, dict := some dx, data := .fields #[.ref t1, .none, .none, .none, .bool false, .none] }) (od := some oD) ⟨he3, rfl, rfl, hoD⟩ T.sa ?_
  refine PySem.OEX.osa_old X3 he3 hn3 (nl := [f]) (fun y hy => by
    by_cases z : y = f
    · simp [z]
    · exact absurd (if_neg z) hy) (by show 1 ≤ 1000; decide) hcl (show refsVE (.ref C :: bm) = true from hbm) rfl nog (fun h4 tk4 k7 hn4 => ?_)
  refine _root_.PySem.wpAt_of_wpAny (wpAny_execs_nil ?_)
  have dxe : e ≠ dx := Ne.symm dne
  have dxs : ∀ b o, s.heap.get? b = some o → b ≠ dx := fun b o z => Nat.ne_of_lt (Nat.lt_of_lt_of_le (Heap.lt_size z) (Nat.le_trans (Nat.le_of_lt hsz) dn))
  exact hq h4 tk4 dx t1 (fun b o hb z => k7 b o (dxs b o z) (k6 b o hb z)) (Nat.le_of_lt (Nat.lt_of_lt_of_le hsz dn)) dne (k7 _ _ dxe he3) hn4
end
end SU

namespace SU
open PySem PySem.Spec PyProof.Rows L2
open PySem.W (ksFn ksEnv)
/-- a made error -/
structure Made (h h' : Heap) (e C d : Addr) (m : Str → Option Value) : Prop where
  keep : ∀ b o, h.get? b = some o → h'.get? b = some o
  new : h.objs.size ≤ e
  obj : ∃ oe vs, h'.get? e = some oe ∧ oe.cls = .ref C ∧ oe.dict = some d ∧ oe.data = .fields vs ∧ vs[1]? = some .none ∧ vs[2]? = some .none ∧ 4 < vs.size
  dbig : h.objs.size ≤ d
  dne : d ≠ e
  ns : h'.Ns1 d m
structure Sup1 (P : Program) (K : Frag) (mg : Str → Option Value) (x f : Str) (C fI : Addr) : Prop where
  ex : ∃ (file : Str) (p1 p2 q1 q2 q3 q4 q5 q6 q7 q8 q9 q10 : Pos) (pl : Sem Bool), SupC file K mg x C fI (iA1 f p1 p2) (iB1 f q1 q2 q3 q4 q5 q6 q7 q8 q9 q10) (iS1 f) ∧ (P.main.file : Str) = file ∧
    (∀ (doc pm : Value) (an : Option Addr) (cd ct : Value) (cc : Addr) (e v : Value), bindArgs (ksFn "__init__" (x ++ ".__init__") (iA1 f p1 p2) (iB1 f q1 q2 q3 q4 q5 q6 q7 q8 q9 q10) (iS1 f) .none .none doc pm an cd ct cc) ⟨[e, v], []⟩ = pure [(("self" : Str), e), (f, v)]) ∧
    (∀ (L : Addr) (cd : Value) (cc : Addr), eval (.Call (.Attribute (.Call (.Name "super" q1) [] [] q2) "__init__" q3) [.Name f q4] [] q5) (ksEnv (x ++ ".__init__") (iS1 f) L fI cd cc) = (do
      let ov ← attributeBase (.Call (.Name "super" q1) [] [] q2) "__init__" (ksEnv (x ++ ".__init__") (iS1 f) L fI cd cc) (eval (.Call (.Name "super" q1) [] [] q2) (ksEnv (x ++ ".__init__") (iS1 f) L fI cd cc))
      standAt q3.atName
      let (fn0, first) ← holding [ov] (getMethod ov "__init__" pl)
      callWith q5 fn0 first (backTo q5 (starEach [.Name f q4] (ksEnv (x ++ ".__init__") (iS1 f) L fI cd cc))) []))
  top : (P.main.scope.names.lookup ("super" : Str)).isSome = false
  nof : PySem.W.findIn K (.ref C) f = some none
  hks : (iS1 f).names.lookup ("super" : Str) = some .globalImplicit
  hkc : (iS1 f).names.lookup ("__class__" : Str) = some .free
  lf : (iS1 f).names.lookup f = some .local
  df : (f == ("__debug__" : Str)) = false
  nf : (("self" : Str) == f) = false
structure Sup2 (P : Program) (K : Frag) (mg : Str → Option Value) (x f g : Str) (C fI : Addr) : Prop where
  ex : ∃ (file : Str) (p1 p2 p3 q1 q2 q3 q4 q4' q5 q6 q7 q8 q9 q10 r7 r8 r9 r10 : Pos) (pl : Sem Bool), SupC file K mg x C fI (iA2 f g p1 p2 p3) (iB2 f g q1 q2 q3 q4 q4' q5 q6 q7 q8 q9 q10 r7 r8 r9 r10) (iS2 f g) ∧ (P.main.file : Str) = file ∧
    (∀ (doc pm : Value) (an : Option Addr) (cd ct : Value) (cc : Addr) (e v v2 : Value), bindArgs (ksFn "__init__" (x ++ ".__init__") (iA2 f g p1 p2 p3) (iB2 f g q1 q2 q3 q4 q4' q5 q6 q7 q8 q9 q10 r7 r8 r9 r10) (iS2 f g) .none .none doc pm an cd ct cc) ⟨[e, v, v2], []⟩ = pure [(("self" : Str), e), (f, v), (g, v2)]) ∧
    (∀ (L : Addr) (cd : Value) (cc : Addr), eval (.Call (.Attribute (.Call (.Name "super" q1) [] [] q2) "__init__" q3) [.Name f q4, .Name g q4'] [] q5) (ksEnv (x ++ ".__init__") (iS2 f g) L fI cd cc) = (do
      let ov ← attributeBase (.Call (.Name "super" q1) [] [] q2) "__init__" (ksEnv (x ++ ".__init__") (iS2 f g) L fI cd cc) (eval (.Call (.Name "super" q1) [] [] q2) (ksEnv (x ++ ".__init__") (iS2 f g) L fI cd cc))
      standAt q3.atName
      let (fn0, first) ← holding [ov] (getMethod ov "__init__" pl)
      callWith q5 fn0 first (backTo q5 (starEach [.Name f q4, .Name g q4'] (ksEnv (x ++ ".__init__") (iS2 f g) L fI cd cc))) []))
  top : (P.main.scope.names.lookup ("super" : Str)).isSome = false
  nof : PySem.W.findIn K (.ref C) f = some none
  nog : PySem.W.findIn K (.ref C) g = some none
  hks : (iS2 f g).names.lookup ("super" : Str) = some .globalImplicit
  hkc : (iS2 f g).names.lookup ("__class__" : Str) = some .free
  lf : (iS2 f g).names.lookup f = some .local
  lg : (iS2 f g).names.lookup g = some .local
  df : (f == ("__debug__" : Str)) = false
  dg : (g == ("__debug__" : Str)) = false
  nf : (("self" : Str) == f) = false
  ng : (("self" : Str) == g) = false
  ngf : (f == g) = false
  ngf2 : (g == f) = false
section
open PySem.W PySem.Calls PySem.HandSPX
variable {prog : Program} {w : World} {A : Around} {E : Value → Shared → Prop} {R : Result → Shared → Prop} {s : Shared} {K : Frag} {mg : Str → Option Value} {C fI : Addr} {x f g : Str}
theorem made_of {file : Str} {As : Arguments} {Bs : List Stmt} {Ss : Scope} (T : SupC file K mg x C fI As Bs Ss) {us : List Value} {m : Str → Option Value} (n : Nms K mg s.heap) (hl : us.length ≤ sizeLine)
    (hinit : ∀ (A' : Around) (R' : Result → Shared → Prop) (s' : Shared) (e t0 : Addr), A'.depth = A.depth + 1 → Nms K mg s'.heap → s'.heap.get? e = some (excO C t0) → K.lookup e = none →
      (∀ h' tk dx t1, (∀ b o, b ≠ e → s'.heap.get? b = some o → h'.get? b = some o) → s'.heap.objs.size ≤ dx → dx ≠ e → h'.get? e = some { cls := .ref C, dict := some dx, data := .fields #[.ref t1, .none, .none, .none, .bool false, .none] } → h'.Ns1 dx m → R' (.ok (.ret .none)) { s' with heap := h', toks := tk }) →
      codeAny (model prog w) A' (.call (.ref fI) ⟨.ref e :: us, []⟩) R' s')
    (hq : ∀ h' tk e d, Made s.heap h' e C d m → R (.ok (.ret (.ref e))) { s with heap := h', toks := tk }) : codeAny (model prog w) A (.call (.ref C) ⟨us, []⟩) R s := by
  obtain ⟨nm, q, N, bs, bm, sn, sub, ab, col, dd, k0, k1, k2, k3, k5, hC, hbm, hal⟩ := T.cls
  obtain ⟨hp, g, dr, tk, os⟩ := s
  have k : ∀ b o, hp.get? b = some o → ((hp.push (kdv_tup us)).push (excO C hp.objs.size)).get? b = some o := fun b o e => Heap.get?_push_of_some _ (Heap.get?_push_of_some _ e)
  have hget : ((hp.push (kdv_tup us)).push (excO C hp.objs.size)).get? (hp.objs.size + 1) = some (excO C hp.objs.size) := by heap_get
  have hnx : K.lookup (hp.objs.size + 1) = none := by
    cases e : K.lookup (hp.objs.size + 1) with
    | none => rfl
    | some o =>
      have z : hp.get? (hp.objs.size + 1) = some o := n.kin _ _ e
      exact absurd (Nat.lt_of_succ_lt (Heap.lt_size z)) (Nat.lt_irrefl _)
  refine call_own F.excBase_ValueError (fun X => refsVE_contains X bm hbm) (n.kin _ _ hC) (looks_findIn n.kin T.iC) (fun self => bind_fn n.kin self T.tC) hl ?_
  refine hinit _ _ ⟨(hp.push (kdv_tup us)).push (excO C hp.objs.size), g, dr, tk, os⟩ _ _ rfl (n.keeps k) hget hnx fun h' tk' dx t1 k' dn dne hx hns => ?_
  have old : ∀ b o, hp.get? b = some o → h'.get? b = some o := fun b o e => k' b o (Nat.ne_of_lt (Nat.lt_succ_of_lt (Heap.lt_size e))) (k b o e)
  have z : hp.objs.size + 1 + 1 ≤ dx := by
    first
      | (simpa only [Heap.size_push] using dn)
      | exact dn
      | (have q := dn; rw [Heap.size_push, Heap.size_push] at q; exact q)
  exact ⟨rfl, hq h' tk' (hp.objs.size + 1) dx ⟨old, Nat.le_succ _, ⟨_, _, hx, rfl, rfl, rfl, rfl, rfl, by show (4 : Nat) < 6; decide⟩, Nat.le_trans (Nat.le_trans (Nat.le_succ _) (Nat.le_succ _)) z, dne, hns⟩⟩
theorem sup_made1 (T : Sup1 prog K mg x f C fI) {v : Value} (n : Nms K mg s.heap) (hroom : A.depth + 1 < recursionLimit)
    (hq : ∀ h' tk e d, Made s.heap h' e C d (fun y => if y = f then some v else none) → R (.ok (.ret (.ref e))) { s with heap := h', toks := tk }) : codeAny (model prog w) A (.call (.ref C) ⟨[v], []⟩) R s := by
  obtain ⟨file, p1, p2, q1, q2, q3, q4, q5, q6, q7, q8, q9, q10, pl, S, hfile, hbind, hev⟩ := T.ex
  refine made_of S n (by rw [sizeLine_eq]; show 1 ≤ 16777216; decide) (fun A' R' s' e t0 hA n' he hnx hR => ?_) hq
  exact sup_init1 S T.hks T.hkc T.lf T.df T.nf T.nof n' hfile T.top he hnx (by rw [hA]; exact hroom) hbind pl hev hR
theorem sup_made2 (T : Sup2 prog K mg x f g C fI) {v v2 : Value} (n : Nms K mg s.heap) (hroom : A.depth + 1 < recursionLimit)
    (hq : ∀ h' tk e d, Made s.heap h' e C d (fun y => if y = g then some v2 else if y = f then some v else none) → R (.ok (.ret (.ref e))) { s with heap := h', toks := tk }) : codeAny (model prog w) A (.call (.ref C) ⟨[v, v2], []⟩) R s := by
  obtain ⟨file, p1, p2, p3, q1, q2, q3, q4, q4', q5, q6, q7, q8, q9, q10, r7, r8, r9, r10, pl, S, hfile, hbind, hev⟩ := T.ex
  refine made_of S n (by rw [sizeLine_eq]; show 2 ≤ 16777216; decide) (fun A' R' s' e t0 hA n' he hnx hR => ?_) hq
  exact sup_init2 S T.hks T.hkc T.lf T.df T.nf T.nof T.lg T.dg T.ng T.nog T.ngf T.ngf2 n' hfile T.top he hnx (by rw [hA]; exact hroom) hbind pl hev hR
end
/-! ### the rules -/
theorem relO_one {f : Str} {v : V} {u : Value} (r : RelV v u) (y : Str) : RelO (List.lookup y [(f, v)]) (if y = f then some u else none) := by
  by_cases h : y = f
  · subst h
    simp only [List.lookup, beq_self_eq_true, if_true]
    exact r
  · have e : (y == f) = false := by simpa using h
    simp only [List.lookup, e, if_neg h]
    trivial
theorem relO_two {f g : Str} {v v2 : V} {u u2 : Value} (r : RelV v u) (r2 : RelV v2 u2) (y : Str) : RelO (List.lookup y [(g, v2), (f, v)]) (if y = g then some u2 else if y = f then some u else none) := by
  by_cases h : y = g
  · subst h
    simp only [List.lookup, beq_self_eq_true, if_true]
    exact r2
  · have e : (y == g) = false := by simpa using h
    have q := relO_one (f := f) r y
    simp only [List.lookup, e, if_neg h] at q ⊢
    exact q
section
variable {X : Cx} {C fI : Addr} {x f g : Str}
theorem raises_sup {file : Str} {As : Arguments} {Bs : List Stmt} {Ss : Scope} (T : SupC file X.K X.mg x C fI As Bs Ss) : Raises X (.ref C) := raises_own T.exC T.tyC
/-- a made error, let go -/
theorem mk_sup {pins : List (Addr × Obj)} {σ : L2.St} {H1 : Hp} {s1 : Shared} {h' : Heap} {tk' : Nat} {e d : Addr} {m : Str → Option Value} {fs : List (Str × V)} {Q : XK} (I1 : Inv X pins σ H1 s1) (M : Made s1.heap h' e C d m) (hrel : ∀ y, RelO (fs.lookup y) (m y)) (r : Raises X (.ref C))
    (q1 : Q (.ref C) (some d) (upd H1 d (.xd fs))) : L2N.MkP X pins σ Q (.ref e) { s1 with heap := h', toks := tk' } ∧ L2H.Six (.ref e) { s1 with heap := h', toks := tk' } := by
  obtain ⟨oe, fv, hoe, hc, hd, hdat, h1, h2, h5⟩ := M.obj
  have hns := M.ns
  obtain ⟨G', g1, g2⟩ := restrict h' fun b => decide (b ≠ e)
  have gk : ∀ b, b ≠ e → G'.get? b = h'.get? b := fun b hb => g1 b (decide_eq_true hb)
  have ge : G'.get? e = none := g2 e (by simp)
  have old : ∀ b o, s1.heap.get? b = some o → G'.get? b = some o := fun b o q => (gk b (Nat.ne_of_lt (Nat.lt_of_lt_of_le (Heap.lt_size q) M.new))).trans (M.keep b o q)
  have ob : ObjOk X.prog X.w (upd H1 d (.xd fs)) G' d (.xd fs) := ⟨_, hns.at (fun o q => (gk d M.dne).trans q), hrel⟩
  have J : Inv X pins σ (upd H1 d (.xd fs)) { s1 with heap := G', toks := tk' } := I1.laid (t' := tk') old M.dbig ob
  refine ⟨⟨e, oe, fv, { s1 with heap := G', toks := tk' }, _, .ref C, some d, rfl, J, fun b o q => ?_, ge, hoe, ⟨hc, hd, fun vs z => ?_⟩, hdat, h1, ?_, rfl, I1.bare, r, q1⟩, fun a oe' vs' ea hg hdd => ?_⟩
  · by_cases hb : b = e
    · have q' : G'.get? b = some o := q
      rw [hb, ge] at q'; cases q'
    · exact (gk b hb).symm.trans q
  · rw [hdat] at z
    cases z
    exact h2
  · rw [upd_ne (Ne.symm M.dne)]
    exact I1.hok.fresh M.new
  · cases ea
    have hg' : h'.get? e = some oe' := hg
    rw [hoe] at hg'
    cases hg'
    rw [hdat] at hdd
    cases hdd
    exact h5
/-- x(e), the field f -/
def tMkSup1 (C : Addr) (f : Str) (ta : TA) : L2.St → Hp → XK → Prop := fun σ H Q => ta σ H fun vs H1 => ∃ v, vs = [v] ∧ ∀ d, H1 d = none → Q (.ref C) (some d) (upd H1 d (.xd [(f, v)]))
def tMkSup2 (C : Addr) (f g : Str) (ta : TA) : L2.St → Hp → XK → Prop := fun σ H Q => ta σ H fun vs H1 => ∃ v v2, vs = [v, v2] ∧ ∀ d, H1 d = none → Q (.ref C) (some d) (upd H1 d (.xd [(g, v2), (f, v)]))
theorem pmk_sup1 {a : Expr} {ta : TA} {p pos : Pos} {k : Nat} (T : Sup1 X.prog X.K X.mg x f C fI) (hr : L2H.RoomH k X.A) (ha : PA X [a] ta) (hg : Gl X x) (hdb : (x == ("__debug__" : Str)) = false := by decide)
    (he : starEach (a :: []) X.env = (false, eval a X.env) :: starEach [] X.env := by rfl) (hpl : (backTo pos (starEach [] X.env)).any (·.1) = false := by rfl) :
    L2H.PMk5 X (.Call (.Name x p) [a] [] pos) (tMkSup1 C f ta) := by
  intro pins s σ H Q I h
  obtain ⟨file, p1, p2, q1, q2, q3, q4, q5, q6, q7, q8, q9, q10, pl, S, hfile, hbind, hev⟩ := T.ex
  refine wpAny_Call_Name_kw (ld_glob I hg S.gC ?_ hdb)
  refine PySem.W.callWith_K (h₀ := X.base) I.ok.mod.kin S.kC (thn (ha.run pos pins s σ H _ I h) fun us s1 hh => ?_) he hpl
  obtain ⟨vs, H1, I1, r1, v, ev, q1⟩ := hh
  subst ev
  refine ⟨I1.kIn, ?_⟩
  cases r1 with
  | cons rv rn =>
    rename_i v' us'
    cases rn
    show wpAny _ _ (call (.ref C) [v']) _ _ _
    refine wpAny_call (sup_made1 T (inv_nms I1) (by have := hr.dp; omega) fun h' tk' e d M => ?_)
    exact mk_sup I1 M (relO_one rv) (raises_sup S) (q1 d (I1.hok.fresh M.dbig))
theorem pmk_sup2 {a b : Expr} {ta : TA} {p pos : Pos} {k : Nat} (T : Sup2 X.prog X.K X.mg x f g C fI) (hr : L2H.RoomH k X.A) (ha : PA X [a, b] ta) (hg : Gl X x) (hdb : (x == ("__debug__" : Str)) = false := by decide)
    (he : starEach (a :: [b]) X.env = (false, eval a X.env) :: starEach [b] X.env := by rfl) (hpl : (backTo pos (starEach [b] X.env)).any (·.1) = false := by rfl) :
    L2H.PMk5 X (.Call (.Name x p) [a, b] [] pos) (tMkSup2 C f g ta) := by
  intro pins s σ H Q I h
  obtain ⟨file, p1, p2, p3, q1, q2, q3, q4, q4', q5, q6, q7, q8, q9, q10, r7, r8, r9, r10, pl, S, hfile, hbind, hev⟩ := T.ex
  refine wpAny_Call_Name_kw (ld_glob I hg S.gC ?_ hdb)
  refine PySem.W.callWith_K (h₀ := X.base) I.ok.mod.kin S.kC (thn (ha.run pos pins s σ H _ I h) fun us s1 hh => ?_) he hpl
  obtain ⟨vs, H1, I1, r1, v, v2, ev, q1⟩ := hh
  subst ev
  refine ⟨I1.kIn, ?_⟩
  cases r1 with
  | cons rv rn =>
    cases rn with
    | cons rv2 rn =>
      cases rn
      refine wpAny_call (sup_made2 T (inv_nms I1) (by have := hr.dp; omega) fun h' tk' e d M => ?_)
      exact mk_sup I1 M (relO_two rv rv2) (raises_sup S) (q1 d (I1.hok.fresh M.dbig))
end
end SU

namespace SU
open PySem PySem.Spec PyProof.Rows L2 L2H HotX
/-! ### defs called within an except suite: the promise may speak of the exception that is handled -/
abbrev SpH := Addr × Obj → Sp
structure FnHP (P : Program) (w : World) (K : Frag) (mg : Str → Option Value) (base : Heap) (CX : CXT) (k : Nat) (f : Addr) (fd : FuncData) (ps : List Str) (sp : SpH) : Prop where
  len : ∀ p vs H Q E, sp p vs H Q E → vs.length = ps.length
  run : ∀ (A : Around) (outer : List Env) (s : Shared) (H : Hp) (args : Args) (us : List Value) (vs : List V) (Q : VK) (E : XK) (p : Addr × Obj), RoomH k A → Hot1 A p → PinOk outer H s p → Env0 P w K mg base A outer s H → BindsTo s fd args (ps.zip us) → Vals vs us → sp p vs H Q E →
    codeAny (model P w) A (.call (.ref f) args) (CR CX outer P w H s Q E) s
theorem FnHP.ofH {P : Program} {w : World} {K : Frag} {mg : Str → Option Value} {base : Heap} {CX : CXT} {k : Nat} {f : Addr} {fd : FuncData} {ps : List Str} {sp : Sp} (F : FnH P w K mg base CX k f fd ps sp) : FnHP P w K mg base CX k f fd ps (fun _ => sp) :=
  ⟨fun _ => F.len, F.run⟩
theorem FnHP.mono {P : Program} {w : World} {K : Frag} {mg : Str → Option Value} {base : Heap} {CX : CXT} {j k : Nat} {f : Addr} {fd : FuncData} {ps : List Str} {sp : SpH} (F : FnHP P w K mg base CX j f fd ps sp) (h : j ≤ k) : FnHP P w K mg base CX k f fd ps sp :=
  ⟨F.len, fun A outer s H args us vs Q E p hr => F.run A outer s H args us vs Q E p (hr.mono h)⟩
theorem FnHP.imp {P : Program} {w : World} {K : Frag} {mg : Str → Option Value} {base : Heap} {CX : CXT} {k : Nat} {f : Addr} {fd : FuncData} {ps : List Str} {sp sp' : SpH} (F : FnHP P w K mg base CX k f fd ps sp) (h : ∀ p vs H Q E, sp' p vs H Q E → sp p vs H Q E) : FnHP P w K mg base CX k f fd ps sp' :=
  ⟨fun p vs H Q E z => F.len p vs H Q E (h _ _ _ _ _ z), fun A outer s H args us vs Q E p hr h1 h2 h3 h4 h5 h6 => F.run A outer s H args us vs Q E p hr h1 h2 h3 h4 h5 (h _ _ _ _ _ h6)⟩
theorem FunD.okH {CX : CXT} {P : Program} {w : World} {K : Frag} {mg : Str → Option Value} {base : Heap} {k : Nat} {f : Addr} {name qual : Str} {params : Arguments} {body : List Stmt} {scope : Scope} {dvs : List V} {kws : List (Str × V)} {fd : FuncData}
    {N ps : List Str} {sp : SpH} (F : FunD K name qual params body scope dvs kws f fd) (S : FnScope N ps scope) (len : ∀ p vs H Q E, sp p vs H Q E → vs.length = ps.length)
    (hbody : ∀ (cdv : Value) (A : Around) (outer : List Env) (s : Shared) (H : Hp) (vs : List V) (Q : VK) (E : XK) (p : Addr × Obj), Hot1 A p → RoomH k (A.deeper (envOfC qual scope s.heap.objs.size f cdv)) → sp p vs H Q E →
      ∃ t, PSs (cxH CX P w K mg base N qual scope f cdv A outer s H E p) body t ∧ t { nx := fun _ H' => Q .non H', rt := Q } (L2.start N vs) H) : FnHP P w K mg base CX (k + 1) f fd ps sp := by
  obtain ⟨oc, od, dV, kV, doc, pm, an, cdv, ct, osl, rfl, lk, hcd, _, _⟩ := F.ex
  refine ⟨len, fun A outer s H args us vs Q E p hr hot hpin e0 hb r hsp => ?_⟩
  have hl : vs.length = ps.length := len _ _ _ _ _ hsp
  have KX : K.In s.heap := e0.mod.kin.keeps fun b o e => (e0.bs b o e).1
  have lim : s.heap.NoLimit := e0.mod.nolimit.keeps fun b o e => (e0.bs b o e).1
  have kinds : ∀ y ∈ ps.zip us, scope.names.lookup y.1 = some .local ∨ (scope.names.lookup y.1 = some .cell ∧ ((cellsFrom (s.heap.objs.size + 1) scope.names []).lookup y.1).isSome = true) := by
    rintro ⟨n, v⟩ hy
    rcases S.par n (List.of_mem_zip hy).1 with q | q
    · exact .inl q
    · exact .inr ⟨q, PySem.W.cellsFrom_some _ _ _ (.inl q)⟩
  refine codeAny_call_function hr.depth (KX _ _ lk) rfl S.co S.gen rfl (PySem.W.codeRec_of KX hcd) (hb _ _ _ _ (wpAny_newFunctionEnv_cells S.kind kinds fun env he s1 x => ?_))
  subst he
  refine ⟨lim.keeps x.toInCall.keep, codeAny_func ?_⟩
  obtain ⟨t, ht, hq⟩ := hbody _ A outer s H vs Q E p hot (hr.deeper _) hsp
  have I : Inv (cxH CX P w K mg base N qual scope f cdv A outer s H E p) [] (L2.start N vs) H s1 := inv_startH S hpin e0 hl r x
  refine wpAny_mono (ht.run [] s1 (L2.start N vs) H _ I hq) (fun fl s' hs => ?_) fun e s' hs => hs
  have fin : ∀ {σ' : L2.St} {H' : Hp} {v : V} {u : Value}, Inv (cxH CX P w K mg base N qual scope f cdv A outer s H E p) [] σ' H' s' → RelV v u → Q v H' → CE outer P w H s Q u s' :=
    fun {σ' H' v u} J rv q => ⟨v, H', J.os, J.bare, J.base, J.hok, rv, q⟩
  cases fl with
  | ret u =>
    obtain ⟨v, σ', H', J, rv, q⟩ := hs
    exact fin J rv q
  | next =>
    obtain ⟨σ', H', J, q⟩ := hs
    exact fin (v := V.non) (u := Value.none) J rfl q
  | brk => exact hs.elim fun _ z => z.elim fun _ z => False.elim z.2
  | cont => exact hs.elim fun _ z => z.elim fun _ z => False.elim z.2
/-- the exception that is handled is among the pins -/
def HotP (X : Cx) (p : Addr × Obj) : Prop := Hot1 X.A p ∧ p ∈ X.pn
theorem HotP.hot {X : Cx} {p : Addr × Obj} (h : HotP X p) : HotC X := ⟨p, h.1, h.2⟩
section
variable {X : Cx} {CX : CXT} {k j : Nat} {f : Addr} {fd : FuncData} {ps : List Str} {sp : SpH} {E : L2.St → XK} {x : Str} {q pos : Pos} {e : Expr} {es : List Expr} {t : TA} {p : Addr × Obj}
theorem run_fnHP {pins : List (Addr × Obj)} {σ : L2.St} {H : Hp} {s : Shared} {Q : VK} {us : List Value} {vs : List V} (F : FnHP X.prog X.w X.K X.mg X.base CX k f fd ps sp) (hr : RoomH k X.A) (hc : HotP X p) (hb : Binds X.K fd ps []) (hx : PassesAt CX X σ (E σ))
    (I : Inv X pins σ H s) (r : Vals vs us) (h : sp p vs H Q (E σ)) : wpAny (model X.prog X.w) X.A (call (.ref f) us) (EP X pins σ Q) X.xe s := by
  have hl : us.length = ps.length := by rw [← r.length]; exact F.len _ _ _ _ _ h
  have b := hb s us I.kIn (by rw [List.append_nil]; exact hl)
  rw [List.append_nil] at b
  have P1 := I.pin p (List.mem_append_left _ hc.2)
  have hpin : PinOk X.stack H s p := ⟨P1.1, P1.2.1, fun hm => (List.mem_cons.mp (I.stkSub p.1 hm)).elim P1.2.2.1 P1.2.2.2.1, P1.2.2.2.2⟩
  refine wpAny_call (codeAny_mono (F.run X.A X.stack s H ⟨us, []⟩ us vs Q (E σ) p hr hc.1 hpin I.env0 b r h) fun r s' hq => ?_)
  match r, hq with
  | .error e, hq => exact hx pins H s e s' I hq
  | .ok (.ret u), hq => exact I.after hq
  | .ok .next, hq => exact False.elim hq
  | .ok .brk, hq => exact False.elim hq
  | .ok .cont, hq => exact False.elim hq
/-- a def that is called by its name, hot -/
structure CalH (P : Program) (w : World) (K : Frag) (mg : Str → Option Value) (base : Heap) (CX : CXT) (k : Nat) (x : Str) (sp : SpH) : Prop where
  ex : ∃ (f : Addr) (fd : FuncData) (ps : List Str), FnHP P w K mg base CX k f fd ps sp ∧ mg x = some (.ref f) ∧ PySem.W.keepIn K (.ref f) = true ∧ Binds K fd ps []
theorem CalH.mono {P : Program} {w : World} {K : Frag} {mg : Str → Option Value} {base : Heap} {j k : Nat} {x : Str} {sp : SpH} (c : CalH P w K mg base CX j x sp) (h : j ≤ k) : CalH P w K mg base CX k x sp := by
  obtain ⟨f, fd, ps, F, m, kp, b⟩ := c.ex
  exact ⟨f, fd, ps, F.mono h, m, kp, b⟩
theorem CalH.imp {P : Program} {w : World} {K : Frag} {mg : Str → Option Value} {base : Heap} {k : Nat} {x : Str} {sp sp' : SpH} (c : CalH P w K mg base CX k x sp) (h : ∀ p vs H Q E, sp' p vs H Q E → sp p vs H Q E) : CalH P w K mg base CX k x sp' := by
  obtain ⟨f, fd, ps, F, m, kp, b⟩ := c.ex
  exact ⟨f, fd, ps, F.imp h, m, kp, b⟩
theorem calH {P : Program} {w : World} {K : Frag} {mg : Str → Option Value} {base : Heap} {x : Str} {st : Stmt} {N ps : List Str} {k : Nat} {sp : SpH} {f : Addr} (hm : mg x = some (.ref f)) (hd : ∃ fd, FunD K x x (defArgs st) (defBody st) (defScope st) [] [] f fd ∧ Binds K fd ps [])
    (S : FnScope N ps (defScope st)) (len : ∀ p vs H Q E, sp p vs H Q E → vs.length = ps.length)
    (hbody : ∀ (cdv : Value) (A : Around) (outer : List Env) (s : Shared) (H : Hp) (vs : List V) (Q : VK) (E : XK) (p : Addr × Obj), Hot1 A p → RoomH k (A.deeper (envOfC x (defScope st) s.heap.objs.size f cdv)) → sp p vs H Q E →
      HotP (cxH CX0 P w K mg base N x (defScope st) f cdv A outer s H E p).nox p → ∃ t, PSs (cxH CX0 P w K mg base N x (defScope st) f cdv A outer s H E p).nox (defBody st) t ∧ t { nx := fun _ H' => Q .non H', rt := Q } (L2.start N vs) H) : CalH P w K mg base CX0 (k + 1) x sp := by
  obtain ⟨fd, F, b⟩ := hd
  refine ⟨f, fd, ps, FunD.okH F S len fun cdv A outer s H vs Q E p hot hr h => ?_, hm, F.kp, b⟩
  obtain ⟨t, h1, h2⟩ := hbody cdv A outer s H vs Q E p hot hr h ⟨⟨hot.1, hot.2⟩, List.mem_cons_self⟩
  exact ⟨t, h1.nox, h2⟩
def tCallH (p : Addr × Obj) (sp : SpH) (E : L2.St → XK) (t : TA) : TE := fun σ H Q => t σ H fun vs H1 => sp p vs H1 Q (E σ)
theorem pe_cHX (c : CalH X.prog X.w X.K X.mg X.base CX k x sp) (hr : RoomH j X.A) (hk : k ≤ j) (hc : HotP X p) (hg : Gl X x) (hx : ∀ σ, PassesAt CX X σ (E σ)) (ha : PA X (e :: es) t)
    (hdb : (x == ("__debug__" : Str)) = false := by decide) (he : starEach (e :: es) X.env = (false, eval e X.env) :: starEach es X.env := by rfl) (hpl : (backTo pos (starEach es X.env)).any (·.1) = false := by rfl) :
    PE X (.Call (.Name x q) (e :: es) [] pos) (tCallH p sp E t) := by
  obtain ⟨f, fd, ps, F, hm, kp, b⟩ := c.ex
  refine ⟨fun pins s σ H Q I h => ?_⟩
  refine wpAny_Call_Name_kw (ld_glob I hg hm ?_ hdb)
  exact PySem.W.callWith_K (h₀ := X.base) I.ok.mod.kin kp (thn (ha.run pos pins s σ H _ I h) fun us s1 ⟨vs, H1, I1, r, q⟩ => ⟨I1.kIn, run_fnHP F (hr.mono hk) hc b (hx σ) I1 r q⟩) he hpl
/-- of a def that lets nothing out -/
theorem pe_cH (c : CalH X.prog X.w X.K X.mg X.base CX0 k x sp) (hr : RoomH j X.A) (hk : k ≤ j) (hc : HotP X p) (hg : Gl X x) (ha : PA X (e :: es) t)
    (hdb : (x == ("__debug__" : Str)) = false := by decide) (he : starEach (e :: es) X.env = (false, eval e X.env) :: starEach es X.env := by rfl) (hpl : (backTo pos (starEach es X.env)).any (·.1) = false := by rfl) :
    PE X (.Call (.Name x q) (e :: es) [] pos) (tCallH p sp (fun _ => E0) t) :=
  pe_cHX c hr hk hc hg (fun σ pins H s e s' I z => pass0 pins σ H s e s' I z) ha hdb he hpl
end
/-- its promise does not speak of the exception -/
theorem pe_cHi {X : Cx} {k j : Nat} {sp : Sp} {x : Str} {q pos : Pos} {e : Expr} {es : List Expr} {t : TA} {p : Addr × Obj} (c : CalH X.prog X.w X.K X.mg X.base CX0 k x (fun _ => sp)) (hr : RoomH j X.A) (hk : k ≤ j) (hc : HotP X p) (hg : Gl X x) (ha : PA X (e :: es) t)
    (hdb : (x == ("__debug__" : Str)) = false := by decide) (he : starEach (e :: es) X.env = (false, eval e X.env) :: starEach es X.env := by rfl) (hpl : (backTo pos (starEach es X.env)).any (·.1) = false := by rfl) :
    PE X (.Call (.Name x q) (e :: es) [] pos) (tCall sp [] E0 t) := by
  refine ⟨fun pins s σ H Q I h => (pe_cH c hr hk hc hg ha hdb he hpl).run pins s σ H Q I ?_⟩
  have e : tCall sp [] E0 t σ H Q = tCallH p (fun _ => sp) (fun _ => E0) t σ H Q := by
    unfold tCall tCallH
    simp only [List.append_nil]
  rw [← e]
  exact h
/-- a promise that speaks of the exception by its address a, its class C and its dict d -/
abbrev SpZ := Addr → Addr → Addr → Sp
def spZ (sp : SpZ) : SpH := fun p vs H Q E => ∃ C d, Zc (.ref C) (some d) p.2 ∧ (∃ vs, p.2.data = .fields vs) ∧ sp p.1 C d vs H Q E
theorem pe_cZ {X : Cx} {k j : Nat} {sp : SpZ} {x : Str} {q pos : Pos} {e : Expr} {es : List Expr} {t : TA} {p : Addr × Obj} {a C d : Addr} (c : CalH X.prog X.w X.K X.mg X.base CX0 k x (spZ sp)) (hr : RoomH j X.A) (hk : k ≤ j) (hc : HotP X p) (ha' : p.1 = a) (hz : Zc (.ref C) (some d) p.2) (hf : ∃ vs, p.2.data = .fields vs) (hg : Gl X x) (ha : PA X (e :: es) t)
    (hdb : (x == ("__debug__" : Str)) = false := by decide) (he : starEach (e :: es) X.env = (false, eval e X.env) :: starEach es X.env := by rfl) (hpl : (backTo pos (starEach es X.env)).any (·.1) = false := by rfl) :
    PE X (.Call (.Name x q) (e :: es) [] pos) (tCall (sp a C d) [] E0 t) := by
  obtain ⟨f, fd, ps, F, hm, kp, b⟩ := c.ex
  refine ⟨fun pins s σ H Q I h => ?_⟩
  refine wpAny_Call_Name_kw (ld_glob I hg hm ?_ hdb)
  refine PySem.W.callWith_K (h₀ := X.base) I.ok.mod.kin kp (thn (ha.run pos pins s σ H _ I h) fun us s1 ⟨vs, H1, I1, r, q⟩ => ⟨I1.kIn, run_fnHP (E := fun _ => E0) F (hr.mono hk) hc b (fun pins H s e s' I z => pass0 pins σ H s e s' I z) I1 r ⟨C, d, hz, hf, ?_⟩⟩) he hpl
  rw [ha', ← List.append_nil vs]
  exact q
/-! ### defs that let errors out, called where nothing is handled -/
structure CalX (P : Program) (w : World) (K : Frag) (mg : Str → Option Value) (base : Heap) (k : Nat) (x : Str) (sp : Sp) : Prop where
  ex : ∃ (f : Addr) (fd : FuncData) (ps : List Str), FnOk P w K mg base (L2N.CX P w) k f fd ps sp ∧ mg x = some (.ref f) ∧ PySem.W.keepIn K (.ref f) = true ∧ Binds K fd ps []
section
variable {P : Program} {w : World} {K : Frag} {mg : Str → Option Value} {base : Heap}
theorem calX {x : Str} {st : Stmt} {N ps : List Str} {k : Nat} {sp : Sp} {f : Addr} (hm : mg x = some (.ref f)) (hd : ∃ fd, FunD K x x (defArgs st) (defBody st) (defScope st) [] [] f fd ∧ Binds K fd ps [])
    (S : FnScope N ps (defScope st)) (len : ∀ vs H Q E, sp vs H Q E → vs.length = ps.length)
    (hbody : ∀ (cdv : Value) (A : Around) (outer : List Env) (s : Shared) (H : Hp) (vs : List V) (Q : VK) (E : XK), Room k (A.deeper (envOfC x (defScope st) s.heap.objs.size f cdv)) → sp vs H Q E → L2N.Takes (cxOf (L2N.CX P w) P w K mg base N x (defScope st) f cdv A outer s H E) (fun c d _ H => E c d H) →
      ∃ t, PSs (cxOf (L2N.CX P w) P w K mg base N x (defScope st) f cdv A outer s H E) (defBody st) t ∧ t { nx := fun _ H' => Q .non H', rt := Q } (start N vs) H) : CalX P w K mg base (k + 1) x sp := by
  obtain ⟨fd, F, b⟩ := hd
  refine ⟨f, fd, ps, F.ok S len fun cdv A outer s H vs Q E hr h => hbody cdv A outer s H vs Q E hr h (L2N.takes_of rfl rfl rfl rfl), hm, F.kp, b⟩
theorem CalX.mono {j k : Nat} {x : Str} {sp : Sp} (c : CalX P w K mg base j x sp) (h : j ≤ k) : CalX P w K mg base k x sp := by
  obtain ⟨f, fd, ps, F, m, kp, b⟩ := c.ex
  exact ⟨f, fd, ps, F.mono h, m, kp, b⟩
theorem CalX.imp {k : Nat} {x : Str} {sp sp' : Sp} (c : CalX P w K mg base k x sp) (h : ∀ vs H Q E, sp' vs H Q E → sp vs H Q E) : CalX P w K mg base k x sp' := by
  obtain ⟨f, fd, ps, F, m, kp, b⟩ := c.ex
  exact ⟨f, fd, ps, F.imp h, m, kp, b⟩
end
section
variable {X : Cx} {k j : Nat} {x : Str} {sp : Sp} {q pos : Pos} {e : Expr} {es : List Expr} {t : TA} {W : WX}
theorem pe_cX (tk : L2N.Takes X W) (c : CalX X.prog X.w X.K X.mg X.base k x sp) (hr : Room j X.A) (hk : k ≤ j) (hg : Gl X x) (ha : PA X (e :: es) t)
    (hdb : (x == ("__debug__" : Str)) = false := by decide) (he : starEach (e :: es) X.env = (false, eval e X.env) :: starEach es X.env := by rfl) (hpl : (backTo pos (starEach es X.env)).any (·.1) = false := by rfl) :
    PE X (.Call (.Name x q) (e :: es) [] pos) (tCallS sp (WE W) t) := by
  obtain ⟨f, fd, ps, F, hm, kp, b⟩ := c.ex
  exact pe_callS F (hr.mono hk) hg hm kp b (L2N.passAt tk) ha hdb he hpl
end
end SU

namespace SU
open PySem PySem.Spec PyProof.Rows L2 L2H HotX
/-! ### isinstance of the exception that is handled, its class an own one, with a dict -/
section
open PySem.W PySem.Calls
variable {prog : Program} {w : World} {A : Around} {E : Value → Shared → Prop} {s : Shared} {K : Frag} {x D : Addr} {ox : Obj} {od : Option Obj}
theorem findObj_dataD {C : Addr} {name : Str} {a g : Value} (hc : (clsIn K C).isSome = true) (ha : findIn K (.ref C) name = some (some a)) (hg : specialIn K a "__get__" = some (some g)) (ht : takesIn K a = some true) : findObj K C od name = some (.bind g a) := by
  obtain ⟨cd, hc⟩ := Option.isSome_iff_exists.mp hc
  unfold findObj
  rw [hc, Option.bind_some, ha, Option.bind_some]
  simp [hg, ht]
theorem kin_classD {Q : Option Value → Shared → Prop} (T : ExcC K D) (X : K.In s.heap) (I : InstAt s.heap x ox D od) (h : Q (some (.ref D)) { s with toks := s.toks + 1 }) : wpAny (model prog w) A (getAttr? (.ref x) "__class__") Q E s := by
  have hf : findObj K D od "__class__" = some (.bind (.builtin "getset_descriptor.__get__") (.builtin "object.__class__")) := findObj_dataD (by obtain ⟨cd, hc, _⟩ := any_some T.hd; rw [hc]; rfl) T.ha T.hn T.ht
  obtain ⟨hp, g, d, t, os⟩ := s
  have L0 := I.type (M := model prog w)
  have L1 := looks_findIn (M := model prog w) X T.hg
  have L2 := looks_findIn (M := model prog w) X T.hk
  have L3 := looks_find (M := model prog w) X I hf
  have sub : Looks (model prog w) hp (isInstance (.ref x) (.type "BaseException")) true := L0.andThen (looks_subIn X T.hs)
  have no1 : (false && onTheHeap (Value.builtin "BaseException.__getattribute__")) = false := rfl
  have no3 : (Value.builtin "BaseException.__getattribute__" == Value.builtin "object.__getattribute__") = false := by decide +kernel
  have no2 : (onTheHeap (Value.ref D) && Value.builtin "BaseException.__getattribute__" == Value.builtin "object.__getattribute__") = false := by rw [no3]; rfl
  unfold getAttr? getAttrBy? getAttrBy
  refine wpAny_bind (wpAny_mkText (wpAny_bind (wpAny_attempt (wpAny_holding (wpAny_bind (L0.at (wpAny_bind (L1.at ?_))))))))
  show wpAny _ _ (if (onTheHeap (Value.ref D) && Value.builtin "BaseException.__getattribute__" == Value.builtin "object.__getattribute__") = true then _ else _) _ _ _
  rw [no2, if_neg Bool.false_ne_true]
  unfold getAttrByItsOwn hookBefore
  refine wpAny_bind ?_
  rw [if_pos (show onTheHeap (Value.ref D) = true from rfl)]
  refine L2.at (wpAny_bind (wpAny_attempt (wpAny_holding ?_)))
  unfold callGetattribute
  rw [no1, if_neg Bool.false_ne_true]
  unfold boundAndCalled
  rw [PySem.F.excAttr_ValueError.ga.bind (.ref x)]
  refine wpAny_bind (wpAny_pure ?_)
  show wpAny _ _ (call (.builtin "BaseException.__getattribute__") [.ref x, .str "__class__" t]) _ _ _
  refine wpAny_call (codeAny_call_builtin PySem.F.excAttr_ValueError.ga.plain PySem.F.entry_bexc_ga ?_)
  refine @check_slot (model prog w) _ _ ⟨hp, g, d, t + 1, os⟩ "BaseException.__getattribute__" "BaseException" "__getattribute__" (.ref x) [.str "__class__" t] [] _ (by decide +kernel) (by decide +kernel) sub (PySem.F.args_bexc_ga (.ref x) (.str "__class__" t)) ?_
  unfold Builtin.«object.__getattribute__»
  refine wpAny_bind (wpAny_of_eq (a := ((Value.ref x : Value), [Value.str "__class__" t])) (by first | rfl | (simp only [slotArgs]; rfl)) ?_)
  refine wpAny_bind (wpAny_pure (wpAny_bind (L0.at (wpAny_bind (L3.at ?_)))))
  show wpAny _ _ (holding [Value.builtin "object.__class__"] (call (.builtin "getset_descriptor.__get__") [.builtin "object.__class__", .ref x, .ref D]) >>= ret) _ _ _
  refine wpAny_bind (wpAny_holding (wpAny_call (class_get (s := ⟨hp, g, d, t + 1, os⟩) (ox := ox) (od := od) X I T.hm ?_)))
  refine wpAny_pure ?_
  show wpAny _ _ (handedOut (.ref D)) _ _ _
  rw [handedOut_of (v := .ref D) rfl]
  first
    | exact wpAny_pure (wpAny_pure h)
    | exact wpAny_pure h
    | exact wpAny_pure (wpAny_bind (wpAny_pure (wpAny_pure h)))
theorem kitx_excD (T : ExcC K D) : KitX K (.ref x) (.ref D) (fun h => InstAt h x ox D od) := by
  have Z := handS_kitx_exc (x := x) (ox := ox) T.hg T.hk T.hs T.hd T.ha T.hn T.ht T.hm
  refine ⟨fun _ _ _ I => I.type, fun M h X _ => ?_, Z.ne, fun X I k => kin_classD T X I k⟩
  obtain ⟨cdD, hcD, _⟩ := any_some T.hd
  unfold clsIn at hcD
  split at hcD
  · rename_i c' d' cd' sl' ho
    intro A' Q' E' s' k q
    unfold isType loadHead
    exact wpAny_bind (wpAny_loadPart (k _ _ (X _ _ ho)) (wpAny_pure q))
  · cases hcD
end
/-- p's object is an error of the class C, its fields stand in the dict d -/
structure ExcP (X : Cx) (p : Addr × Obj) (C d : Addr) : Prop where
  pin : p ∈ X.pn
  z : Zc (.ref C) (some d) p.2
  f : ∃ vs, p.2.data = .fields vs
theorem ExcP.inst {X : Cx} {p : Addr × Obj} {C d : Addr} (T : ExcP X p C d) {pins : List (Addr × Obj)} {σ : L2.St} {H : Hp} {s : Shared} (I : Inv X pins σ H s) {fs : List (Str × V)} (h : H d = some (.xd fs)) : ∃ od, PySem.W.InstAt s.heap p.1 p.2 C (some od) := by
  obtain ⟨vs, hv⟩ := T.f
  have g := (I.pin p (List.mem_append_left _ T.pin)).1
  have hx : ObjOk X.prog X.w H s.heap d (.xd fs) := I.hok d _ h
  obtain ⟨mA, hns, hr⟩ := hx
  obtain ⟨od, ho, hl⟩ := lookIn_ns hns
  exact ⟨od, g, T.z.1, by unfold PySem.W.notCls; rw [hv] <;> rfl, by rw [T.z.2]; exact ho⟩
section
variable {X : Cx} {p : Addr × Obj} {C d : Addr}
/-- isinstance(e, c) -/
def rIsP (K : Frag) (p : Addr × Obj) (C d : Addr) : List V → Hp → VK → Prop := fun xs H Q => ∃ (c : V) (u : Value) (b : Bool) (fs : List (Str × V)), xs = [.ref p.1, c] ∧ ClsV c u ∧ H d = some (.xd fs) ∧ PySem.W.kitOne K (.ref C) u = some b ∧ Q (.bl b) H
/-- isinstance(e, (c1, ..)) -/
def rIsPT (K : Frag) (p : Addr × Obj) (C d : Addr) : List V → Hp → VK → Prop := fun xs H Q => ∃ (tp : Addr) (cs : List V) (us : List Value) (b : Bool) (fs : List (Str × V)), xs = [.ref p.1, .ref tp] ∧ H tp = some (.tup cs) ∧ Paired ClsV cs us ∧ H d = some (.xd fs) ∧ PySem.W.kitAny K (.ref C) us = some b ∧ Q (.bl b) H
theorem call_isP (T : ExcP X p C d) (Z : ExcC X.K C) : CallR X (.builtin "isinstance") (rIsP X.K p C d) := by
  intro pins s σ H xs us Q I r h
  obtain ⟨c, u, b, fs, rfl, k, hd, e, q⟩ := h
  obtain ⟨u1, u2, rfl, r1, r2⟩ := vals2 r
  have e2 := k.eq r2
  subst e2
  cases r1
  obtain ⟨od, J⟩ := T.inst I hd
  exact PySem.W.kia_one (kitx_excD (od := some od) Z) I.kIn J e (fun z => nomatch z) fun tk => ⟨.bl b, H, I.tok tk, rfl, q⟩
theorem call_isPT (T : ExcP X p C d) (Z : ExcC X.K C) : CallR X (.builtin "isinstance") (rIsPT X.K p C d) := by
  intro pins s σ H xs us Q I r h
  obtain ⟨tp, cs, cus, b, fs, rfl, ht, k, hd, e, q⟩ := h
  obtain ⟨u1, u2, rfl, r1, r2⟩ := vals2 r
  cases r1
  cases r2
  obtain ⟨od, J⟩ := T.inst I hd
  obtain ⟨_, us2, rv, o, h1, h2, n, h3⟩ := (show ObjOk X.prog X.w H s.heap tp (.tup cs) from I.hok tp _ ht)
  have eu := ClsV.all k rv
  subst eu
  obtain ⟨oc, od2, dt, sl⟩ := o
  dsimp only at h2 h3
  subst h2 h3
  exact PySem.W.kia_tup (kitx_excD (od := some od) Z) I.kIn J h1 e (fun z => nomatch z) fun tk => ⟨.bl b, H, I.tok tk, rfl, q⟩
end
/-- e.f, in the suite or in a def that it calls -/
def tXfP (a : Addr) (d : Addr) (f : Str) (te : TE) : TE := fun σ H Q => te σ H fun x H1 => x = .ref a ∧ ∃ (fs : List (Str × V)) (v : V), H1 d = some (.xd fs) ∧ fs.lookup f = some v ∧ Q v H1
theorem pe_xfP {X : Cx} {p : Addr × Obj} {C d a : Addr} {e : Expr} {te : TE} {pos : Pos} {n : Str} (T : ExcP X p C d) (Z : XfC X.K C) (hno : PySem.W.findIn X.K (.ref C) n = some none) (ha' : p.1 = a) (he : PE X e te) (hb : attributeBase e n X.env (eval e X.env) = eval e X.env := by rfl) :
    PE X (.Attribute e n pos) (tXfP a d n te) := by
  subst ha'
  refine ⟨fun pins s σ H Q I h => ?_⟩
  refine attr_of hb (thn (he.run pins s σ H _ I h) fun u s1 hh => ?_)
  obtain ⟨x, H1, I1, rx, ex, fs, v, ea, l, q⟩ := hh
  subst ex
  obtain rfl : u = Value.ref p.1 := rx
  obtain ⟨vs, hv⟩ := T.f
  have hx : ObjOk X.prog X.w H1 s1.heap d (.xd fs) := I1.hok d _ ea
  obtain ⟨mA, hns, hr⟩ := hx
  obtain ⟨od, ho, hl⟩ := lookIn_ns hns
  obtain ⟨u, hu, ru⟩ := RelO.some_of (v := v) (o := mA n) (by rw [← l]; exact hr n)
  have J : PySem.W.InstAt s1.heap p.1 p.2 C (some od) := ⟨(I1.pin p (List.mem_append_left _ T.pin)).1, T.z.1, by unfold PySem.W.notCls; rw [hv] <;> rfl, by rw [T.z.2]; exact ho⟩
  exact HandSPX.exc_get I1.kIn J Z.ga Z.gg Z.exC (PySem.W.findObj_own Z.hdC hno rfl (by rw [hl, hu])) (handed_of ru) ⟨v, H1, I1.tok _, ru, q⟩
end SU

namespace SU
open PySem PySem.Spec PyProof.Rows L2 L2H HotX
/-! ### a list comprehension over a list, within an except suite -/
theorem pyNext_list_end_hot {prog : Program} {w : World} {A : Around} {E : Value → Shared → Prop} {s : Shared} {it l x1 : Addr} {i : Nat} {items : Array Value} {Q : Option Value → Shared → Prop} (hot : HotAt A x1 s.heap) (hne : x1 ≠ it)
    (hit : s.heap.IsListIter it l i) (hl : s.heap.IsList l items) (hx : items[i]? = none)
    (hQ : ∀ h', (∀ b o, b ≠ it → s.heap.get? b = some o → h'.get? b = some o) → Q none { s with heap := h' }) : wpAny (model prog w) A (pyNext (.ref it)) Q E s := by
  obtain ⟨o, ho, hc, hd⟩ := id hit
  obtain ⟨ol, hol, _, nl, hdl⟩ := hl
  obtain ⟨hh, o1, vs1, h1, d1, c1⟩ := hot
  unfold pyNext
  refine wpAny_bind (wpAny_attempt (wpAny_callSpecial?_slot (name := Str.ofString "__next__") hit.typeIs slot_listiter_next (wpAny_call_entry slot_listiter_next hit.typeIs entry_listiter_next ?_ (args_listiter_next _))))
  show wpAny _ _ (field (.ref it) 0 >>= _) _ _ s
  refine wpAny_bind (wpAny_field ho hd (x := .ref l) rfl ?_)
  show wpAny _ _ (if (Value.ref l == Value.none) = true then _ else _) _ _ s
  rw [if_neg (show ¬ ((Value.ref l == Value.none) = true) from Bool.false_ne_true)]
  show wpAny _ _ (field (.ref it) 1 >>= _) _ _ s
  refine wpAny_bind (wpAny_field ho hd (x := .int i 0) rfl ?_)
  show wpAny _ _ (seqItems? (.ref l) >>= _) _ _ s
  refine wpAny_bind (wpAny_seqItems hol hdl ?_)
  simp only [Int.toNat_natCast, hx]
  refine wpAny_bind (wpAny_rule (wpAny_bind (wpAny_setField ho hd (by simp) ?_)))
  show wpAny _ _ (newExc (.type "StopIteration") [] >>= _) _ _ _
  refine wpAny_bind ?_
  simp only [newExc, newTuple]
  refine wpAny_bind (wpAny_newObj_type ?_ (by size_fits))
  refine wpAny_bind (m := firstArgMember _ _) (wpAny_of_eq (a := Value.none) (by first | rfl | (simp only [firstArgMember]; rfl)) ?_)
  refine wpAny_newObj_type ?_ (by size_fits)
  have keep : ∀ b o, b ≠ it → s.heap.get? b = some o → (s.heap.update it (Obj.mapFields (·.setIfInBounds 0 Value.none))).get? b = some o := fun b o hb e => by
    rw [Heap.get?_update_other _ _ (Ne.symm hb)]
    exact e
  have k1 := Heap.get?_push_of_some { cls := .type "tuple", data := .seq ([] : List Value).toArray } (keep _ _ hne h1)
  refine raiseNew_hot ⟨hh, o1, vs1, Heap.get?_push_of_some _ k1, d1, c1⟩ (Nat.ne_of_lt (Heap.lt_size k1)) (Heap.get?_push_size _ rfl) rfl (by first | (simp; done) | (simp; omega) | (simp only [Array.size_append]; simp; omega)) ?_
  refine wpAny_bind (wpAny_isInstance (T := "StopIteration") (b := true) ⟨_, Heap.get?_update_self _ (Heap.get?_push_size _ rfl) rfl, rfl⟩ isSubtype_stop ?_)
  refine wpAny_pure (hQ _ fun b o hb e => ?_)
  have k2 := Heap.get?_push_of_some { cls := .type "tuple", data := .seq ([] : List Value).toArray } (keep _ _ hb e)
  rw [Heap.get?_update_other _ _ (Nat.ne_of_gt (Heap.lt_size k2))]
  exact Heap.get?_push_of_some _ k2
theorem HotC.atI {X : Cx} {pins : List (Addr × Obj)} {σ : L2.St} {H : Hp} {s : Shared} (c : HotC X) (I : Inv X pins σ H s) {it : Addr} (f : FpOk X pins H it) : ∃ x1, HotAt X.A x1 s.heap ∧ x1 ≠ it := by
  obtain ⟨p, ⟨hh, v1, e1, c1⟩, hp⟩ := c
  exact ⟨p.1, ⟨hh, p.2, v1, (I.pin p (List.mem_append_left _ hp)).1, e1, c1⟩, f.2.2.2.2.2 p (List.mem_append_left _ hp)⟩
theorem turn_listH {P : Program} {w : World} {K : Frag} {tg : Expr} (a it : Addr) (xs : List V) : TurnH P w K tg ⟨fun i H => SqL K H a xs ∧ i < xs.length, fun i H x H' => H' = H ∧ xs[i]? = some x, fun i H => SqL K H a xs ∧ xs.length ≤ i⟩ [it] it (fun i h => h.IsListIter it a i) where
  mem := by simp
  obj := fun i h st b hb => by
    have e : b = it := by simpa using hb
    subst e
    obtain ⟨o, e, c, d⟩ := st
    exact ⟨o, e, fun v z => by rw [d] at z; cases z⟩
  keep := fun i h h' st k => st.at fun o e => k it (by simp) o e
  item := by
    intro X hP hw hK hc i pins s σ H E I hf st hg
    subst hP hw hK
    obtain ⟨hq, hi⟩ := hg
    obtain ⟨its, rv, p, hz⟩ := I.list hq
    obtain ⟨u, hu, ru⟩ := rv.get (List.getElem?_eq_getElem hi)
    obtain ⟨f0, f1, f2, f3, f4, f5⟩ := hf it (by simp)
    refine wpAny_pyNext_list_item st p.isList (x := u) (by simpa using hu) fun h' st' sb => ?_
    have I1 : Inv X pins σ H { s with heap := h' } := I.turned (t' := s.toks) (fun b o hb e => (sb.2 b hb).trans e) f0 f1 f3 f4 f5
    obtain ⟨o, e, c, d⟩ := id st'
    exact ⟨u, rfl, go_of (s := { s with heap := h' }) e c d (by decide) ⟨_, H, I1, ru, ⟨rfl, List.getElem?_eq_getElem hi⟩, st', fun b hb => (hf b hb).1⟩⟩
  done := by
    intro X hP hw hK hc i pins s σ H E I hf st hg
    subst hP hw hK
    obtain ⟨hq, hi⟩ := hg
    obtain ⟨its, rv, p, hz⟩ := I.list hq
    obtain ⟨x1, hot, hne⟩ := HotC.atI hc I (hf it (by simp))
    obtain ⟨f0, f1, f2, f3, f4, f5⟩ := hf it (by simp)
    have hl := rv.length
    exact pyNext_list_end_hot hot hne st p.isList (by simp; omega) fun h' eb => ⟨rfl, I.turned (t' := s.toks) (fun b o hb e => eb b o hb e) f0 f1 f3 f4 f5⟩
  self := fun _ _ _ _ _ st h => wpAny_pyIter_listiter st h
def iLstH (K : Frag) (tl : TE) : TI := fun σ H R => tl σ H fun x H1 => ∃ a xs, x = .ref a ∧ SqL K H1 a xs ∧ R (ItB K true a xs) H1
theorem pi_listH {X : Cx} {tg l : Expr} {tl : TE} (hl : PE X l tl) : PIH X tg l (iLstH X.K tl) := by
  refine ⟨fun pins s σ H R I h => ?_⟩
  refine thn (hl.run pins s σ H _ I h) fun v s1 ⟨x, H1, I1, r1, q1⟩ => ?_
  obtain ⟨a, xs, e, hq, q⟩ := q1
  subst e
  cases r1
  obtain ⟨its, rv, p, hz⟩ := I1.list hq
  refine wpAny_pyIter_list p.isList ?_
  refine ⟨s1.heap.objs.size, [s1.heap.objs.size], _, _, H1, rfl, I1.kept (t' := s1.toks) fun b o e => Heap.get?_push_of_some _ e, turn_listH a _ xs, ⟨_, Heap.get?_push_size _ rfl, rfl, rfl⟩, fun b hb => ?_, q⟩
  have e : b = s1.heap.objs.size := by simpa using hb
  subst e
  exact I1.fpOk (Nat.le_refl _) (I1.hok.fresh (Nat.le_refl _))
abbrev blkH (X : Cx) (s : Shared) (H : Hp) (scope : Scope) (cenv : Env) (fp : List Addr) (p : Addr × Obj) : Cx := { X.blk s H scope cenv fp with pn := [p] }
theorem Inv.hotblk {X : Cx} {s s' : Shared} {H H' : Hp} {scope : Scope} {cenv : Env} {fp : List Addr} {p : Addr × Obj} {σ : L2.St} (I : Inv (X.blk s H scope cenv fp) [] σ H' s') (h : s'.heap.get? p.1 = some p.2 ∧ H' p.1 = none ∧ p.1 ≠ cenv.locals ∧ p.1 ∉ frs X.stack ∧ ∀ v, p.2.data ≠ .cell v) : Inv (blkH X s H scope cenv fp p) [] σ H' s' :=
  ⟨⟨I.ok.mod, I.ok.kind, I.ok.glob, I.ok.blt, I.ok.above, I.ok.inj, I.ok.has, I.ok.cab, I.ok.hd, I.ok.frames, I.ok.stk, I.ok.exf, I.ok.bs, I.ok.bsz, I.ok.noex, I.ok.exfs, I.ok.funs, I.ok.frf⟩, I.os, I.bare, I.base, I.loc, I.cell, I.free, I.freeC, fun q hq => by
    have eq : q = p := by simpa using (show q ∈ [p] ++ ([] : List (Addr × Obj)) from hq)
    rw [eq]
    exact h, I.hok, I.len⟩
section
variable {X : Cx}
theorem lc_hot {p : Addr × Obj} {pins : List (Addr × Obj)} {s : Shared} {σ : L2.St} {H : Hp} {Q : VK} {elt tg iter : Expr} {ifs : List Expr} {scope : Scope} {own : List (Str × Nat)} {pos pos' : Pos} {wi : TI} {g : TG} {tt : TT} {te : TE} {use : Option (Value → Sem Unit)} {Qf : Value → Shared → Prop}
    (hp : HotP X p) (hN : X.N.Nodup) (I : Inv X pins σ H s) (hi : PIH X tg iter wi) (ok : BlkOk X.N X.env.scope scope own)
    (hg : ∀ (s : Shared) (H : Hp) (C : Addr) (cl : List (Str × Addr)) (fp : List Addr), PG (blkH X s H scope (compEnvC scope cl C X.env) fp p) tg g) (ht : ∀ (s : Shared) (H : Hp) (C : Addr) (cl : List (Str × Addr)) (fp : List Addr), PTs (blkH X s H scope (compEnvC scope cl C X.env) fp p) ifs tt)
    (he : ∀ (s : Shared) (H : Hp) (C : Addr) (cl : List (Str × Addr)) (fp : List Addr), PE (blkH X s H scope (compEnvC scope cl C X.env) fp p) elt te) (hs : ∀ x, foldedSetIterable iter X.env x = pure x)
    (h : tLc wi g tt te (own.map (·.2)) σ H Q)
    (hRR : ∀ D C s' m H', Inv X pins σ H' s' → Q (.ref D) H' → s'.heap.Ns C m → FpOk X pins H' C → compPost (model X.prog X.w) X.A X.xe use Qf (.ref D) C (.ok .next) s') :
    wpAny (model X.prog X.w) X.A (comprehension (.ListComp elt [⟨tg, iter, ifs, 0⟩] scope pos) scope X.env pos' (newList []) false (eval iter X.env) use) Qf X.xe s := by
  have hfree : ∀ y ∈ scope.names, y.2 = .free → ∃ c, X.env.cells.lookup y.1 = some c := fun y hy e => by
    rcases ok.free y hy e with k | k
    · exact I.ok.has _ (.inl k)
    · exact I.ok.has _ (.inr k)
  refine wpAny_comprehension_free (use := use) rfl hs (closure_ok hfree) ok.kind (fun y hy e => by rw [ok.uniq y hy, e])
    (thn (hi.run pins s σ H _ I h) fun xv s1 hx => thn hx fun itv s2 h2 => ?_)
  obtain ⟨it, fp, tn, J, H2, e, I2, T, st2, f2, q⟩ := h2
  subst e
  refine wpAny_newObj_type (newEnv_comp ?_) (by show 0 ≤ sizeLine; decide)
  generalize hD : s2.heap.objs.size = D
  have hDn : H2 D = none := I2.hok.fresh (Nat.le_of_eq hD)
  obtain ⟨W, ⟨m0, w0⟩, turn⟩ := q D hDn
  -- the new list
  generalize hs3 : ({ s2 with heap := s2.heap.push { cls := .type "list", data := .seq ([] : List Value).toArray } } : Shared) = s3
  have I3 : Inv X pins σ (upd H2 D (.lst [])) s3 := by
    rw [← hs3]
    refine I2.laid (t' := s2.toks) (fun b o e => Heap.get?_push_of_some _ e) (Nat.le_of_eq hD) ⟨Nat.zero_le _, [], 0, .nil, ?_⟩
    rw [← hD]
    exact Heap.get?_push_size _ rfl
  have h3 : s3.heap = s2.heap.push { cls := .type "list", data := .seq ([] : List Value).toArray } := by rw [← hs3]
  have sz : ∀ b ∈ fp, b < s2.heap.objs.size := fun b hb => by
    obtain ⟨o, e, _⟩ := T.obj _ _ st2 b hb
    exact Heap.lt_size e
  have f3 : ∀ b ∈ fp, FpOk X pins (upd H2 D (.lst [])) b ∧ b < s3.heap.objs.size := fun b hb => by
    have hlt := sz b hb
    refine ⟨⟨?_, (f2 b hb).2⟩, by rw [h3, Heap.size_push]; exact Nat.lt_succ_of_lt hlt⟩
    rw [upd_ne (by rw [← hD]; exact Nat.ne_of_lt hlt)]
    exact (f2 b hb).1
  have st3 : tn 0 s3.heap := T.keep _ _ _ st2 fun b _ o e => by rw [h3]; exact Heap.get?_push_of_some _ e
  have I4' := block_start I3 ok hN f3
  have P1 := I3.pin p (List.mem_append_left _ hp.2)
  have pg := hg s3 (upd H2 D (.lst [])) s3.heap.objs.size (cellsFrom (s3.heap.objs.size + 1) scope.names (cloFrom X.env.cells scope.names [])) fp
  have pt := ht s3 (upd H2 D (.lst [])) s3.heap.objs.size (cellsFrom (s3.heap.objs.size + 1) scope.names (cloFrom X.env.cells scope.names [])) fp
  have pe := he s3 (upd H2 D (.lst [])) s3.heap.objs.size (cellsFrom (s3.heap.objs.size + 1) scope.names (cloFrom X.env.cells scope.names [])) fp
  show codeAny _ _ (.compStart (.ListComp elt [⟨tg, iter, ifs, 0⟩] scope pos) 0 (.ref it) (.ref D) (compEnvC scope (cellsFrom (s3.heap.objs.size + 1) scope.names (cloFrom X.env.cells scope.names [])) s3.heap.objs.size X.env)) (compPost (model X.prog X.w) X.A X.xe use Qf (.ref D) s3.heap.objs.size) { s3 with heap := pushCells (s3.heap.push { cls := .type "dict", data := .dict #[] }) scope.names }
  have nfp : ∀ b ∈ fp, (upd H2 D (.lst [])) b = none := fun b hb => (f3 b hb).1.1
  generalize hce : compEnvC scope (cellsFrom (s3.heap.objs.size + 1) scope.names (cloFrom X.env.cells scope.names [])) s3.heap.objs.size X.env = ce at I4' pg pt pe ⊢
  have cL : ce.locals = s3.heap.objs.size := by subst hce; rfl
  generalize hH3 : upd H2 D (.lst []) = H3 at I3 I4' pg pt pe w0 nfp f3 P1
  generalize hs4 : ({ s3 with heap := pushCells (s3.heap.push { cls := .type "dict", data := .dict #[] }) scope.names } : Shared) = s4 at I4' ⊢
  have st4 : tn 0 s4.heap := T.keep _ _ _ st3 fun b _ o e => by rw [← hs4]; exact pushCells_keeps _ _ _ _ (Heap.get?_push_of_some _ e)
  have I4 : Inv (blkH X s3 H3 scope ce fp p) [] (wipe σ (own.map (·.2))) H3 s4 := by
    refine Inv.hotblk I4' ⟨by rw [← hs4]; exact pushCells_keeps _ _ _ _ (Heap.get?_push_of_some _ P1.1), P1.2.1, ?_, fun hm => (List.mem_cons.mp (I3.stkSub p.1 hm)).elim P1.2.2.1 P1.2.2.2.1, P1.2.2.2.2⟩
    rw [cL]
    exact Nat.ne_of_lt (Heap.lt_size P1.1)
  have hcb : HotC (blkH X s3 H3 scope ce fp p) := ⟨p, hp.1, by simp⟩
  have stat : ∀ {σ' : L2.St} {H' : Hp} {s' : Shared}, Inv (blkH X s3 H3 scope ce fp p) [] σ' H' s' → (∀ b ∈ fp, H' b = none) → ∀ b ∈ fp, FpOk (blkH X s3 H3 scope ce fp p) [] H' b := fun {σ' H' s'} I' hn b hb =>
    ⟨hn b hb, (I'.ok.exf b hb).1, I'.ok.exfs b hb, .inl hb, fun x c e => (I'.ok.exf b hb).2 x c e, fun q hq => by
      have eq : q = p := by simpa using hq
      rw [eq]
      exact (f3 b hb).1.2.2.2.2.2 p (List.mem_append_left _ hp.2)⟩
  have loop : codeAny (model X.prog X.w) X.A (.compLoop (.ListComp elt [⟨tg, iter, ifs, 0⟩] scope pos) 0 (.ref it) (.ref D) ce) (compPost (model X.prog X.w) X.A X.xe use Qf (.ref D) s3.heap.objs.size) s4 := by
    refine compLoop_any (fun n s' => ∃ i H', Inv (blkH X s3 H3 scope ce fp p) [] (wipe σ (own.map (·.2))) H' s' ∧ tn i s'.heap ∧ (∀ b ∈ fp, H' b = none) ∧ W i n H') ?_ m0 ⟨0, H3, I4, st4, nfp, w0⟩
    rintro n s5 ⟨i, H5, I5, st5, n5, w5⟩
    rcases turn i n H5 w5 with ⟨stop, qq⟩ | ⟨go, Nx, hNx, step⟩
    · have td := T.done (blkH X s3 H3 scope ce fp p) rfl rfl rfl hcb i [] s5 _ H5 (fun _ _ => False) I5 (stat I5 n5) st5 stop
      refine thnF td fun r s6 ⟨hr, I6⟩ => ?_
      subst hr
      -- back in the def's context
      have I7 : Inv X pins σ H5 s6 := I3.call' (ch := fp) I6.os I6.base I6.hok I6.bare fun b hb => ⟨(f3 b hb).1.2.2.2.1, (f3 b hb).1.2.1, (f3 b hb).1.2.2.2.2.1, (f3 b hb).1.2.2.2.2.2⟩
      have nC : H5 s3.heap.objs.size = none := by
        have z : H5 ce.locals = none := I6.free
        rw [cL] at z
        exact z
      obtain ⟨m, hn, _⟩ := I6.loc
      have hn : s6.heap.Ns ce.locals m := hn
      rw [cL] at hn
      exact hRR D s3.heap.objs.size s6 m H5 I7 qq hn (I3.fpOk (Nat.le_refl _) nC)
    · have ti := T.item (blkH X s3 H3 scope ce fp p) rfl rfl rfl hcb i [] s5 _ H5 (fun _ _ => False) I5 (stat I5 n5) st5 go
      refine thnF ti fun r s6 ⟨u, hr, h6⟩ => ?_
      subst hr
      refine thnF h6 fun _ s7 ⟨x, H7, I7, r7, y7, st7, n7⟩ => ?_
      have I7' := I7.pinned (stat I7 n7) (T.obj _ _ st7)
      refine thnF (pg.run _ s7 _ H7 x u _ I7' r7 (step x H7 y7)) fun _ s8 ⟨σ8, H8, I8, hw8, q8⟩ => ?_
      refine thnF (pt.run _ s8 σ8 H8 _ I8 q8) fun b s9 ⟨H9, I9, q9⟩ => ?_
      -- the turn's end
      have fin : ∀ {s' : Shared} {H' : Hp}, Inv (blkH X s3 H3 scope ce fp p) ([] ++ pinsAt fp s7.heap) σ8 H' s' → Nx H' → ∃ m, m < n ∧ ∃ i H', Inv (blkH X s3 H3 scope ce fp p) [] (wipe σ (own.map (·.2))) H' s' ∧ tn i s'.heap ∧ (∀ b ∈ fp, H' b = none) ∧ W i m H' := fun {s' H'} I' nx => by
        obtain ⟨m', hm, w'⟩ := hNx H' nx
        have pin' : ∀ b ∈ fp, ∀ o, s7.heap.get? b = some o → s'.heap.get? b = some o ∧ H' b = none := fun b hb o e =>
          let z := I'.pin (b, o) (List.mem_append_right _ (List.mem_append_right _ (mem_pinsAt hb e)))
          ⟨z.1, z.2.1⟩
        have hl : (wipe σ (own.map (·.2))).length = σ8.length := by rw [← hw8, wipe_length]
        refine ⟨m', hm, i + 1, H', (I'.unpinned (pins := [])).weak hl (fun j v e => ?_), T.keep _ _ _ st7 fun b hb o e => (pin' b hb o e).1, fun b hb => ?_, w'⟩
        · rw [← hw8] at e
          exact (wipe_some e).1
        · obtain ⟨o, e, _⟩ := T.obj _ _ st7 b hb
          exact (pin' b hb o e).2
      cases b with
      | false =>
        simp only [Bool.false_eq_true, if_false] at q9 ⊢
        exact fin I9 q9
      | true =>
        simp only [if_true] at q9 ⊢
        refine thnF (pe.run _ s9 σ8 H9 _ I9 q9) fun z s10 ⟨yv, H10, I10, r10, acc, hD10, hz10, nx⟩ => ?_
        exact app_ok (X := blkH X s3 H3 scope ce fp p) I10 hD10 hz10 r10 fun s11 I11 => fin I11 nx
  exact codeAny_compStart_list loop (T.self X.A 0 _ _ _ st4 loop)
theorem pe_lcH {p : Addr × Obj} {elt tg iter : Expr} {ifs : List Expr} {scope : Scope} {own : List (Str × Nat)} {pos : Pos} {wi : TI} {g : TG} {tt : TT} {te : TE} (hp : HotP X p) (hN : X.N.Nodup) (hi : PIH X tg iter wi) (ok : BlkOk X.N X.env.scope scope own)
    (hg : ∀ (s : Shared) (H : Hp) (C : Addr) (cl : List (Str × Addr)) (fp : List Addr), PG (blkH X s H scope (compEnvC scope cl C X.env) fp p) tg g) (ht : ∀ (s : Shared) (H : Hp) (C : Addr) (cl : List (Str × Addr)) (fp : List Addr), PTs (blkH X s H scope (compEnvC scope cl C X.env) fp p) ifs tt)
    (he : ∀ (s : Shared) (H : Hp) (C : Addr) (cl : List (Str × Addr)) (fp : List Addr), PE (blkH X s H scope (compEnvC scope cl C X.env) fp p) elt te) (hs : ∀ x, foldedSetIterable iter X.env x = pure x := by intro _; rfl) :
    PE X (.ListComp elt [⟨tg, iter, ifs, 0⟩] scope pos) (tLc wi g tt te (own.map (·.2))) := by
  refine ⟨fun pins s σ H Q I h => ?_⟩
  rw [eval_ListComp]
  refine lc_hot hp hN I hi ok hg ht he hs h fun D C s' m H' I' q hn f => ⟨m, hn, fun h'' sb => ?_⟩
  obtain ⟨f0, f1, f2, f3, f4, f5⟩ := f
  exact ⟨.ref D, H', I'.turned (t' := s'.toks) (fun b o hb e => (sb.2 b hb).trans e) f0 f1 f3 f4 f5, rfl, q⟩
end
end SU
namespace SU
open PySem PySem.Spec PyProof.Rows L2 L2H HotX
/-! ### a try with one except .. as e, its suite -/
theorem takes_none {X : Cx} : L2N.Takes X (fun _ _ _ _ => False) := by
  rintro u s' ⟨a, B, sI, pins, σ, H, cls, d, _, _, _, _, _, _, _, _, w⟩
  exact w.elim
theorem pss_exc {X : Cx} {ss : List Stmt} {cls : Value} {d : Option Addr} {C : Addr} {t : Addr → TS} (h : ∀ dd, cls = .ref C → d = some dd → PSs X ss (t dd)) : PSs X ss (fun D σ H => ∃ dd, cls = .ref C ∧ d = some dd ∧ t dd D σ H) :=
  ⟨fun pins s σ H D I ⟨dd, e1, e2, q⟩ => (h dd e1 e2).run pins s σ H D I q⟩
theorem hot_suite {X : Cx} {a : Addr} {oe : Obj} {cls : Value} {d : Option Addr} {pn : List (Addr × Obj)} (hz : L2N.Zn cls d oe) (hf : ∃ vs, oe.data = .fields vs) : HotP (X.suite a ((a, oe) :: pn)) (a, oe) := by
  obtain ⟨vs, hv⟩ := hf
  exact ⟨⟨rfl, vs, hv, hz.2.2 vs hv⟩, List.mem_cons_self⟩
theorem exc_suite {C dd : Addr} {oe : Obj} {cls : Value} {d : Option Addr} (hz : L2N.Zn cls d oe) (hf : ∃ vs, oe.data = .fields vs) (hc : cls = .ref C) (hd : d = some dd) : Zc (.ref C) (some dd) oe := by
  subst hc hd
  exact hz.zc
end SU

namespace SU
open PySem PySem.Spec PyProof.Rows L2
/-! ### the head's facts of own error classes (super().__init__ in their __init__) -/
abbrev valI (x : Str) (A : Arguments) (B : List Stmt) (S : Scope) : FnC := some ("__init__", x ++ ".__init__", A, .stmts B, S, mainGlobals, ["__class__"], builtinsNs)
/-- its class's cell, its code, no defaults -/
def fnB (K : Frag) (C fI : Addr) (qual : Str) : Bool := match K.lookup fI with
  | some ⟨_, _, .func fd, _⟩ => decide (fd.defaults = .none) && (decide (fd.kwdefaults = .none) && (match fd.code, fd.closure with
    | .ref cda, [(_, cc)] => PySem.W.codeIn K (.ref cda) qual && ((match K.lookup cda with
      | some ⟨_, _, .fields vs, _⟩ => (match (vs[2]? : Option Value) with
        | some (Value.str y _) => decide (y = cutFile)
        | _ => false)
      | _ => false) && (match K.lookup cc with
      | some ⟨_, _, .cell (some (.ref c)), _⟩ => decide (c = C)
      | _ => false))
    | _, _ => false))
  | _ => false
def clsB (K : Frag) (C : Addr) : Bool := match K.lookup C with
  | some ⟨.type t, _, .cls cd, sl⟩ => decide (t = "type") && (cd.hasDict && (!cd.hasDel && (match cd.mro, sl.toList with
    | .ref c :: bm, [_, _, _, _, some (.builtin n), _] => decide (c = C) && (decide (n = "ValueError.__new__") && (PySem.HandSPX.refsVE bm && decide (PySem.W.alongIn K "__init__" bm = some (some (.builtin "ValueError.__init__")))))
    | _, _ => false)))
  | _ => false
def supB (K : Frag) (x : Str) : Bool :=
  decide (PySem.W.findIn K (.ref (He.ga K x)) "__setattr__" = some (some (.builtin "object.__setattr__"))) && (decide (PySem.W.findIn K (.ref (He.ga K x)) "__init__" = some (some (.ref (He.ma K (He.ga K x) "__init__")))) &&
  (decide (PySem.W.typeIn K (.ref (He.ma K (He.ga K x) "__init__")) = some (.type "function")) && (PySem.W.keepIn K (.ref (He.ga K x)) && (decide (PySem.W.subIn K (.ref (He.ga K x)) (.type "BaseException") = some true) &&
  (decide (PySem.W.subIn K (.ref (He.ga K x)) (.type "ValueError") = some true) && (decide (PySem.W.typeIn K (.ref (He.ga K x)) = some (.type "type")) && (decide (PySem.W.nsIn K cStatics "thirdparty.any" = some none) &&
  (clsB K (He.ga K x) && fnB K (He.ga K x) (He.ma K (He.ga K x) "__init__") (x ++ ".__init__")))))))))
theorem clsB_ok {K : Frag} {C : Addr} (h : clsB K C = true) : ∃ nm q N bs bm sn sub ab col dd k0 k1 k2 k3 k5, K.lookup C = some (excClassObj nm q C N bs bm true sn sub ab col dd k0 k1 k2 k3 k5 "ValueError.__new__") ∧ PySem.HandSPX.refsVE bm = true ∧ PySem.W.alongIn K "__init__" bm = some (some (.builtin "ValueError.__init__")) := by
  unfold clsB at h
  split at h
  · rename_i t dd cd sl lk
    obtain ⟨h1, h⟩ := He.ba h
    obtain ⟨h2, h⟩ := He.ba h
    obtain ⟨h3, h⟩ := He.ba h
    split at h
    · rename_i c bm a0 a1 a2 a3 n a5 hm hs
      obtain ⟨h4, h⟩ := He.ba h
      obtain ⟨h5, h⟩ := He.ba h
      obtain ⟨h6, h7⟩ := He.ba h
      obtain ⟨n1, n2, n3, n4, n5, n6, n7, n8, n9, n10, n11⟩ := cd
      dsimp only at h2 h3 hm
      have e1 := of_decide_eq_true h1
      have e4 := of_decide_eq_true h4
      have e5 := of_decide_eq_true h5
      subst e1 e4 e5 hm
      have e3 : n11 = false := by simpa using h3
      subst h2 e3
      have es : sl = #[a0, a1, a2, a3, some (.builtin "ValueError.__new__"), a5] := Array.toList_inj.mp hs
      subst es
      exact ⟨n1, n5, n4, n2, bm, n7, n8, n9, n10, dd, a0, a1, a2, a3, a5, lk, h6, of_decide_eq_true h7⟩
    · cases h
  · cases h
theorem fnB_ok {K : Frag} {C fI : Addr} {x : Str} {p : Str × Option Str} {A : Arguments} {B : List Stmt} {S : Scope} (ef : He.fAd K p = fI) (e : fnC K p = valI x A B S) (h : fnB K C fI (x ++ ".__init__") = true) :
    ∃ (oc : Value) (od : Option Addr) (doc pm : Value) (an : Option Addr) (ct : Value) (osl : Array (Option Value)) (cda cc : Addr) (ccl : Value) (cdd : Option Addr) (vs : Array Value) (ccs : Array (Option Value)) (tf : Tok) (cl : Value) (cld : Option Addr) (csl : Array (Option Value)),
    K.lookup fI = some ⟨oc, od, .func (PySem.W.ksFn "__init__" (x ++ ".__init__") A B S .none .none doc pm an (.ref cda) ct cc), osl⟩ ∧ PySem.W.codeIn K (.ref cda) (x ++ ".__init__") = true ∧
      K.lookup cda = some ⟨ccl, cdd, .fields vs, ccs⟩ ∧ vs[2]? = some (.str cutFile tf) ∧ K.lookup cc = some ⟨cl, cld, .cell (some (.ref C)), csl⟩ := by
  subst ef
  unfold fnB at h
  unfold fnC at e
  split at h
  · rename_i oc od fd osl lk
    rw [lk] at e
    obtain ⟨n1, n2, n3, n4, n5, n6, n7, n8, n9, n10, n11, n12, n13, n14, n15⟩ := fd
    have e2 : (some (n1, n2, n3, n4, n5, n6, n7.map (·.1), n15) : FnC) = valI x A B S := e
    simp only [Option.some.injEq, Prod.mk.injEq] at e2
    obtain ⟨h1, h2, h3, h4, h5, h6, h7, h8⟩ := e2
    subst h1 h2 h3 h4 h5 h6 h8
    obtain ⟨k1, ha⟩ := He.ba h
    clear h
    obtain ⟨k2, hb⟩ := He.ba ha
    clear ha e
    have j1 : n8 = .none := of_decide_eq_true k1
    have j2 : n9 = .none := of_decide_eq_true k2
    clear k1 k2
    subst j1
    subst j2
    dsimp only at hb
    split at hb
    · rename_i cda z cc
      have ez : z = "__class__" := by simpa using h7
      subst ez
      obtain ⟨k3, hc⟩ := He.ba hb
      clear hb
      obtain ⟨k4, k5⟩ := He.ba hc
      clear hc
      split at k4
      · rename_i ccl cdd vs ccs lc
        split at k4
        · rename_i y tf hv
          have ey := of_decide_eq_true k4
          subst ey
          split at k5
          · rename_i cl cld c csl lcc
            have e5 := of_decide_eq_true k5
            subst e5
            exact ⟨oc, od, n10, n11, n12, n14, osl, cda, cc, ccl, cdd, vs, ccs, tf, cl, cld, csl, lk, k3, lc, hv, lcc⟩
          · cases k5
        · cases k4
      · cases k4
    · cases hb
  · cases h
theorem supB_ok {K : Frag} {mg : Str → Option Value} {x : Str} {A : Arguments} {B : List Stmt} {S : Scope} (g : mg x = some (.ref (He.ga K x))) (gs : mg "super" = none) (e : fnC K (x, some "__init__") = valI x A B S) (h : supB K x = true) :
    SupC cutFile K mg x (He.ga K x) (He.ma K (He.ga K x) "__init__") A B S := by
  obtain ⟨h1, h⟩ := He.ba h
  obtain ⟨h2, h⟩ := He.ba h
  obtain ⟨h3, h⟩ := He.ba h
  obtain ⟨h4, h⟩ := He.ba h
  obtain ⟨h5, h⟩ := He.ba h
  obtain ⟨h6, h⟩ := He.ba h
  obtain ⟨h7, h⟩ := He.ba h
  obtain ⟨h8, h⟩ := He.ba h
  obtain ⟨h9, h10⟩ := He.ba h
  exact ⟨g, clsB_ok h9, of_decide_eq_true h1, of_decide_eq_true h2, of_decide_eq_true h3, h4, of_decide_eq_true h5, of_decide_eq_true h6, of_decide_eq_true h7, of_decide_eq_true h8, gs, fnB_ok (p := (x, some "__init__")) rfl e h10⟩
def excCB (K : Frag) (x : Str) : Bool :=
  decide (PySem.W.findIn K (.ref (He.ga K x)) "__getattribute__" = some (some (.builtin "BaseException.__getattribute__"))) && (decide (PySem.W.findIn K (.ref (He.ga K x)) "__getattr__" = some none) && (decide (PySem.W.subIn K (.ref (He.ga K x)) (.type "BaseException") = some true) &&
  (PySem.W.hasDictIn K (He.ga K x) && (decide (PySem.W.findIn K (.ref (He.ga K x)) "__class__" = some (some (.builtin "object.__class__"))) && (decide (PySem.W.specialIn K (.builtin "object.__class__") "__get__" = some (some (.builtin "getset_descriptor.__get__"))) &&
  (decide (PySem.W.takesIn K (.builtin "object.__class__") = some true) && decide (PySem.W.mroIn K (He.ga K x) (.type "object") = some true)))))))
theorem excCB_ok {K : Frag} {x : Str} (h : excCB K x = true) : ExcC K (He.ga K x) := by
  obtain ⟨h1, h⟩ := He.ba h
  obtain ⟨h2, h⟩ := He.ba h
  obtain ⟨h3, h⟩ := He.ba h
  obtain ⟨h4, h⟩ := He.ba h
  obtain ⟨h5, h⟩ := He.ba h
  obtain ⟨h6, h⟩ := He.ba h
  obtain ⟨h7, h8⟩ := He.ba h
  exact ⟨of_decide_eq_true h1, of_decide_eq_true h2, of_decide_eq_true h3, h4, of_decide_eq_true h5, of_decide_eq_true h6, of_decide_eq_true h7, of_decide_eq_true h8⟩
def kitB (K : Frag) (x y : Str) (b : Bool) : Bool := decide (PySem.W.kitOne K (.ref (He.ga K x)) (.ref (He.ga K y)) = some b)
theorem kitB_ok {K : Frag} {x y : Str} {b : Bool} (h : kitB K x y b = true) : PySem.W.kitOne K (.ref (He.ga K x)) (.ref (He.ga K y)) = some b := of_decide_eq_true h
def kitTB (K : Frag) (x : Str) (t : String) (b : Bool) : Bool := decide (PySem.W.kitOne K (.ref (He.ga K x)) (.type t) = some b)
theorem kitTB_ok {K : Frag} {x : Str} {t : String} {b : Bool} (h : kitTB K x t b = true) : PySem.W.kitOne K (.ref (He.ga K x)) (.type t) = some b := of_decide_eq_true h
/-- an own error, made by one value -/
theorem sup1_of {P : Program} {K : Frag} {mg : Str → Option Value} {x f : Str} {A : Arguments} {B : List Stmt} {S : Scope} (g : mg x = some (.ref (He.ga K x))) (gs : mg "super" = none) (e : fnC K (x, some "__init__") = valI x A B S) (h : supB K x = true)
    (hP : (P.main.file : Str) = cutFile) (top : (P.main.scope.names.lookup ("super" : Str)).isSome = false) (nof : decide (PySem.W.findIn K (.ref (He.ga K x)) f = some none) = true)
    (hx : ∃ (p1 p2 q1 q2 q3 q4 q5 q6 q7 q8 q9 q10 : Pos) (pl : Sem Bool), A = iA1 f p1 p2 ∧ B = iB1 f q1 q2 q3 q4 q5 q6 q7 q8 q9 q10 ∧ S = iS1 f ∧
    (∀ (doc pm : Value) (an : Option Addr) (cd ct : Value) (cc : Addr) (e v : Value), bindArgs (PySem.W.ksFn "__init__" (x ++ ".__init__") (iA1 f p1 p2) (iB1 f q1 q2 q3 q4 q5 q6 q7 q8 q9 q10) (iS1 f) .none .none doc pm an cd ct cc) ⟨[e, v], []⟩ = pure [(("self" : Str), e), (f, v)]) ∧
    (∀ (L fI : Addr) (cd : Value) (cc : Addr), eval (.Call (.Attribute (.Call (.Name "super" q1) [] [] q2) "__init__" q3) [.Name f q4] [] q5) (PySem.W.ksEnv (x ++ ".__init__") (iS1 f) L fI cd cc) = (do
      let ov ← attributeBase (.Call (.Name "super" q1) [] [] q2) "__init__" (PySem.W.ksEnv (x ++ ".__init__") (iS1 f) L fI cd cc) (eval (.Call (.Name "super" q1) [] [] q2) (PySem.W.ksEnv (x ++ ".__init__") (iS1 f) L fI cd cc))
      standAt q3.atName
      let (fn0, first) ← holding [ov] (getMethod ov "__init__" pl)
      callWith q5 fn0 first (backTo q5 (starEach [.Name f q4] (PySem.W.ksEnv (x ++ ".__init__") (iS1 f) L fI cd cc))) [])))
    (hks : (iS1 f).names.lookup ("super" : Str) = some .globalImplicit) (hkc : (iS1 f).names.lookup ("__class__" : Str) = some .free) (lf : (iS1 f).names.lookup f = some .local) (df : (f == ("__debug__" : Str)) = false) (nf : (("self" : Str) == f) = false) :
    Sup1 P K mg x f (He.ga K x) (He.ma K (He.ga K x) "__init__") := by
  obtain ⟨p1, p2, q1, q2, q3, q4, q5, q6, q7, q8, q9, q10, pl, rfl, rfl, rfl, hb, hev⟩ := hx
  exact ⟨⟨cutFile, p1, p2, q1, q2, q3, q4, q5, q6, q7, q8, q9, q10, pl, supB_ok g gs e h, hP, hb, fun L cd cc => hev L _ cd cc⟩, top, of_decide_eq_true nof, hks, hkc, lf, df, nf⟩
theorem sup2_of {P : Program} {K : Frag} {mg : Str → Option Value} {x f g : Str} {A : Arguments} {B : List Stmt} {S : Scope} (hg : mg x = some (.ref (He.ga K x))) (gs : mg "super" = none) (e : fnC K (x, some "__init__") = valI x A B S) (h : supB K x = true)
    (hP : (P.main.file : Str) = cutFile) (top : (P.main.scope.names.lookup ("super" : Str)).isSome = false) (nof : decide (PySem.W.findIn K (.ref (He.ga K x)) f = some none) = true) (nog : decide (PySem.W.findIn K (.ref (He.ga K x)) g = some none) = true)
    (hx : ∃ (p1 p2 p3 q1 q2 q3 q4 q4' q5 q6 q7 q8 q9 q10 r7 r8 r9 r10 : Pos) (pl : Sem Bool), A = iA2 f g p1 p2 p3 ∧ B = iB2 f g q1 q2 q3 q4 q4' q5 q6 q7 q8 q9 q10 r7 r8 r9 r10 ∧ S = iS2 f g ∧
    (∀ (doc pm : Value) (an : Option Addr) (cd ct : Value) (cc : Addr) (e v v2 : Value), bindArgs (PySem.W.ksFn "__init__" (x ++ ".__init__") (iA2 f g p1 p2 p3) (iB2 f g q1 q2 q3 q4 q4' q5 q6 q7 q8 q9 q10 r7 r8 r9 r10) (iS2 f g) .none .none doc pm an cd ct cc) ⟨[e, v, v2], []⟩ = pure [(("self" : Str), e), (f, v), (g, v2)]) ∧
    (∀ (L fI : Addr) (cd : Value) (cc : Addr), eval (.Call (.Attribute (.Call (.Name "super" q1) [] [] q2) "__init__" q3) [.Name f q4, .Name g q4'] [] q5) (PySem.W.ksEnv (x ++ ".__init__") (iS2 f g) L fI cd cc) = (do
      let ov ← attributeBase (.Call (.Name "super" q1) [] [] q2) "__init__" (PySem.W.ksEnv (x ++ ".__init__") (iS2 f g) L fI cd cc) (eval (.Call (.Name "super" q1) [] [] q2) (PySem.W.ksEnv (x ++ ".__init__") (iS2 f g) L fI cd cc))
      standAt q3.atName
      let (fn0, first) ← holding [ov] (getMethod ov "__init__" pl)
      callWith q5 fn0 first (backTo q5 (starEach [.Name f q4, .Name g q4'] (PySem.W.ksEnv (x ++ ".__init__") (iS2 f g) L fI cd cc))) [])))
    (hks : (iS2 f g).names.lookup ("super" : Str) = some .globalImplicit) (hkc : (iS2 f g).names.lookup ("__class__" : Str) = some .free) (lf : (iS2 f g).names.lookup f = some .local) (lg : (iS2 f g).names.lookup g = some .local) (df : (f == ("__debug__" : Str)) = false) (dg : (g == ("__debug__" : Str)) = false)
    (nf : (("self" : Str) == f) = false) (ng : (("self" : Str) == g) = false) (ngf : (f == g) = false) (ngf2 : (g == f) = false) :
    Sup2 P K mg x f g (He.ga K x) (He.ma K (He.ga K x) "__init__") := by
  obtain ⟨p1, p2, p3, q1, q2, q3, q4, q4', q5, q6, q7, q8, q9, q10, r7, r8, r9, r10, pl, rfl, rfl, rfl, hb, hev⟩ := hx
  exact ⟨⟨cutFile, p1, p2, p3, q1, q2, q3, q4, q4', q5, q6, q7, q8, q9, q10, r7, r8, r9, r10, pl, supB_ok hg gs e h, hP, hb, fun L cd cc => hev L _ cd cc⟩, top, of_decide_eq_true nof, of_decide_eq_true nog, hks, hkc, lf, lg, df, dg, nf, ng, ngf, ngf2⟩
end SU
namespace SU
open PySem PySem.Spec PyProof.Rows L2
theorem funD_same {K : Frag} {x : Str} {st : Stmt} {f : Addr} {fd fd' : FuncData} (a : FunD K x x (defArgs st) (defBody st) (defScope st) [] [] f fd) (b : FunD K x x (defArgs st) (defBody st) (defScope st) [] [] f fd') : fd' = fd := by
  obtain ⟨_, _, _, _, _, _, _, _, _, _, _, l1, _⟩ := a.ex
  obtain ⟨_, _, _, _, _, _, _, _, _, _, _, l2, _⟩ := b.ex
  rw [l1] at l2
  cases l2
  rfl
/-- the law's def, as the end asks it -/
theorem law_of {P : Program} {w : World} {K : Frag} {mg : Str → Option Value} {h : Heap} {fa : Addr} {st : Stmt} {k n : Nat} {sp : Sp} (KX : K.In h) (hmg : mg ("law" : Str) = some (.ref fa))
    (hd : ∃ fd, FunD K "law" "law" (defArgs st) (defBody st) (defScope st) [] [] fa fd)
    (hb : ∀ (kV doc pm : Value) (an : Option Addr) (cdv ct : Value) (us : List Value), us.length = 1 → bindArgs (PySem.W.fnOf "law" "law" (defArgs st) (defBody st) (defScope st) .none kV doc pm an cdv ct) ⟨us, []⟩ = pure ((["script"] : List Str).zip us))
    (cal : ∀ base : Heap, K.In base → base.Ns mainGlobals mg → Cal P w K mg base k st ["script"] "law" sp)
    (hsp : ∀ (H : Hp) (a : Addr) (ns : List Int), ns.length ≤ n → Only H → SqL K H a (ns.map V.int) → sp [.ref a] H (fun v _ => v = .bl true) fun _ _ _ => False) :
    ∃ (K : PySem.W.Frag) (fd : FuncData) (sp : Sp), K.In h ∧ (∀ (s : Shared) (u : Value), BindsTo s fd ⟨[u], []⟩ [("script", u)]) ∧
        (∀ (H : Hp) (a : Addr) (ns : List Int), ns.length ≤ n → Only H → SqL K H a (ns.map V.int) → sp [.ref a] H (fun v _ => v = .bl true) fun _ _ _ => False) ∧
        ∀ base : Heap, K.In base → base.Ns mainGlobals mg → FnOk P w K mg base CX0 k fa fd ["script"] sp := by
  obtain ⟨fd, F⟩ := hd
  refine ⟨K, fd, sp, KX, fun s u => F.bindsA (ps := ["script"]) hb s [u] rfl, hsp, fun base kb gb => ?_⟩
  obtain ⟨f, fd', Fn, m, D, b⟩ := (cal base kb gb).ex
  rw [hmg] at m
  cases m
  have e := funD_same F D
  subst e
  exact Fn
end SU

namespace SU
open PySem PySem.Spec PyProof.Rows L2
/-! ### data: kinds, depth -/
def tyD : PyData → String
  | .none => "NoneType"
  | .bool _ => "bool"
  | .int _ => "int"
  | .str _ => "str"
  | .list _ => "list"
  | .tuple _ => "tuple"
  | .dict _ => "dict"
def isD (n : String) : PyData → Bool
  | .none => false
  | .bool _ => n == "bool" || n == "int"
  | .int _ => n == "int"
  | .str _ => n == "str"
  | .list _ => n == "list"
  | .tuple _ => n == "tuple"
  | .dict _ => n == "dict"
abbrev five : List String := ["int", "bool", "str", "list", "tuple"]
theorem kit_isD {K : Frag} {n : String} (hn : n ∈ five) (d : PyData) : PySem.W.kitOne K (.type (tyD d)) (.type n) = some (isD n d) := by
  refine kit_ty ?_
  simp only [five, List.mem_cons, List.mem_nil_iff, or_false] at hn
  rcases hn with rfl | rfl | rfl | rfl | rfl <;> cases d <;> (dsimp only [tyD, isD]; decide +kernel)
theorem Rep.ty {K : Frag} {S : List Addr} {H : Hp} {v : V} {d : PyData} (h : Rep K S H v d) : TyX K H v (.type (tyD d)) := by
  cases h with
  | non => exact .base .non
  | bl b => exact .base (.bl b)
  | int i => exact .base (.int i)
  | str x => exact .base (.str x)
  | lst n q r =>
    rcases q with (q | ⟨o, q⟩) | ⟨o, its, m, lk, c, _⟩
    · exact .base (.lst q)
    · exact .base (.frz q)
    · exact .kList lk c
  | tup n q r =>
    rcases q with (q | ⟨o, q⟩) | ⟨o, its, m, lk, c, _⟩
    · exact .base (.tup q)
    · exact .fTuple q
    · exact .kTuple lk c
section
variable {X : Cx}
/-- isinstance(x, T) of data -/
def rIsD (K : Frag) : List V → Hp → VK → Prop := fun xs H Q => ∃ (x : V) (n : String) (d : PyData), xs = [x, .ty n] ∧ n ∈ five ∧ Rep K [] H x d ∧ Q (.bl (isD n d)) H
/-- isinstance(x, (T, ..)) of data -/
def rIsDT (K : Frag) : List V → Hp → VK → Prop := fun xs H Q => ∃ (x : V) (tp : Addr) (ns : List String) (d : PyData), xs = [x, .ref tp] ∧ H tp = some (.tup (ns.map V.ty)) ∧ (∀ n ∈ ns, n ∈ five) ∧ Rep K [] H x d ∧ Q (.bl (ns.any fun n => isD n d)) H
theorem call_isD : CallR X (.builtin "isinstance") (rIsD X.K) := by
  intro pins s σ H xs us Q I r h
  obtain ⟨x, n, d, rfl, hn, rx, q⟩ := h
  exact call_isi pins s σ H _ us Q I r ⟨x, .ty n, _, .type n, isD n d, rfl, .ty n, rx.ty, kit_isD hn d, q⟩
theorem kitAny_D {K : Frag} {d : PyData} : ∀ {ns : List String}, (∀ n ∈ ns, n ∈ five) → PySem.W.kitAny K (.type (tyD d)) (ns.map Value.type) = some (ns.any fun n => isD n d)
  | [], _ => rfl
  | n :: r, h => by
    refine kitAny_cons (b := isD n d) (kit_isD (h n (List.mem_cons_self ..)) d) (fun z => ?_) (fun z => ?_)
    · rw [List.any_cons, z, Bool.false_or]
      exact kitAny_D fun m hm => h m (List.mem_cons_of_mem _ hm)
    · rw [List.any_cons, z, Bool.true_or]
theorem paired_ty : ∀ ns : List String, Paired ClsV (ns.map V.ty) (ns.map Value.type)
  | [] => .nil
  | n :: r => .cons (.ty n) (paired_ty r)
theorem call_isDT : CallR X (.builtin "isinstance") (rIsDT X.K) := by
  intro pins s σ H xs us Q I r h
  obtain ⟨x, tp, ns, d, rfl, ht, hn, rx, q⟩ := h
  exact call_isiT pins s σ H _ us Q I r ⟨x, tp, ns.map V.ty, _, ns.map Value.type, _, rfl, ht, paired_ty ns, rx.ty, kitAny_D hn, q⟩
end
/-- data of depth less than n -/
inductive Dl : Nat → PyData → Prop
  | non (n : Nat) : Dl (n + 1) .none
  | bl (n : Nat) (b : Bool) : Dl (n + 1) (.bool b)
  | int (n : Nat) (i : Int) : Dl (n + 1) (.int i)
  | str (n : Nat) (x : Str) : Dl (n + 1) (.str x)
  | lst {n : Nat} {ds : List PyData} : (∀ d ∈ ds, Dl n d) → ds.length < 4611686018427387904 → Dl (n + 1) (.list ds)
  | tup {n : Nat} {ds : List PyData} : (∀ d ∈ ds, Dl n d) → ds.length < 4611686018427387904 → Dl (n + 1) (.tuple ds)
theorem Dl.ints (n : Nat) (ns : List Int) : ∀ d ∈ di ns, Dl (n + 1) d := fun d hd => by
  obtain ⟨i, _, rfl⟩ := List.mem_map.mp hd
  exact .int n i
theorem Dl.up {m n : Nat} {d : PyData} (h : Dl m d) (hn : m ≤ n) : Dl n d := by
  induction h generalizing n with
  | non k => obtain ⟨j, rfl⟩ : ∃ j, n = j + 1 := ⟨n - 1, by omega⟩; exact .non j
  | bl k b => obtain ⟨j, rfl⟩ : ∃ j, n = j + 1 := ⟨n - 1, by omega⟩; exact .bl j b
  | int k i => obtain ⟨j, rfl⟩ : ∃ j, n = j + 1 := ⟨n - 1, by omega⟩; exact .int j i
  | str k x => obtain ⟨j, rfl⟩ : ∃ j, n = j + 1 := ⟨n - 1, by omega⟩; exact .str j x
  | lst h hl ih => obtain ⟨j, rfl⟩ : ∃ j, n = j + 1 := ⟨n - 1, by omega⟩; exact .lst (fun d hd => ih d hd (by omega)) hl
  | tup h hl ih => obtain ⟨j, rfl⟩ : ∃ j, n = j + 1 := ⟨n - 1, by omega⟩; exact .tup (fun d hd => ih d hd (by omega)) hl
/-- the law's comparing: told and due are the same data -/
def spSame (n : Nat) (K : Frag) : Sp := fun vs H Q _ => ∃ v u d, vs = [v, u] ∧ Dl n d ∧ Rep K [] H v d ∧ Rep K [] H u d ∧ ∀ H', Same H H' → Q (.bl true) H'
theorem Rep.seq {K : Frag} {S : List Addr} {H : Hp} {v : V} {ds : List PyData} (h : Rep K S H v (.list ds) ∨ Rep K S H v (.tuple ds)) : ∃ p xs, v = .ref p ∧ Sq K H p xs ∧ Reps K S H xs ds := by
  rcases h with h | h
  · cases h with
    | lst n q r => exact ⟨_, _, rfl, .inl q, r⟩
  · cases h with
    | tup n q r => exact ⟨_, _, rfl, .inr q, r⟩
end SU
namespace SU
open PySem PySem.Spec PyProof.Rows L2
theorem ifT {c : Bool} {A B : Prop} (h : c = true) (a : A) : if c = true then A else B := by rw [if_pos h]; exact a
theorem ifF {c : Bool} {A B : Prop} (h : c = false) (b : B) : if c = true then A else B := by rw [if_neg (by rw [h]; decide)]; exact b
end SU
namespace SU
open PySem PySem.Spec PyProof.Rows L2
theorem tyL {K : Frag} {H : Hp} {p : Addr} {xs : List V} (h : H p = some (.lst xs)) : tyV K "list" (.ref p) H := .inl ⟨rfl, xs, .inl (.inl h)⟩
theorem tyS {K : Frag} {H : Hp} {p : Addr} {xs : List V} (h : SqL K H p xs) : tyV K "list" (.ref p) H := .inl ⟨rfl, xs, h⟩
end SU
namespace SU
open PySem PySem.Spec PyProof.Rows L2
theorem sqL_same {K : Frag} {H H' : Hp} {p : Addr} {xs : List V} (e : Same H H') (h : SqL K H p xs) : SqL K H' p xs := SqL.but (S := []) (.of e) (by simp) h
theorem sqT_same {K : Frag} {H H' : Hp} {p : Addr} {xs : List V} (e : Same H H') (h : SqT K H p xs) : SqT K H' p xs := SqT.but (S := []) (.of e) (by simp) h
end SU
namespace SU
open PySem PySem.Spec PyProof.Rows L2
theorem szl {n : Nat} (h : n ≤ 1000000) : n ≤ sizeLine := by rw [sizeLine_eq]; omega
theorem szm {n : Nat} (h : n ≤ 1000000) : n < sizeLine := by rw [sizeLine_eq]; omega
end SU

namespace SU
open PySem PySem.Spec PyProof.Rows L2
/-! ### comprehensions of ints -/
theorem sqB_same {b : Bool} {K : Frag} {H H' : Hp} {a : Addr} {xs : List V} (e : Same H H') (h : SqB b K H a xs) : SqB b K H' a xs := SqB.same e h
/-- [f(a, b) for a, b in zip(xs, ys)] -/
theorem lc_zipI {K : Frag} {b1 b2 : Bool} {a b : Addr} {xs ys : List Int} {g : TG} {tt : TT} {te : TE} {vs : List Nat} {σ : L2.St} {H1 : Hp} {D : Addr} {Qd : Hp → Prop} (f : Int → Int → Int) (hD : H1 D = none) (hx : SqB b1 K H1 a (xs.map V.int)) (hy : SqB b2 K H1 b (ys.map V.int)) (hl : xs.length < 1000000)
    (hs : ∀ (i : Nat) (x y : Int) (H : Hp) (T : Addr) (R : V → Hp → Prop) (R' : Hp → Prop), xs[i]? = some x → ys[i]? = some y → H T = none → Same H1 H → R (.int (f x y)) (upd H T (.tup [.int x, .int y])) →
      g (.ref T) (wipe σ vs) (upd H T (.tup [.int x, .int y])) fun σ2 H2 => wipe σ2 vs = wipe σ vs ∧ tt σ2 H2 fun b H3 => if b = true then te σ2 H3 R else R' H3)
    (hd : ∀ H, Same H1 H → H D = some (.lst ((List.zipWith f xs ys).map V.int)) → Qd H) :
    ∃ W : Nat → Nat → Hp → Prop, (∃ m, W 0 m (upd H1 D (.lst []))) ∧ ∀ i m H, W i m H →
      ((ItzB K b1 b2 a b (xs.map V.int) (ys.map V.int)).stop i H ∧ Qd H) ∨ ((ItzB K b1 b2 a b (xs.map V.int) (ys.map V.int)).go i H ∧ ∃ Nx : Hp → Prop, (∀ H', Nx H' → ∃ m', m' < m ∧ W (i + 1) m' H') ∧ ∀ x H', (ItzB K b1 b2 a b (xs.map V.int) (ys.map V.int)).yld i H x H' → g x (wipe σ vs) H' fun σ2 H2 => wipe σ2 vs = wipe σ vs ∧ tt σ2 H2 fun b H3 =>
        if b = true then te σ2 H3 fun y H4 => ∃ acc, H4 D = some (.lst acc) ∧ acc.length < sizeLine ∧ Nx (upd H4 D (.lst (acc ++ [y]))) else Nx H3) := by
  have sz : (1000000 : Nat) < sizeLine := by rw [sizeLine_eq]; decide
  refine lc_it (walk_zipB rfl) (fun i H => Same H1 H ∧ H D = some (.lst (((List.zipWith f xs ys).take i).map V.int))) ⟨Same.new hD, upd_same⟩ (fun i H _ h => ⟨sqB_same h.1 hx, sqB_same h.1 hy⟩) ?_ ?_
  · rintro i x H H' hi ⟨sm, hq⟩ ⟨T, x1, y1, rfl, hT, rfl, e1, e2⟩
    dsimp only at e1 e2
    rw [List.getElem?_map] at e1 e2
    obtain ⟨u, hu, rfl⟩ := Option.map_eq_some_iff.mp e1
    obtain ⟨v, hv, rfl⟩ := Option.map_eq_some_iff.mp e2
    have lu : i < xs.length := (List.getElem?_eq_some_iff.mp hu).1
    have hne : D ≠ T := fun z => by rw [← z, hq] at hT; cases hT
    refine hs i u v H T _ _ hu hv hT sm ⟨((List.zipWith f xs ys).take i).map V.int, ?_, ?_, ?_, ?_⟩
    · rw [upd_ne hne]; exact hq
    · simp only [List.length_map, List.length_take]; omega
    · exact Same.set (sm.trans (Same.new hT)) hD
    · rw [upd_same, List.take_succ, show (List.zipWith f xs ys)[i]? = some (f u v) by rw [List.getElem?_zipWith, hu, hv], List.map_append]
      rfl
  · rintro H ⟨sm, hq⟩
    refine hd H sm ?_
    rw [hq, List.take_of_length_le (by simp)]
/-- a step that only adds: [f(a) for a in xs] of ints, whatever the turn adds to the heap -/
theorem lc_seqI {K : Frag} {b1 : Bool} {a : Addr} {xs : List V} {g : TG} {tt : TT} {te : TE} {vs : List Nat} {σ : L2.St} {H1 : Hp} {D : Addr} {Qd : Hp → Prop} (f : Nat → V → V) (hD : H1 D = none) (hx : SqB b1 K H1 a xs) (hl : xs.length < 1000000)
    (hs : ∀ (i : Nat) (x : V) (H : Hp) (R : V → Hp → Prop) (R' : Hp → Prop), xs[i]? = some x → Same H1 H → (∀ H', Same H H' → R (f i x) H') →
      g x (wipe σ vs) H fun σ2 H2 => wipe σ2 vs = wipe σ vs ∧ tt σ2 H2 fun b H3 => if b = true then te σ2 H3 R else R' H3)
    (hd : ∀ H, Same H1 H → H D = some (.lst (xs.mapIdx f)) → Qd H) :
    ∃ W : Nat → Nat → Hp → Prop, (∃ m, W 0 m (upd H1 D (.lst []))) ∧ ∀ i m H, W i m H →
      ((ItB K b1 a xs).stop i H ∧ Qd H) ∨ ((ItB K b1 a xs).go i H ∧ ∃ Nx : Hp → Prop, (∀ H', Nx H' → ∃ m', m' < m ∧ W (i + 1) m' H') ∧ ∀ x H', (ItB K b1 a xs).yld i H x H' → g x (wipe σ vs) H' fun σ2 H2 => wipe σ2 vs = wipe σ vs ∧ tt σ2 H2 fun b H3 =>
        if b = true then te σ2 H3 fun y H4 => ∃ acc, H4 D = some (.lst acc) ∧ acc.length < sizeLine ∧ Nx (upd H4 D (.lst (acc ++ [y]))) else Nx H3) := by
  have sz : (1000000 : Nat) < sizeLine := by rw [sizeLine_eq]; decide
  refine lc_it walk_sqB (fun i H => Same H1 H ∧ H D = some (.lst ((xs.mapIdx f).take i))) ⟨Same.new hD, upd_same⟩ (fun i H _ h => sqB_same h.1 hx) ?_ ?_
  · rintro i x H H' hi ⟨sm, hq⟩ ⟨rfl, e1⟩
    refine hs i x _ _ _ e1 sm fun H2 s2 => ⟨(xs.mapIdx f).take i, s2 _ _ hq, ?_, ?_, ?_⟩
    · simp only [List.length_take]; omega
    · exact Same.set (sm.trans s2) hD
    · rw [upd_same, List.take_succ, List.getElem?_mapIdx, e1]
      rfl
  · rintro H ⟨sm, hq⟩
    refine hd H sm ?_
    rw [hq, List.take_of_length_le (by simp)]
end SU
namespace SU
open PySem PySem.Spec PyProof.Rows L2
theorem Step.same {a : Addr} {H H1 : Hp} (h : Pool H a) (s : Same H H1) : Step a H H1 := .of h s
theorem Step.new {a p : Addr} {H H1 : Hp} {o : HO} (s : Step a H H1) (hp : H1 p = none) : Step a H (upd H1 p o) := s.trans (.of s.pool (Same.new hp))
/-- ints that are drawn in turn -/
theorem lc_stepI {a : Addr} {J : It} {n : Nat} {G : Hp → Prop} {Y : Nat → Hp → V → Hp → Prop} (w : Walk J n G Y) {g : TG} {tt : TT} {te : TE} {vs : List Nat} {σ : L2.St} {H1 : Hp} {D : Addr} {Qd : Hp → Prop} (R : Int → Prop) (hp : Pool H1 a) (hD : H1 D = none) (hn : n < 1000000) (hG : ∀ H, Step a H1 H → G H)
    (hs : ∀ (i : Nat) (x : V) (H H' : Hp) (R1 : V → Hp → Prop) (R2 : Hp → Prop), i < n → Step a H1 H → Y i H x H' → (∀ r H2, R r → Step a H H2 → R1 (.int r) H2) →
      g x (wipe σ vs) H' fun σ2 H2 => wipe σ2 vs = wipe σ vs ∧ tt σ2 H2 fun b H3 => if b = true then te σ2 H3 R1 else R2 H3)
    (hd : ∀ (H : Hp) (acc : List Int), Step a H1 H → H D = some (.lst (acc.map V.int)) → acc.length = n → (∀ r ∈ acc, R r) → Qd H) :
    ∃ W : Nat → Nat → Hp → Prop, (∃ m, W 0 m (upd H1 D (.lst []))) ∧ ∀ i m H, W i m H →
      (J.stop i H ∧ Qd H) ∨ (J.go i H ∧ ∃ Nx : Hp → Prop, (∀ H', Nx H' → ∃ m', m' < m ∧ W (i + 1) m' H') ∧ ∀ x H', J.yld i H x H' → g x (wipe σ vs) H' fun σ2 H2 => wipe σ2 vs = wipe σ vs ∧ tt σ2 H2 fun b H3 =>
        if b = true then te σ2 H3 fun y H4 => ∃ acc, H4 D = some (.lst acc) ∧ acc.length < sizeLine ∧ Nx (upd H4 D (.lst (acc ++ [y]))) else Nx H3) := by
  have nD : D ∉ [a] := hp.ne hD
  refine lc_it w (fun i H => Step a H1 H ∧ ∃ acc : List Int, H D = some (.lst (acc.map V.int)) ∧ acc.length = i ∧ ∀ r ∈ acc, R r) ⟨.new (.refl hp) hD, [], upd_same, rfl, by simp⟩ (fun i H _ h => hG H h.1) ?_ ?_
  · rintro i x H H' hi ⟨st, acc, ha, hl, hr⟩ y
    refine hs i x H H' _ _ hi st y fun r H2 hR s2 => ⟨acc.map V.int, s2.but _ _ nD ha, szm (by simp; omega), ?_, acc ++ [r], ?_, ?_, ?_⟩
    · have t := st.trans s2
      exact ⟨.setN t.but hD, t.pool.upd (fun z => nD (by simp [z]))⟩
    · rw [upd_same, List.map_append]; rfl
    · simp [hl]
    · intro q hq
      rcases List.mem_append.mp hq with z | z
      · exact hr q z
      · have : q = r := by simpa using z
        rw [this]; exact hR
  · rintro H ⟨st, acc, ha, hl, hr⟩
    exact hd H acc st ha hl hr
end SU
namespace SU
open PySem PySem.Spec PyProof.Rows L2
theorem vals_app {vs zs : List V} {us ws : List Value} (r : Vals vs us) (rz : Vals zs ws) : Vals (vs ++ zs) (us ++ ws) := by
  induction r with
  | nil => exact rz
  | cons a _ ih => exact .cons a ih
theorem vals_rev {vs : List V} {us : List Value} (r : Vals vs us) : Vals vs.reverse us.reverse := by
  induction r with
  | nil => exact .nil
  | cons a _ ih =>
    rw [List.reverse_cons, List.reverse_cons]
    exact vals_app ih (.cons a .nil)
theorem seqI_nat {k n : Nat} (h : k < n) : seqIndex? ((k : Nat) : Int) n = some k := by
  unfold seqIndex?
  have h0 : ¬ ((k : Int) < 0) := by omega
  simp only [h0, if_false]
  have h1 : (decide (0 ≤ (k : Int)) && decide ((k : Int) < (n : Int))) = true := by simp; omega
  rw [h1]
  simp
theorem atI_ints {xs : List Int} {r : Int} (h0 : 0 ≤ r) (h1 : r < (xs.length : Int)) : ∃ p, p ∈ xs ∧ xs[r.toNat]? = some p ∧ atI (xs.map V.int) r = some (.int p) := by
  have hrn : r.toNat < xs.length := by omega
  have er : ((r.toNat : Nat) : Int) = r := by omega
  obtain ⟨p, hp⟩ : ∃ p, xs[r.toNat]? = some p := ⟨_, List.getElem?_eq_getElem hrn⟩
  refine ⟨p, List.mem_of_getElem? hp, hp, ?_⟩
  rw [← er]
  exact atI_nat (by rw [List.getElem?_map, hp]; rfl)
theorem perm_erase : ∀ (ls : List Int) (k : Nat) (h : k < ls.length), (ls[k] :: ls.eraseIdx k).Perm ls
  | x :: r, 0, _ => .refl _
  | x :: r, k + 1, h => by
    have h' : k < r.length := by simpa using h
    have ih := perm_erase r k h'
    show (r[k] :: x :: r.eraseIdx k).Perm (x :: r)
    exact (List.Perm.swap ..).trans (ih.cons x)
theorem erase_map (f : Int → V) : ∀ (ls : List Int) (k : Nat), (ls.map f).eraseIdx k = (ls.eraseIdx k).map f
  | [], _ => rfl
  | x :: r, 0 => rfl
  | x :: r, k + 1 => by
    show f x :: (r.map f).eraseIdx k = f x :: (r.eraseIdx k).map f
    rw [erase_map f r k]
theorem perm_pop {ls : List Int} {k : Nat} (h : k < ls.length) (ps : List Int) : (ps ++ [ls[k]] ++ ls.eraseIdx k).Perm (ps ++ ls) := by
  rw [List.append_assoc]
  refine List.Perm.append_left ps ?_
  exact perm_erase ls k h
end SU

namespace SU
open PySem PySem.Spec PyProof.Rows L2
/-! ### plain: fields, polynomials -/
def fields : List Int := [2, 3, 5, 7, 11, 13, 17, 19, 23, 29, 31]
def inv (p a : Int) : Int := a ^ (p - 2).toNat % p
theorem inv_tab : (fields.all fun p => (List.range p.toNat).all fun a => a == 0 || (decide (1 ≤ inv p (a : Int)) && (decide (inv p (a : Int) < p) && decide ((a : Int) * inv p (a : Int) % p = 1)))) = true := by decide +kernel
theorem inv_ok {p a : Int} (hp : p ∈ fields) (h0 : 0 < a) (h1 : a < p) : 1 ≤ inv p a ∧ inv p a < p ∧ a * inv p a % p = 1 := by
  have h := List.all_eq_true.mp inv_tab p hp
  have h2 := List.all_eq_true.mp h a.toNat (List.mem_range.mpr (by omega))
  have ea : ((a.toNat : Nat) : Int) = a := by omega
  rw [ea] at h2
  have hz : (a.toNat == 0) = false := by simp; omega
  rw [hz, Bool.false_or] at h2
  obtain ⟨k1, k⟩ := He.ba h2
  obtain ⟨k2, k3⟩ := He.ba k
  exact ⟨of_decide_eq_true k1, of_decide_eq_true k2, of_decide_eq_true k3⟩
theorem fields_pos {p : Int} (hp : p ∈ fields) : 2 ≤ p ∧ p ≤ 31 := by
  simp only [fields, List.mem_cons, List.mem_nil_iff, or_false] at hp
  omega
theorem md_of {p a b : Int} (h : p ∣ a - b) : a % p = b % p := Int.emod_eq_emod_iff_emod_sub_eq_zero.mpr (Int.emod_eq_zero_of_dvd h)
theorem md_to {p a b : Int} (h : a % p = b % p) : p ∣ a - b := Int.dvd_of_emod_eq_zero (Int.emod_eq_emod_iff_emod_sub_eq_zero.mp h)
theorem md_self (p a : Int) : p ∣ a % p - a := by
  have h := Int.mul_ediv_add_emod a p
  exact ⟨-(a / p), by grind⟩
theorem md_small {p a b : Int} (h : p ∣ a - b) (a0 : 0 ≤ a) (a1 : a < p) (b0 : 0 ≤ b) (b1 : b < p) : a = b := by
  have e := md_of h
  rw [Int.emod_eq_of_lt a0 a1, Int.emod_eq_of_lt b0 b1] at e
  exact e
theorem dl {p a : Int} (k : Int) (h : p ∣ a) : p ∣ k * a := by
  obtain ⟨q, e⟩ := h
  exact ⟨k * q, by rw [e]; grind⟩
theorem inv_uniq {p a b : Int} (hp : p ∈ fields) (h0 : 0 < a) (h1 : a < p) (b0 : 0 ≤ b) (b1 : b < p) (e : a * b % p = 1) : b = inv p a := by
  obtain ⟨i0, i1, i2⟩ := inv_ok hp h0 h1
  have hp2 := fields_pos hp
  have d1 : p ∣ a * b - 1 := md_to (by rw [e, Int.emod_eq_of_lt (by omega) (by omega)])
  have d2 : p ∣ a * inv p a - 1 := md_to (by rw [i2, Int.emod_eq_of_lt (by omega) (by omega)])
  refine md_small (p := p) ?_ b0 b1 (by omega) i1
  have d3 := Int.dvd_sub (dl (inv p a) d1) (dl (b) d2)
  have e3 : inv p a * (a * b - 1) - b * (a * inv p a - 1) = b - inv p a := by grind
  rw [e3] at d3
  exact d3
/-- no zero divisors -/
theorem field_dom {p a b : Int} (hp : p ∈ fields) (a0 : 0 < a) (a1 : a < p) (h : p ∣ a * b) : p ∣ b := by
  obtain ⟨i0, i1, i2⟩ := inv_ok hp a0 a1
  have hp2 := fields_pos hp
  have d2 : p ∣ a * inv p a - 1 := md_to (by rw [i2, Int.emod_eq_of_lt (by omega) (by omega)])
  have d3 := Int.dvd_sub (dl (inv p a) h) (dl (b) d2)
  have e3 : inv p a * (a * b) - b * (a * inv p a - 1) = b := by grind
  rw [e3] at d3
  exact d3
/-- a polynomial's value, as the program reckons it; and plainly -/
def pval (p x : Int) : List Int → Int
  | [] => 0
  | c :: r => (pval p x r * x + c) % p
def ev (x : Int) : List Int → Int
  | [] => 0
  | c :: r => ev x r * x + c
theorem pval_dvd (p x : Int) : ∀ ns, p ∣ pval p x ns - ev x ns
  | [] => ⟨0, by simp [pval, ev]⟩
  | c :: r => by
    have ih := pval_dvd p x r
    have d := Int.dvd_add (md_self p (pval p x r * x + c)) (dl (x) ih)
    have e : (pval p x r * x + c) % p - (pval p x r * x + c) + x * (pval p x r - ev x r) = pval p x (c :: r) - ev x (c :: r) := by
      show _ = (pval p x r * x + c) % p - (ev x r * x + c)
      grind
    rw [e] at d
    exact d
theorem pval_range {p : Int} (hp : 0 < p) (x : Int) : ∀ ns, 0 ≤ pval p x ns ∧ pval p x ns < p
  | [] => ⟨by show (0 : Int) ≤ 0; omega, hp⟩
  | c :: r => ⟨Int.emod_nonneg _ (by omega), Int.emod_lt_of_pos _ hp⟩
theorem pval_snoc (p x : Int) (ns : List Int) (c : Int) : pval p x (c :: ns) = (pval p x ns * x + c) % p := rfl
/-- the value that is reckoned from the last on -/
theorem pval_rev_foldl (p x : Int) (ns : List Int) : ns.reverse.foldl (fun v c => (v * x + c) % p) 0 = pval p x ns := by
  induction ns with
  | nil => rfl
  | cons c r ih =>
    rw [List.reverse_cons, List.foldl_append, ih]
    rfl
def letters (p : Int) (ns : List Int) : Prop := ∀ c ∈ ns, 0 ≤ c ∧ c < p
/-- a sum of two rows, letter by letter -/
def mix (p f : Int) (xs ys : List Int) : List Int := List.zipWith (fun a b => (a + f * b) % p) xs ys
theorem mix_letters {p f : Int} (hp : 0 < p) (xs ys : List Int) : letters p (mix p f xs ys) := by
  intro c hc
  obtain ⟨i, hi, rfl⟩ := List.mem_iff_getElem.mp hc
  simp only [mix, List.getElem_zipWith]
  exact ⟨Int.emod_nonneg _ (by omega), Int.emod_lt_of_pos _ hp⟩
theorem mix_ev (p f x : Int) : ∀ (xs ys : List Int), xs.length ≤ ys.length → p ∣ ev x (mix p f xs ys) - (ev x xs + f * ev x (ys.take xs.length))
  | [], ys, _ => ⟨0, by simp [mix, ev]⟩
  | a :: xs, [], h => by simp at h
  | a :: xs, b :: ys, h => by
    have ih := mix_ev p f x xs ys (by simpa using h)
    have d := Int.dvd_add (md_self p (a + f * b)) (dl (x) ih)
    have e : (a + f * b) % p - (a + f * b) + x * (ev x (mix p f xs ys) - (ev x xs + f * ev x (ys.take xs.length))) = ev x (mix p f (a :: xs) (b :: ys)) - (ev x (a :: xs) + f * ev x ((b :: ys).take (a :: xs).length)) := by
      show _ = (ev x (mix p f xs ys) * x + (a + f * b) % p) - ((ev x xs * x + a) + f * (ev x (ys.take xs.length) * x + b))
      grind
    rw [e] at d
    exact d
theorem ev_zero (x : Int) : ∀ ns : List Int, ev x (ns ++ [0]) = ev x ns
  | [] => by simp [ev]
  | c :: r => by
    show ev x (r ++ [0]) * x + c = ev x r * x + c
    rw [ev_zero x r]
theorem ev_zeros (x : Int) : ∀ n, ev x (List.replicate n 0) = 0
  | 0 => rfl
  | n + 1 => by
    show ev x (List.replicate n 0) * x + 0 = 0
    rw [ev_zeros x n]
    simp
end SU

namespace SU
open PySem PySem.Spec PyProof.Rows L2
/-! ### the polynomial through points -/
def lin (p x : Int) (root : List Int) : List Int := List.zipWith (fun low high => (low - x * high) % p) (0 :: root.dropLast) root
theorem lin_mix (p x : Int) (root : List Int) : lin p x root = mix p (-x) (0 :: root.dropLast) root := by
  have e : (fun low high : Int => (low - x * high) % p) = fun low high => (low + -x * high) % p := by
    funext low high
    rw [Int.neg_mul, Int.sub_eq_add_neg]
  unfold lin mix
  rw [e]
def fac (p x y : Int) (st : List Int × List Int) : Int := (y - pval p x st.1) * inv p (pval p x st.2) % p
def stepI (p : Int) (st : List Int × List Int) (xy : Int × Int) : List Int × List Int := (mix p (fac p xy.1 xy.2 st) st.1 st.2, lin p xy.1 st.2)
def startI (n : Nat) : List Int × List Int := (List.replicate n 0, 1 :: List.replicate n 0)
def stateI (p : Int) (xs ys : List Int) (k : Nat) : List Int × List Int := ((xs.zip ys).take k).foldl (stepI p) (startI xs.length)
def interp (p : Int) (xs ys : List Int) : List Int := (stateI p xs ys xs.length).1
structure OkI (p : Int) (xs ys : List Int) (n k : Nat) (st : List Int × List Int) : Prop where
  lf : st.1.length = n
  lr : st.2.length = n + 1
  tf : letters p st.1
  tr : letters p st.2
  zero : ∀ t, k < t → t ≤ n → st.2[t]? = some 0
  vals : ∀ j x y, j < k → xs[j]? = some x → ys[j]? = some y → pval p x st.1 = y
  roots : ∀ j x, j < k → xs[j]? = some x → pval p x st.2 = 0
  nz : ∀ j x, k ≤ j → xs[j]? = some x → pval p x st.2 ≠ 0
theorem take_zero {root : List Int} {n : Nat} (hl : root.length = n + 1) (h : root[n]? = some 0) : root = root.take n ++ [0] := by
  have hn : n < root.length := by omega
  have e : root[n] = 0 := by
    rw [List.getElem?_eq_getElem hn] at h
    exact Option.some.inj h
  rw [← e, List.take_append_getElem hn, List.take_of_length_le (by omega)]
theorem okI_start {p : Int} {xs ys : List Int} (hp : p ∈ fields) : OkI p xs ys xs.length 0 (startI xs.length) := by
  have hp2 := fields_pos hp
  have e1 : ∀ x, pval p x (1 :: List.replicate xs.length 0) = 1 := fun x => by
    have z : ∀ n, pval p x (List.replicate n 0) = 0 := fun n => by
      induction n with
      | zero => rfl
      | succ n ih =>
        show (pval p x (List.replicate n 0) * x + 0) % p = 0
        rw [ih]
        simp
    show (pval p x (List.replicate xs.length 0) * x + 1) % p = 1
    rw [z]
    simp
    exact Int.emod_eq_of_lt (by omega) (by omega)
  refine ⟨by simp [startI], by simp [startI], ?_, ?_, ?_, ?_, ?_, ?_⟩
  · intro c hc
    have : c = 0 := (List.mem_replicate.mp hc).2
    omega
  · intro c hc
    rcases List.mem_cons.mp hc with z | z
    · omega
    · have : c = 0 := (List.mem_replicate.mp z).2
      omega
  · intro t h1 h2
    obtain ⟨t, rfl⟩ : ∃ u, t = u + 1 := ⟨t - 1, by omega⟩
    show (List.replicate xs.length (0 : Int))[t]? = some 0
    rw [List.getElem?_replicate, if_pos (by omega)]
  · intro j x y h; omega
  · intro j x h; omega
  · intro j x _ _
    show pval p x (1 :: List.replicate xs.length 0) ≠ 0
    rw [e1]
    decide
theorem okI_step {p : Int} {xs ys : List Int} {n k : Nat} {st : List Int × List Int} {x y : Int} (hp : p ∈ fields) (hx : letters p xs) (hd : xs.Nodup) (hy : letters p ys) (hn : xs.length = n) (hk : k < n) (ex : xs[k]? = some x) (ey : ys[k]? = some y)
    (O : OkI p xs ys n k st) : OkI p xs ys n (k + 1) (stepI p st (x, y)) := by
  have hp2 := fields_pos hp
  have hp0 : 0 < p := by omega
  obtain ⟨found, root⟩ := st
  obtain ⟨lf, lr, tf, tr, zero, vals, roots, nz⟩ := O
  dsimp only at lf lr tf tr zero vals roots nz
  have hroot : root = root.take n ++ [0] := take_zero lr (zero n hk (Nat.le_refl n))
  have etake : ∀ z, ev z (root.take n) = ev z root := fun z => by
    conv => rhs; rw [hroot]
    rw [ev_zero]
  have edrop : root.dropLast = root.take n := by
    rw [List.dropLast_eq_take, lr]
    rfl
  generalize hf : fac p x y (found, root) = f
  -- congruences
  have c1 : ∀ z, p ∣ pval p z (mix p f found root) - (pval p z found + f * pval p z root) := fun z => by
    have a1 := mix_ev p f z found root (by omega)
    rw [lf, etake] at a1
    have a2 := pval_dvd p z (mix p f found root)
    have a3 := pval_dvd p z found
    have a4 := dl f (pval_dvd p z root)
    have a5 := Int.dvd_sub (Int.dvd_sub (Int.dvd_add a2 a1) a3) a4
    have e : pval p z (mix p f found root) - ev z (mix p f found root) + (ev z (mix p f found root) - (ev z found + f * ev z root)) - (pval p z found - ev z found) - f * (pval p z root - ev z root) = pval p z (mix p f found root) - (pval p z found + f * pval p z root) := by grind
    rw [e] at a5
    exact a5
  have c2 : ∀ z, p ∣ pval p z (lin p x root) - (z - x) * pval p z root := fun z => by
    have a1 := mix_ev p (-x) z (0 :: root.dropLast) root (by simp; omega)
    have l1 : (0 :: root.dropLast).length = root.length := by simp; omega
    rw [← lin_mix, l1, List.take_of_length_le (Nat.le_refl _)] at a1
    have e0 : ev z (0 :: root.dropLast) = ev z root * z := by
      show ev z root.dropLast * z + 0 = _
      rw [edrop, etake, Int.add_zero]
    rw [e0] at a1
    have a2 := pval_dvd p z (lin p x root)
    have a4 := dl (z - x) (pval_dvd p z root)
    have a5 := Int.dvd_sub (Int.dvd_add a2 a1) a4
    have e : pval p z (lin p x root) - ev z (lin p x root) + (ev z (lin p x root) - (ev z root * z + -x * ev z root)) - (z - x) * (pval p z root - ev z root) = pval p z (lin p x root) - (z - x) * pval p z root := by grind
    rw [e] at a5
    exact a5
  have hxl : ∀ {j z}, xs[j]? = some z → 0 ≤ z ∧ z < p := fun e => hx _ (List.mem_of_getElem? e)
  have hyl : ∀ {j z}, ys[j]? = some z → 0 ≤ z ∧ z < p := fun e => hy _ (List.mem_of_getElem? e)
  have rk := pval_range hp0 x root
  have rk0 : 0 < pval p x root := by
    have := nz k x (Nat.le_refl k) ex
    omega
  refine ⟨?_, ?_, mix_letters hp0 _ _, ?_, ?_, ?_, ?_, ?_⟩
  · show (mix p _ found root).length = n
    simp [mix]
    omega
  · show (lin p x root).length = n + 1
    simp [lin]
    omega
  · show letters p (lin p x root)
    rw [lin_mix]
    exact mix_letters hp0 _ _
  · intro t h1 h2
    show (lin p x root)[t]? = some 0
    obtain ⟨t, rfl⟩ : ∃ u, t = u + 1 := ⟨t - 1, by omega⟩
    have z1 := zero t (by omega) (by omega)
    have z2 := zero (t + 1) (by omega) h2
    unfold lin
    rw [List.getElem?_zipWith, List.getElem?_cons_succ, edrop, List.getElem?_take_of_lt (by omega), z1, z2]
    simp
  · intro j z w hj ez ew
    show pval p z (mix p (fac p x y (found, root)) found root) = w
    rw [hf]
    have wl := hyl ew
    have r1 := pval_range hp0 z (mix p f found root)
    refine md_small (p := p) ?_ r1.1 r1.2 wl.1 wl.2
    by_cases hjk : j < k
    · have a := c1 z
      rw [vals j z w hjk ez ew, roots j z hjk ez, Int.mul_zero, Int.add_zero] at a
      exact a
    · have e : j = k := by omega
      subst e
      rw [ex] at ez
      cases ez
      rw [ey] at ew
      cases ew
      obtain ⟨i0, i1, i2⟩ := inv_ok hp rk0 rk.2
      have b1 : p ∣ pval p x root * inv p (pval p x root) - 1 := md_to (by rw [i2, Int.emod_eq_of_lt (by omega) (by omega)])
      have b2 : p ∣ f - (y - pval p x found) * inv p (pval p x root) := by
        rw [← hf]
        exact md_self p _
      have b3 := Int.dvd_add (Int.dvd_add (c1 x) (dl (pval p x root) b2)) (dl (y - pval p x found) b1)
      have e : pval p x (mix p f found root) - (pval p x found + f * pval p x root) + pval p x root * (f - (y - pval p x found) * inv p (pval p x root)) + (y - pval p x found) * (pval p x root * inv p (pval p x root) - 1) = pval p x (mix p f found root) - y := by grind
      rw [e] at b3
      exact b3
  · intro j z hj ez
    show pval p z (lin p x root) = 0
    have r1 := pval_range hp0 z (lin p x root)
    refine md_small (p := p) ?_ r1.1 r1.2 (by omega) (by omega)
    rw [Int.sub_zero]
    have a := c2 z
    by_cases hjk : j < k
    · rw [roots j z hjk ez, Int.mul_zero, Int.sub_zero] at a
      exact a
    · have e : j = k := by omega
      subst e
      rw [ex] at ez
      cases ez
      rw [Int.sub_self, Int.zero_mul, Int.sub_zero] at a
      exact a
  · intro j z hj ez
    show pval p z (lin p x root) ≠ 0
    intro h0
    have a := c2 z
    rw [h0, Int.zero_sub] at a
    have a2 : p ∣ pval p z root * (z - x) := by
      have := Int.dvd_neg.mpr a
      rw [Int.neg_neg, Int.mul_comm] at this
      exact this
    have r0 := nz j z (by omega) ez
    have r1 := pval_range hp0 z root
    have a3 := field_dom hp (by omega) r1.2 a2
    have l1 := hxl ez
    have l2 := hxl ex
    have ezx : z = x := md_small a3 l1.1 l1.2 l2.1 l2.2
    have hjn : j < xs.length := (List.getElem?_eq_some_iff.mp ez).1
    have hkn : k < xs.length := (List.getElem?_eq_some_iff.mp ex).1
    have e1 := (List.getElem?_eq_some_iff.mp ez).2
    have e2 := (List.getElem?_eq_some_iff.mp ex).2
    have := (List.getElem_inj hd).mp (show xs[j] = xs[k] by rw [e1, e2, ezx])
    omega
theorem stateI_succ {p : Int} {xs ys : List Int} {k : Nat} {x y : Int} (ex : xs[k]? = some x) (ey : ys[k]? = some y) : stateI p xs ys (k + 1) = stepI p (stateI p xs ys k) (x, y) := by
  have e : (xs.zip ys)[k]? = some (x, y) := by rw [List.getElem?_zip_eq_some]; exact ⟨ex, ey⟩
  unfold stateI
  rw [List.take_succ, List.foldl_append, e]
  rfl
theorem okI_all {p : Int} {xs ys : List Int} (hp : p ∈ fields) (hx : letters p xs) (hd : xs.Nodup) (hy : letters p ys) (hl : ys.length = xs.length) : ∀ k, k ≤ xs.length → OkI p xs ys xs.length k (stateI p xs ys k)
  | 0, _ => okI_start hp
  | k + 1, h => by
    have ih := okI_all hp hx hd hy hl k (by omega)
    have ex : xs[k]? = some xs[k] := List.getElem?_eq_getElem (by omega)
    have ey : ys[k]? = some ys[k] := List.getElem?_eq_getElem (by omega)
    rw [stateI_succ ex ey]
    exact okI_step hp hx hd hy rfl (by omega) ex ey ih
end SU

namespace SU
open PySem PySem.Spec PyProof.Rows L2
def top (i : Nat) : Stmt := PySem.Challenge.pw_sharesunseen_k53_polynomials_through_poi.main.body.getD i (.Pass ⟨0, 0, 0, 0⟩)
abbrev s_is_integer : Stmt := top 15
abbrev s_is_number : Stmt := top 16
abbrev s_is_field : Stmt := top 19
abbrev s_is_letter : Stmt := top 20
abbrev s_inverse_of : Stmt := top 21
abbrev s_value_at : Stmt := top 37
abbrev s_polynomial_through : Stmt := top 38
abbrev s_polynomial_near : Stmt := top 39
abbrev s__check : Stmt := top 40
abbrev s__law_pool : Stmt := top 44
abbrev s__law_draw : Stmt := top 45
abbrev s__law_same : Stmt := top 46
abbrev s__law_kind : Stmt := top 47
abbrev s__law_odd_field : Stmt := top 48
abbrev s__law_value : Stmt := top 49
abbrev s__law_as : Stmt := top 50
abbrev s__law_points : Stmt := top 51
abbrev s__law_refused : Stmt := top 52
abbrev s__law_values_hold : Stmt := top 53
abbrev s__law_through_holds : Stmt := top 54
abbrev s_law : Stmt := top 55
abbrev s_InvalidNumber_init : Stmt := inClass (top 2) 0
theorem sc_is_integer : FnScope ["value"] ["value"] (defScope s_is_integer) := ⟨rfl, rfl, rfl, by decide +kernel, rfl, by decide +kernel, by decide +kernel⟩
theorem sc_is_number : FnScope ["value"] ["value"] (defScope s_is_number) := ⟨rfl, rfl, rfl, by decide +kernel, rfl, by decide +kernel, by decide +kernel⟩
theorem sc_is_field : FnScope ["p"] ["p"] (defScope s_is_field) := ⟨rfl, rfl, rfl, by decide +kernel, rfl, by decide +kernel, by decide +kernel⟩
theorem sc_is_letter : FnScope ["value", "p"] ["value", "p"] (defScope s_is_letter) := ⟨rfl, rfl, rfl, by decide +kernel, rfl, by decide +kernel, by decide +kernel⟩
theorem sc_inverse_of : FnScope ["p", "a", "b"] ["p", "a"] (defScope s_inverse_of) := ⟨rfl, rfl, rfl, by decide +kernel, rfl, by decide +kernel, by decide +kernel⟩
theorem sc_value_at : FnScope ["p", "coefficients", "point", "value", "coefficient"] ["p", "coefficients", "point"] (defScope s_value_at) := ⟨rfl, rfl, rfl, by decide +kernel, rfl, by decide +kernel, by decide +kernel⟩
theorem sc_polynomial_through : FnScope ["p", "points", "values", "found", "root", "point", "value", "lack", "factor", "old", "more", "low", "high"] ["p", "points", "values"] (defScope s_polynomial_through) := ⟨rfl, rfl, rfl, by decide +kernel, rfl, by decide +kernel, by decide +kernel⟩
theorem sc_polynomial_near : FnScope ["p", "points", "values", "size", "wrong", "solution", "found", "misses", "point", "value"] ["p", "points", "values", "size", "wrong"] (defScope s_polynomial_near) := ⟨rfl, rfl, rfl, by decide +kernel, rfl, by decide +kernel, by decide +kernel⟩
theorem sc__check : FnScope ["p"] ["p"] (defScope s__check) := ⟨rfl, rfl, rfl, by decide +kernel, rfl, by decide +kernel, by decide +kernel⟩
theorem sc__law_pool : FnScope ["script", "many", "pool", "total", "cell", "rest", "k", "mixed"] ["script", "many"] (defScope s__law_pool) := ⟨rfl, rfl, rfl, by decide +kernel, rfl, by decide +kernel, by decide +kernel⟩
theorem sc__law_draw : FnScope ["pool", "many"] ["pool", "many"] (defScope s__law_draw) := ⟨rfl, rfl, rfl, by decide +kernel, rfl, by decide +kernel, by decide +kernel⟩
theorem sc__law_same : FnScope ["told", "due", "k"] ["told", "due"] (defScope s__law_same) := ⟨rfl, rfl, rfl, by decide +kernel, rfl, by decide +kernel, by decide +kernel⟩
theorem sc__law_kind : FnScope ["e", "number", "found", "one"] ["e"] (defScope s__law_kind) := ⟨rfl, rfl, rfl, by decide +kernel, rfl, by decide +kernel, by decide +kernel⟩
theorem sc__law_odd_field : FnScope ["pool", "few", "odd"] ["pool"] (defScope s__law_odd_field) := ⟨rfl, rfl, rfl, by decide +kernel, rfl, by decide +kernel, by decide +kernel⟩
theorem sc__law_value : FnScope ["p", "coefficients", "point", "total", "k"] ["p", "coefficients", "point"] (defScope s__law_value) := ⟨rfl, rfl, rfl, by decide +kernel, rfl, by decide +kernel, by decide +kernel⟩
theorem sc__law_as : FnScope ["pool", "row"] ["pool", "row"] (defScope s__law_as) := ⟨rfl, rfl, rfl, by decide +kernel, rfl, by decide +kernel, by decide +kernel⟩
theorem sc__law_points : FnScope ["pool", "p", "left", "points", "many", "k"] ["pool", "p"] (defScope s__law_points) := ⟨rfl, rfl, rfl, by decide +kernel, rfl, by decide +kernel, by decide +kernel⟩
theorem sc__law_refused : FnScope ["way", "p", "e"] ["way", "p"] (defScope s__law_refused) := ⟨rfl, rfl, rfl, by decide +kernel, rfl, by decide +kernel, by decide +kernel⟩
theorem sc__law_values_hold : FnScope ["pool", "p", "coefficients", "points", "handed", "point", "due", "k"] ["pool", "p", "coefficients"] (defScope s__law_values_hold) := ⟨rfl, rfl, rfl, by decide +kernel, rfl, by decide +kernel, by decide +kernel⟩
theorem sc__law_through_holds : FnScope ["pool", "p", "points", "drawn", "values", "places", "letters", "told", "letter", "k", "again", "point"] ["pool", "p"] (defScope s__law_through_holds) := ⟨rfl, rfl, rfl, by decide +kernel, rfl, by decide +kernel, by decide +kernel⟩
theorem sc_law : FnScope ["script", "pool", "k", "p", "way", "j"] ["script"] (defScope s_law) := ⟨rfl, rfl, rfl, by decide +kernel, rfl, by decide +kernel, by decide +kernel⟩
def d_is_integer : He.DefD := ⟨("is_integer", none), "is_integer", "is_integer", defArgs s_is_integer, defBody s_is_integer, defScope s_is_integer, [], []⟩
def d_is_number : He.DefD := ⟨("is_number", none), "is_number", "is_number", defArgs s_is_number, defBody s_is_number, defScope s_is_number, [], []⟩
def d_is_field : He.DefD := ⟨("is_field", none), "is_field", "is_field", defArgs s_is_field, defBody s_is_field, defScope s_is_field, [], []⟩
def d_is_letter : He.DefD := ⟨("is_letter", none), "is_letter", "is_letter", defArgs s_is_letter, defBody s_is_letter, defScope s_is_letter, [], []⟩
def d_inverse_of : He.DefD := ⟨("inverse_of", none), "inverse_of", "inverse_of", defArgs s_inverse_of, defBody s_inverse_of, defScope s_inverse_of, [], []⟩
def d_value_at : He.DefD := ⟨("value_at", none), "value_at", "value_at", defArgs s_value_at, defBody s_value_at, defScope s_value_at, [], []⟩
def d_polynomial_through : He.DefD := ⟨("polynomial_through", none), "polynomial_through", "polynomial_through", defArgs s_polynomial_through, defBody s_polynomial_through, defScope s_polynomial_through, [], []⟩
def d_polynomial_near : He.DefD := ⟨("polynomial_near", none), "polynomial_near", "polynomial_near", defArgs s_polynomial_near, defBody s_polynomial_near, defScope s_polynomial_near, [], []⟩
def d__check : He.DefD := ⟨("_check", none), "_check", "_check", defArgs s__check, defBody s__check, defScope s__check, [], []⟩
def d__law_pool : He.DefD := ⟨("_law_pool", none), "_law_pool", "_law_pool", defArgs s__law_pool, defBody s__law_pool, defScope s__law_pool, [], []⟩
def d__law_draw : He.DefD := ⟨("_law_draw", none), "_law_draw", "_law_draw", defArgs s__law_draw, defBody s__law_draw, defScope s__law_draw, [], []⟩
def d__law_same : He.DefD := ⟨("_law_same", none), "_law_same", "_law_same", defArgs s__law_same, defBody s__law_same, defScope s__law_same, [], []⟩
def d__law_kind : He.DefD := ⟨("_law_kind", none), "_law_kind", "_law_kind", defArgs s__law_kind, defBody s__law_kind, defScope s__law_kind, [], []⟩
def d__law_odd_field : He.DefD := ⟨("_law_odd_field", none), "_law_odd_field", "_law_odd_field", defArgs s__law_odd_field, defBody s__law_odd_field, defScope s__law_odd_field, [], []⟩
def d__law_value : He.DefD := ⟨("_law_value", none), "_law_value", "_law_value", defArgs s__law_value, defBody s__law_value, defScope s__law_value, [], []⟩
def d__law_as : He.DefD := ⟨("_law_as", none), "_law_as", "_law_as", defArgs s__law_as, defBody s__law_as, defScope s__law_as, [], []⟩
def d__law_points : He.DefD := ⟨("_law_points", none), "_law_points", "_law_points", defArgs s__law_points, defBody s__law_points, defScope s__law_points, [], []⟩
def d__law_refused : He.DefD := ⟨("_law_refused", none), "_law_refused", "_law_refused", defArgs s__law_refused, defBody s__law_refused, defScope s__law_refused, [], []⟩
def d__law_values_hold : He.DefD := ⟨("_law_values_hold", none), "_law_values_hold", "_law_values_hold", defArgs s__law_values_hold, defBody s__law_values_hold, defScope s__law_values_hold, [], []⟩
def d__law_through_holds : He.DefD := ⟨("_law_through_holds", none), "_law_through_holds", "_law_through_holds", defArgs s__law_through_holds, defBody s__law_through_holds, defScope s__law_through_holds, [], []⟩
def d_law : He.DefD := ⟨("law", none), "law", "law", defArgs s_law, defBody s_law, defScope s_law, [], []⟩
def d_InvalidNumber_init : He.DefD := ⟨("InvalidNumber", some "__init__"), "__init__", (("InvalidNumber" : Str) ++ ".__init__"), defArgs s_InvalidNumber_init, defBody s_InvalidNumber_init, defScope s_InvalidNumber_init, [], []⟩
def fn : List He.DefD := [d_is_integer, d_is_number, d_is_field, d_is_letter, d_inverse_of, d_value_at, d_polynomial_through, d_polynomial_near, d__check, d__law_pool, d__law_draw, d__law_same, d__law_kind, d__law_odd_field, d__law_value, d__law_as, d__law_points, d__law_refused, d__law_values_hold, d__law_through_holds, d_law]
def cn : List He.DefD := [d_InvalidNumber_init]
def fx0 : List (PySem.W.Frag → Bool) := [(fun K => (He.Fa.glo "is_integer").ok K), (fun K => (He.Fa.glo "is_number").ok K), (fun K => (He.Fa.glo "is_field").ok K), (fun K => (He.Fa.glo "is_letter").ok K), (fun K => (He.Fa.glo "inverse_of").ok K), (fun K => (He.Fa.glo "value_at").ok K), (fun K => (He.Fa.glo "polynomial_through").ok K), (fun K => (He.Fa.glo "polynomial_near").ok K), (fun K => (He.Fa.glo "_check").ok K), (fun K => (He.Fa.glo "_law_pool").ok K), (fun K => (He.Fa.glo "_law_draw").ok K), (fun K => (He.Fa.glo "_law_same").ok K), (fun K => (He.Fa.glo "_law_kind").ok K), (fun K => (He.Fa.glo "_law_odd_field").ok K), (fun K => (He.Fa.glo "_law_value").ok K), (fun K => (He.Fa.glo "_law_as").ok K), (fun K => (He.Fa.glo "_law_points").ok K), (fun K => (He.Fa.glo "_law_refused").ok K), (fun K => (He.Fa.glo "_law_values_hold").ok K), (fun K => (He.Fa.glo "_law_through_holds").ok K)]
def fx1 : List (PySem.W.Frag → Bool) := [(fun K => (He.Fa.glo "law").ok K), (fun K => (He.Fa.glo "FIELDS").ok K), (fun K => (He.Fa.glo "InvalidNumber").ok K), (fun K => (He.Fa.glo "WishError").ok K), (fun K => (He.Fa.glo "InvalidPlan").ok K), (fun K => (He.Fa.glo "InvalidTape").ok K), (fun K => (He.Fa.glo "InvalidAnswers").ok K), (fun K => (He.Fa.glo "InvalidLibrary").ok K), (fun K => (He.Fa.glo "Undefined").ok K), (fun K => (He.Fa.glo "InvalidShare").ok K), (fun K => (He.Fa.glo "InvalidMatrix").ok K), (fun K => (He.Fa.glo "InvalidText").ok K), (fun K => (He.Fa.glo "InvalidLine").ok K), (fun K => (He.Fa.glo "UnknownWord").ok K), (fun K => (He.Fa.glo "NothingToUndo").ok K), (fun K => (He.Fa.free "ValueError").ok K), (fun K => (He.Fa.free "abs").ok K), (fun K => (He.Fa.free "any").ok K), (fun K => (He.Fa.free "bool").ok K), (fun K => (He.Fa.free "enumerate").ok K)]
def fx2 : List (PySem.W.Frag → Bool) := [(fun K => (He.Fa.free "int").ok K), (fun K => (He.Fa.free "isinstance").ok K), (fun K => (He.Fa.free "len").ok K), (fun K => (He.Fa.free "list").ok K), (fun K => (He.Fa.free "min").ok K), (fun K => (He.Fa.free "range").ok K), (fun K => (He.Fa.free "str").ok K), (fun K => (He.Fa.free "super").ok K), (fun K => (He.Fa.free "tuple").ok K), (fun K => (He.Fa.free "zip").ok K), (fun K => supB K "InvalidNumber"), (fun K => decide (PySem.W.findIn K (.ref (He.ga K "InvalidNumber")) "value" = some none)), (fun K => excCB K "InvalidNumber"), (fun K => xfB K (He.ga K "InvalidNumber")), (fun K => (He.Fa.exm "InvalidNumber" "WishError" true).ok K), (fun K => He.tupB K "FIELDS" [.int 2, .int 3, .int 5, .int 7, .int 11, .int 13, .int 17, .int 19, .int 23, .int 29, .int 31]), (fun K => kitB K "InvalidNumber" "InvalidNumber" true), (fun K => kitB K "InvalidNumber" "InvalidPlan" false), (fun K => kitB K "InvalidNumber" "InvalidTape" false), (fun K => kitB K "InvalidNumber" "InvalidAnswers" false)]
def fx3 : List (PySem.W.Frag → Bool) := [(fun K => kitB K "InvalidNumber" "InvalidLibrary" false), (fun K => kitB K "InvalidNumber" "Undefined" false), (fun K => kitB K "InvalidNumber" "InvalidShare" false), (fun K => kitB K "InvalidNumber" "InvalidMatrix" false), (fun K => kitB K "InvalidNumber" "InvalidText" false), (fun K => kitB K "InvalidNumber" "InvalidLine" false), (fun K => kitB K "InvalidNumber" "UnknownWord" false), (fun K => kitB K "InvalidNumber" "NothingToUndo" false), (fun K => kitTB K "InvalidNumber" "ValueError" true)]
def fx : List (PySem.W.Frag → Bool) := fx0 ++ fx1 ++ fx2 ++ fx3
structure Says (K : PySem.W.Frag) : Prop where
  h : SaysG fx fn cn K
section
variable {K : PySem.W.Frag}
theorem Says.glo_is_integer (c : Says K) : (He.Fa.glo "is_integer").ok K = true := c.h.fact 0 rfl
theorem Says.glo_is_number (c : Says K) : (He.Fa.glo "is_number").ok K = true := c.h.fact 1 rfl
theorem Says.glo_is_field (c : Says K) : (He.Fa.glo "is_field").ok K = true := c.h.fact 2 rfl
theorem Says.glo_is_letter (c : Says K) : (He.Fa.glo "is_letter").ok K = true := c.h.fact 3 rfl
theorem Says.glo_inverse_of (c : Says K) : (He.Fa.glo "inverse_of").ok K = true := c.h.fact 4 rfl
theorem Says.glo_value_at (c : Says K) : (He.Fa.glo "value_at").ok K = true := c.h.fact 5 rfl
theorem Says.glo_polynomial_through (c : Says K) : (He.Fa.glo "polynomial_through").ok K = true := c.h.fact 6 rfl
theorem Says.glo_polynomial_near (c : Says K) : (He.Fa.glo "polynomial_near").ok K = true := c.h.fact 7 rfl
theorem Says.glo__check (c : Says K) : (He.Fa.glo "_check").ok K = true := c.h.fact 8 rfl
theorem Says.glo__law_pool (c : Says K) : (He.Fa.glo "_law_pool").ok K = true := c.h.fact 9 rfl
theorem Says.glo__law_draw (c : Says K) : (He.Fa.glo "_law_draw").ok K = true := c.h.fact 10 rfl
theorem Says.glo__law_same (c : Says K) : (He.Fa.glo "_law_same").ok K = true := c.h.fact 11 rfl
theorem Says.glo__law_kind (c : Says K) : (He.Fa.glo "_law_kind").ok K = true := c.h.fact 12 rfl
theorem Says.glo__law_odd_field (c : Says K) : (He.Fa.glo "_law_odd_field").ok K = true := c.h.fact 13 rfl
theorem Says.glo__law_value (c : Says K) : (He.Fa.glo "_law_value").ok K = true := c.h.fact 14 rfl
theorem Says.glo__law_as (c : Says K) : (He.Fa.glo "_law_as").ok K = true := c.h.fact 15 rfl
theorem Says.glo__law_points (c : Says K) : (He.Fa.glo "_law_points").ok K = true := c.h.fact 16 rfl
theorem Says.glo__law_refused (c : Says K) : (He.Fa.glo "_law_refused").ok K = true := c.h.fact 17 rfl
theorem Says.glo__law_values_hold (c : Says K) : (He.Fa.glo "_law_values_hold").ok K = true := c.h.fact 18 rfl
theorem Says.glo__law_through_holds (c : Says K) : (He.Fa.glo "_law_through_holds").ok K = true := c.h.fact 19 rfl
theorem Says.glo_law (c : Says K) : (He.Fa.glo "law").ok K = true := c.h.fact 20 rfl
theorem Says.glo_FIELDS (c : Says K) : (He.Fa.glo "FIELDS").ok K = true := c.h.fact 21 rfl
theorem Says.glo_InvalidNumber (c : Says K) : (He.Fa.glo "InvalidNumber").ok K = true := c.h.fact 22 rfl
theorem Says.glo_WishError (c : Says K) : (He.Fa.glo "WishError").ok K = true := c.h.fact 23 rfl
theorem Says.glo_InvalidPlan (c : Says K) : (He.Fa.glo "InvalidPlan").ok K = true := c.h.fact 24 rfl
theorem Says.glo_InvalidTape (c : Says K) : (He.Fa.glo "InvalidTape").ok K = true := c.h.fact 25 rfl
theorem Says.glo_InvalidAnswers (c : Says K) : (He.Fa.glo "InvalidAnswers").ok K = true := c.h.fact 26 rfl
theorem Says.glo_InvalidLibrary (c : Says K) : (He.Fa.glo "InvalidLibrary").ok K = true := c.h.fact 27 rfl
theorem Says.glo_Undefined (c : Says K) : (He.Fa.glo "Undefined").ok K = true := c.h.fact 28 rfl
theorem Says.glo_InvalidShare (c : Says K) : (He.Fa.glo "InvalidShare").ok K = true := c.h.fact 29 rfl
theorem Says.glo_InvalidMatrix (c : Says K) : (He.Fa.glo "InvalidMatrix").ok K = true := c.h.fact 30 rfl
theorem Says.glo_InvalidText (c : Says K) : (He.Fa.glo "InvalidText").ok K = true := c.h.fact 31 rfl
theorem Says.glo_InvalidLine (c : Says K) : (He.Fa.glo "InvalidLine").ok K = true := c.h.fact 32 rfl
theorem Says.glo_UnknownWord (c : Says K) : (He.Fa.glo "UnknownWord").ok K = true := c.h.fact 33 rfl
theorem Says.glo_NothingToUndo (c : Says K) : (He.Fa.glo "NothingToUndo").ok K = true := c.h.fact 34 rfl
theorem Says.free_ValueError (c : Says K) : (He.Fa.free "ValueError").ok K = true := c.h.fact 35 rfl
theorem Says.free_abs (c : Says K) : (He.Fa.free "abs").ok K = true := c.h.fact 36 rfl
theorem Says.free_any (c : Says K) : (He.Fa.free "any").ok K = true := c.h.fact 37 rfl
theorem Says.free_bool (c : Says K) : (He.Fa.free "bool").ok K = true := c.h.fact 38 rfl
theorem Says.free_enumerate (c : Says K) : (He.Fa.free "enumerate").ok K = true := c.h.fact 39 rfl
theorem Says.free_int (c : Says K) : (He.Fa.free "int").ok K = true := c.h.fact 40 rfl
theorem Says.free_isinstance (c : Says K) : (He.Fa.free "isinstance").ok K = true := c.h.fact 41 rfl
theorem Says.free_len (c : Says K) : (He.Fa.free "len").ok K = true := c.h.fact 42 rfl
theorem Says.free_list (c : Says K) : (He.Fa.free "list").ok K = true := c.h.fact 43 rfl
theorem Says.free_min (c : Says K) : (He.Fa.free "min").ok K = true := c.h.fact 44 rfl
theorem Says.free_range (c : Says K) : (He.Fa.free "range").ok K = true := c.h.fact 45 rfl
theorem Says.free_str (c : Says K) : (He.Fa.free "str").ok K = true := c.h.fact 46 rfl
theorem Says.free_super (c : Says K) : (He.Fa.free "super").ok K = true := c.h.fact 47 rfl
theorem Says.free_tuple (c : Says K) : (He.Fa.free "tuple").ok K = true := c.h.fact 48 rfl
theorem Says.free_zip (c : Says K) : (He.Fa.free "zip").ok K = true := c.h.fact 49 rfl
theorem Says.sup_InvalidNumber (c : Says K) : supB K "InvalidNumber" = true := c.h.fact 50 rfl
theorem Says.nof_InvalidNumber_value (c : Says K) : decide (PySem.W.findIn K (.ref (He.ga K "InvalidNumber")) "value" = some none) = true := c.h.fact 51 rfl
theorem Says.exc_InvalidNumber (c : Says K) : excCB K "InvalidNumber" = true := c.h.fact 52 rfl
theorem Says.xf_InvalidNumber (c : Says K) : xfB K (He.ga K "InvalidNumber") = true := c.h.fact 53 rfl
theorem Says.exm_InvalidNumber (c : Says K) : (He.Fa.exm "InvalidNumber" "WishError" true).ok K = true := c.h.fact 54 rfl
theorem Says.fields (c : Says K) : He.tupB K "FIELDS" [.int 2, .int 3, .int 5, .int 7, .int 11, .int 13, .int 17, .int 19, .int 23, .int 29, .int 31] = true := c.h.fact 55 rfl
theorem Says.kit_InvalidNumber (c : Says K) : kitB K "InvalidNumber" "InvalidNumber" true = true := c.h.fact 56 rfl
theorem Says.kit_InvalidPlan (c : Says K) : kitB K "InvalidNumber" "InvalidPlan" false = true := c.h.fact 57 rfl
theorem Says.kit_InvalidTape (c : Says K) : kitB K "InvalidNumber" "InvalidTape" false = true := c.h.fact 58 rfl
theorem Says.kit_InvalidAnswers (c : Says K) : kitB K "InvalidNumber" "InvalidAnswers" false = true := c.h.fact 59 rfl
theorem Says.kit_InvalidLibrary (c : Says K) : kitB K "InvalidNumber" "InvalidLibrary" false = true := c.h.fact 60 rfl
theorem Says.kit_Undefined (c : Says K) : kitB K "InvalidNumber" "Undefined" false = true := c.h.fact 61 rfl
theorem Says.kit_InvalidShare (c : Says K) : kitB K "InvalidNumber" "InvalidShare" false = true := c.h.fact 62 rfl
theorem Says.kit_InvalidMatrix (c : Says K) : kitB K "InvalidNumber" "InvalidMatrix" false = true := c.h.fact 63 rfl
theorem Says.kit_InvalidText (c : Says K) : kitB K "InvalidNumber" "InvalidText" false = true := c.h.fact 64 rfl
theorem Says.kit_InvalidLine (c : Says K) : kitB K "InvalidNumber" "InvalidLine" false = true := c.h.fact 65 rfl
theorem Says.kit_UnknownWord (c : Says K) : kitB K "InvalidNumber" "UnknownWord" false = true := c.h.fact 66 rfl
theorem Says.kit_NothingToUndo (c : Says K) : kitB K "InvalidNumber" "NothingToUndo" false = true := c.h.fact 67 rfl
theorem Says.kit_ValueError (c : Says K) : kitTB K "InvalidNumber" "ValueError" true = true := c.h.fact 68 rfl
theorem Says.def_is_integer (c : Says K) : ∃ fd, FunD K "is_integer" "is_integer" (defArgs s_is_integer) (defBody s_is_integer) (defScope s_is_integer) [] [] (He.ga K "is_integer") fd ∧ Binds K fd ["value"] [] := (c.h.def_ 0 rfl).imp fun fd F => ⟨F, FunD.bindsN F fun _ _ _ _ _ _ us hl => match us, hl with | [_], _ => rfl⟩
theorem Says.def_is_number (c : Says K) : ∃ fd, FunD K "is_number" "is_number" (defArgs s_is_number) (defBody s_is_number) (defScope s_is_number) [] [] (He.ga K "is_number") fd ∧ Binds K fd ["value"] [] := (c.h.def_ 1 rfl).imp fun fd F => ⟨F, FunD.bindsN F fun _ _ _ _ _ _ us hl => match us, hl with | [_], _ => rfl⟩
theorem Says.def_is_field (c : Says K) : ∃ fd, FunD K "is_field" "is_field" (defArgs s_is_field) (defBody s_is_field) (defScope s_is_field) [] [] (He.ga K "is_field") fd ∧ Binds K fd ["p"] [] := (c.h.def_ 2 rfl).imp fun fd F => ⟨F, FunD.bindsN F fun _ _ _ _ _ _ us hl => match us, hl with | [_], _ => rfl⟩
theorem Says.def_is_letter (c : Says K) : ∃ fd, FunD K "is_letter" "is_letter" (defArgs s_is_letter) (defBody s_is_letter) (defScope s_is_letter) [] [] (He.ga K "is_letter") fd ∧ Binds K fd ["value", "p"] [] := (c.h.def_ 3 rfl).imp fun fd F => ⟨F, FunD.bindsN F fun _ _ _ _ _ _ us hl => match us, hl with | [_, _], _ => rfl⟩
theorem Says.def_inverse_of (c : Says K) : ∃ fd, FunD K "inverse_of" "inverse_of" (defArgs s_inverse_of) (defBody s_inverse_of) (defScope s_inverse_of) [] [] (He.ga K "inverse_of") fd ∧ Binds K fd ["p", "a"] [] := (c.h.def_ 4 rfl).imp fun fd F => ⟨F, FunD.bindsN F fun _ _ _ _ _ _ us hl => match us, hl with | [_, _], _ => rfl⟩
theorem Says.def_value_at (c : Says K) : ∃ fd, FunD K "value_at" "value_at" (defArgs s_value_at) (defBody s_value_at) (defScope s_value_at) [] [] (He.ga K "value_at") fd ∧ Binds K fd ["p", "coefficients", "point"] [] := (c.h.def_ 5 rfl).imp fun fd F => ⟨F, FunD.bindsN F fun _ _ _ _ _ _ us hl => match us, hl with | [_, _, _], _ => rfl⟩
theorem Says.def_polynomial_through (c : Says K) : ∃ fd, FunD K "polynomial_through" "polynomial_through" (defArgs s_polynomial_through) (defBody s_polynomial_through) (defScope s_polynomial_through) [] [] (He.ga K "polynomial_through") fd ∧ Binds K fd ["p", "points", "values"] [] := (c.h.def_ 6 rfl).imp fun fd F => ⟨F, FunD.bindsN F fun _ _ _ _ _ _ us hl => match us, hl with | [_, _, _], _ => rfl⟩
theorem Says.def_polynomial_near (c : Says K) : ∃ fd, FunD K "polynomial_near" "polynomial_near" (defArgs s_polynomial_near) (defBody s_polynomial_near) (defScope s_polynomial_near) [] [] (He.ga K "polynomial_near") fd ∧ Binds K fd ["p", "points", "values", "size", "wrong"] [] := (c.h.def_ 7 rfl).imp fun fd F => ⟨F, FunD.bindsN F fun _ _ _ _ _ _ us hl => match us, hl with | [_, _, _, _, _], _ => rfl⟩
theorem Says.def__check (c : Says K) : ∃ fd, FunD K "_check" "_check" (defArgs s__check) (defBody s__check) (defScope s__check) [] [] (He.ga K "_check") fd ∧ Binds K fd ["p"] [] := (c.h.def_ 8 rfl).imp fun fd F => ⟨F, FunD.bindsN F fun _ _ _ _ _ _ us hl => match us, hl with | [_], _ => rfl⟩
theorem Says.def__law_pool (c : Says K) : ∃ fd, FunD K "_law_pool" "_law_pool" (defArgs s__law_pool) (defBody s__law_pool) (defScope s__law_pool) [] [] (He.ga K "_law_pool") fd ∧ Binds K fd ["script", "many"] [] := (c.h.def_ 9 rfl).imp fun fd F => ⟨F, FunD.bindsN F fun _ _ _ _ _ _ us hl => match us, hl with | [_, _], _ => rfl⟩
theorem Says.def__law_draw (c : Says K) : ∃ fd, FunD K "_law_draw" "_law_draw" (defArgs s__law_draw) (defBody s__law_draw) (defScope s__law_draw) [] [] (He.ga K "_law_draw") fd ∧ Binds K fd ["pool", "many"] [] := (c.h.def_ 10 rfl).imp fun fd F => ⟨F, FunD.bindsN F fun _ _ _ _ _ _ us hl => match us, hl with | [_, _], _ => rfl⟩
theorem Says.def__law_same (c : Says K) : ∃ fd, FunD K "_law_same" "_law_same" (defArgs s__law_same) (defBody s__law_same) (defScope s__law_same) [] [] (He.ga K "_law_same") fd ∧ Binds K fd ["told", "due"] [] := (c.h.def_ 11 rfl).imp fun fd F => ⟨F, FunD.bindsN F fun _ _ _ _ _ _ us hl => match us, hl with | [_, _], _ => rfl⟩
theorem Says.def__law_kind (c : Says K) : ∃ fd, FunD K "_law_kind" "_law_kind" (defArgs s__law_kind) (defBody s__law_kind) (defScope s__law_kind) [] [] (He.ga K "_law_kind") fd ∧ Binds K fd ["e"] [] := (c.h.def_ 12 rfl).imp fun fd F => ⟨F, FunD.bindsN F fun _ _ _ _ _ _ us hl => match us, hl with | [_], _ => rfl⟩
theorem Says.def__law_odd_field (c : Says K) : ∃ fd, FunD K "_law_odd_field" "_law_odd_field" (defArgs s__law_odd_field) (defBody s__law_odd_field) (defScope s__law_odd_field) [] [] (He.ga K "_law_odd_field") fd ∧ Binds K fd ["pool"] [] := (c.h.def_ 13 rfl).imp fun fd F => ⟨F, FunD.bindsN F fun _ _ _ _ _ _ us hl => match us, hl with | [_], _ => rfl⟩
theorem Says.def__law_value (c : Says K) : ∃ fd, FunD K "_law_value" "_law_value" (defArgs s__law_value) (defBody s__law_value) (defScope s__law_value) [] [] (He.ga K "_law_value") fd ∧ Binds K fd ["p", "coefficients", "point"] [] := (c.h.def_ 14 rfl).imp fun fd F => ⟨F, FunD.bindsN F fun _ _ _ _ _ _ us hl => match us, hl with | [_, _, _], _ => rfl⟩
theorem Says.def__law_as (c : Says K) : ∃ fd, FunD K "_law_as" "_law_as" (defArgs s__law_as) (defBody s__law_as) (defScope s__law_as) [] [] (He.ga K "_law_as") fd ∧ Binds K fd ["pool", "row"] [] := (c.h.def_ 15 rfl).imp fun fd F => ⟨F, FunD.bindsN F fun _ _ _ _ _ _ us hl => match us, hl with | [_, _], _ => rfl⟩
theorem Says.def__law_points (c : Says K) : ∃ fd, FunD K "_law_points" "_law_points" (defArgs s__law_points) (defBody s__law_points) (defScope s__law_points) [] [] (He.ga K "_law_points") fd ∧ Binds K fd ["pool", "p"] [] := (c.h.def_ 16 rfl).imp fun fd F => ⟨F, FunD.bindsN F fun _ _ _ _ _ _ us hl => match us, hl with | [_, _], _ => rfl⟩
theorem Says.def__law_refused (c : Says K) : ∃ fd, FunD K "_law_refused" "_law_refused" (defArgs s__law_refused) (defBody s__law_refused) (defScope s__law_refused) [] [] (He.ga K "_law_refused") fd ∧ Binds K fd ["way", "p"] [] := (c.h.def_ 17 rfl).imp fun fd F => ⟨F, FunD.bindsN F fun _ _ _ _ _ _ us hl => match us, hl with | [_, _], _ => rfl⟩
theorem Says.def__law_values_hold (c : Says K) : ∃ fd, FunD K "_law_values_hold" "_law_values_hold" (defArgs s__law_values_hold) (defBody s__law_values_hold) (defScope s__law_values_hold) [] [] (He.ga K "_law_values_hold") fd ∧ Binds K fd ["pool", "p", "coefficients"] [] := (c.h.def_ 18 rfl).imp fun fd F => ⟨F, FunD.bindsN F fun _ _ _ _ _ _ us hl => match us, hl with | [_, _, _], _ => rfl⟩
theorem Says.def__law_through_holds (c : Says K) : ∃ fd, FunD K "_law_through_holds" "_law_through_holds" (defArgs s__law_through_holds) (defBody s__law_through_holds) (defScope s__law_through_holds) [] [] (He.ga K "_law_through_holds") fd ∧ Binds K fd ["pool", "p"] [] := (c.h.def_ 19 rfl).imp fun fd F => ⟨F, FunD.bindsN F fun _ _ _ _ _ _ us hl => match us, hl with | [_, _], _ => rfl⟩
theorem Says.def_law (c : Says K) : ∃ fd, FunD K "law" "law" (defArgs s_law) (defBody s_law) (defScope s_law) [] [] (He.ga K "law") fd ∧ Binds K fd ["script"] [] := (c.h.def_ 20 rfl).imp fun fd F => ⟨F, FunD.bindsN F fun _ _ _ _ _ _ us hl => match us, hl with | [_], _ => rfl⟩
theorem sup_InvalidNumber {P : Program} {mg : Str → Option Value} (g : Glob P K mg) (c : Says K) : Sup1 P K mg "InvalidNumber" "value" (He.ga K "InvalidNumber") (He.ma K (He.ga K "InvalidNumber") "__init__") := sup1_of (g.glo c.glo_InvalidNumber) (g.free c.free_super) (c.h.init 0 rfl) c.sup_InvalidNumber g.file g.top c.nof_InvalidNumber_value ⟨_, _, _, _, _, _, _, _, _, _, _, _, _, rfl, rfl, rfl, fun _ _ _ _ _ _ _ _ => rfl, fun _ _ _ _ => rfl⟩ rfl rfl rfl (by decide) (by decide)
end
end SU

namespace SU
open PySem PySem.Spec PyProof.Rows L2
section
variable {P : Program} {w : World} {K : Frag} {mg : Str → Option Value} {base : Heap}
/-- a draw: any number below m -/
def spDraw : Sp := fun vs H Q _ => ∃ (a : Addr) (m : Int), vs = [.ref a, .int m] ∧ 0 < m ∧ Pool H a ∧ ∀ r H', 0 ≤ r → r < m → Step a H H' → Q (.int r) H'
theorem cal__law_draw (g : Glob P K mg) (c : Says K) : Cal P w K mg base 1 s__law_draw ["pool", "many"] "_law_draw" spDraw := by
  refine calG (g.glo c.glo__law_draw) c.def__law_draw sc__law_draw (fun vs H Q E h => by obtain ⟨_, _, rfl, _⟩ := h; rfl) ?_
  intro cdv A outer s H vs Q E hr h
  obtain ⟨a, m, rfl, hm, hp, q⟩ := h
  obtain ⟨ns, e⟩ := id hp
  refine ⟨_, (
(pss_cons (ps_if (pt_cmpR op_eq (pe_callB call_len_seq (by rfl) (g.free c.free_len) PySem.boot_len (pa_cons (pv 0) pa_nil)) pe_int (nomark _))
      (pss_one (ps_ret pe_int)) pss_nil)
      (pss_one (ps_ret (pe_op op_mod (pe_callTy call_int1 (by rfl) (g.free c.free_int) boot_int (pa_cons (pe_bm0 PySem.F.plainAttrs_list PySem.F.slot_list_pop PySem.F.type_list_pop mt_pop (pv 0)) pa_nil)) (pv 1)))))
  ), ?_⟩
  refine ⟨_, rfl, a, _, rfl, .inl (.inl (.inl e)), rfl, _, rfl, ?_⟩
  by_cases hz : ns = []
  · subst hz
    exact ifT rfl (q 0 H (Int.le_refl 0) hm (.refl hp))
  · have hl : 0 < ns.length := List.length_pos_iff.mpr hz
    refine ifF (decide_eq_false (fun z => ?_)) ?_
    · have z2 := V.int.inj z
      simp at z2
      exact hz z2
    · have el : (ns.map V.int)[(ns.map V.int).length - 1]? = some (.int (ns[ns.length - 1]'(by omega))) := by
        rw [List.getElem?_map, List.length_map, List.getElem?_eq_getElem (by omega)]
        rfl
      refine ⟨_, rfl, tyL e, a, _, _, rfl, rfl, e, el, .inl ⟨_, rfl, _, rfl, _, _, rfl, rfl, hm, ?_⟩⟩
      exact q _ _ (Int.emod_nonneg _ (by omega)) (Int.emod_lt_of_pos _ hm) ⟨.set (by simp), ns.dropLast, by rw [upd_same, List.map_dropLast]⟩
/-- a list or a tuple of the row -/
def spAs (K : Frag) : Sp := fun vs H Q _ => ∃ (a : Addr) (v : V) (ns : List Int), vs = [.ref a, v] ∧ Pool H a ∧ Iq K [a] H v ns ∧ ∀ u H', Step a H H' → (Rep K [a] H' u (.list (di ns)) ∨ Rep K [a] H' u (.tuple (di ns))) → Q u H'
theorem cal__law_as (g : Glob P K mg) (c : Says K) : Cal P w K mg base 2 s__law_as ["pool", "row"] "_law_as" (spAs K) := by
  refine calG (g.glo c.glo__law_as) c.def__law_as sc__law_as (fun vs H Q E h => by obtain ⟨_, _, _, rfl, _⟩ := h; rfl) ?_
  intro cdv A outer s H vs Q E hr h
  obtain ⟨a, v, ns, rfl, hp, hv, q⟩ := h
  refine ⟨_, (
(pss_cons (ps_if (pt_cmpR op_eq (pe_c (cal__law_draw g c) hr (by decide) (by rfl) (pa_cons (pv 0) (pa_cons pe_int pa_nil))) pe_int (nomark _))
      (pss_one (ps_ret (pe_callTy call_list_of (by rfl) (g.free c.free_list) boot_list (pa_cons (pv 1) pa_nil)))) pss_nil)
      (pss_one (ps_ret (pe_callTy call_tuple_of (by rfl) (g.free c.free_tuple) boot_tuple (pa_cons (pv 1) pa_nil)))))
  ), ?_⟩
  refine ⟨_, rfl, a, 2, rfl, by decide, hp, fun r H1 r0 r1 st => ⟨rfl, _, rfl, ?_⟩⟩
  obtain ⟨b, rfl, nb, hb⟩ := hv.st st
  have hp1 := st.pool
  cases hc : decide (V.int r = V.int 0) with
  | true =>
    refine ifT rfl ⟨_, rfl, b, _, rfl, hb, fun l hl => q _ _ ?_ (.inl ?_)⟩
    · exact st.trans (.of hp1 (Same.new hl))
    · exact .ofL (hp1.ne hl) (.inl (.inl upd_same))
  | false =>
    refine ifF rfl ⟨_, rfl, b, ns.map V.int, rfl, ?_⟩
    rcases hb with hb | hb
    · refine .inl ⟨hb, fun l hl => q _ _ ?_ (.inr ?_)⟩
      · exact st.trans (.of hp1 (Same.new hl))
      · exact .ofT (hp1.ne hl) (.inl (.inl upd_same))
    · exact .inr ⟨hb, q _ _ st (.inr (.ofT nb hb))⟩
end
end SU

namespace SU
open PySem PySem.Spec PyProof.Rows L2
section
variable {P : Program} {w : World} {K : Frag} {mg : Str → Option Value} {base : Heap}
def spLVal (K : Frag) : Sp := fun vs H Q _ => ∃ (p x : Int) (v : V) (ns : List Int), vs = [.int p, v, .int x] ∧ 0 < p ∧ p < 1000000 ∧ ns.length < 1000000 ∧ Iq K [] H v ns ∧ Q (.int (pval p x ns)) H
theorem cal__law_value (g : Glob P K mg) (c : Says K) : Cal P w K mg base 1 s__law_value ["p", "coefficients", "point"] "_law_value" (spLVal K) := by
  refine calG (g.glo c.glo__law_value) c.def__law_value sc__law_value (fun vs H Q E h => by obtain ⟨_, _, _, _, rfl, _⟩ := h; rfl) ?_
  intro cdv A outer s H vs Q E hr h
  obtain ⟨p, x, v, ns, rfl, hp, hp1, hn, ⟨a, rfl, _, ha⟩, q⟩ := h
  refine ⟨_, (
(pss_cons (ps_set (i := 3) sc__law_value.nd rfl (Or.inl rfl) pe_int)
      (pss_cons (ps_for PassesOwn.never rfl (pi_range3 (by rfl) (g.free c.free_range) (pa_cons (pe_op op_sub (pe_callB call_len_seq (by rfl) (g.free c.free_len) PySem.boot_len (pa_cons (pv 1) pa_nil)) pe_int) (pa_cons (pe_un un_neg pe_int) (pa_cons (pe_un un_neg pe_int) pa_nil)))) (pg_name (i := 4) sc__law_value.nd rfl (Or.inl rfl))
      (pss_one (ps_set (i := 3) sc__law_value.nd rfl (Or.inl rfl) (pe_op op_mod (pe_callTy call_int1 (by rfl) (g.free c.free_int) boot_int (pa_cons (pe_op op_add (pe_op op_mul (pv 3) (pv 2)) (pe_ix ix_sq (pv 1) (pv 4) (fun _ _ => rfl))) pa_nil)) (pv 0)))))
      (pss_one (ps_ret (pv 3)))))
  ), ?_⟩
  refine ⟨_, rfl, a, _, rfl, ha, _, _, rfl, rfl, _, rfl, _, rfl, _, _, _, _, rfl, RgC.neg (by simp; omega) (by simp; omega) (by decide) (by decide), ?_⟩
  refine for_it walk_rangeC (fun i σ H' => H' = H ∧ ∃ o, σ = [some (.int p), some (.ref a), some (.int x), some (.int (pval p x (ns.drop (ns.length - i)))), o]) ⟨rfl, none, by rw [Nat.sub_zero, List.drop_length]; rfl⟩ (fun _ _ _ _ _ => trivial) ?_ ?_
  · rintro i y σ H2 H3 hi ⟨rfl, o, rfl⟩ ⟨rfl, rfl⟩
    have hi' : i < ns.length := by
      have := hi
      simp at this
      omega
    have r := pval_range hp x (ns.drop (ns.length - i))
    have ei : (((ns.map V.int).length : Nat) : Int) - 1 + (i : Nat) * (-1 : Int) = ((ns.length - 1 - i : Nat) : Int) := by
      rw [List.length_map]
      omega
    have hk : ns.length - 1 - i < ns.length := by omega
    refine ⟨_, rfl, _, rfl, _, _, rfl, rfl, .inl ⟨by omega, by omega⟩, _, rfl, _, rfl, a, _, _, .int (ns[ns.length - 1 - i]), rfl, rfl, ha, ?_, ?_⟩
    · rw [ei]
      refine atI_nat ?_
      rw [List.getElem?_map, List.getElem?_eq_getElem hk]
      rfl
    · refine ⟨_, _, rfl, rfl, .inl ⟨_, rfl, _, rfl, _, _, rfl, rfl, hp, rfl, some (.int ((((ns.map V.int).length : Nat) : Int) - 1 + (i : Nat) * (-1 : Int))), ?_⟩⟩
      have e : ns.drop (ns.length - (i + 1)) = ns[ns.length - 1 - i] :: ns.drop (ns.length - i) := by
        have e1 : ns.length - (i + 1) = ns.length - 1 - i := by omega
        have e2 : ns.length - i = ns.length - 1 - i + 1 := by omega
        rw [e1, e2, List.drop_eq_getElem_cons hk]
      rw [e]
      rfl
  · rintro σ H2 ⟨rfl, o, rfl⟩
    refine ⟨_, rfl, ?_⟩
    have e : ns.length - ((((ns.map V.int).length : Nat) : Int) - 1 - -1).toNat = 0 := by
      rw [List.length_map]
      omega
    rw [e]
    exact q
end
end SU

namespace SU
open PySem PySem.Spec PyProof.Rows L2
section
variable {P : Program} {w : World} {K : Frag} {mg : Str → Option Value} {base : Heap}
/-- the pool made of the script -/
def spPool (K : Frag) : Sp := fun vs H Q _ => ∃ (a : Addr) (ns : List Int) (m : Int), vs = [.ref a, .int m] ∧ SqL K H a (ns.map V.int) ∧ ns.length ≤ 63 ∧ 0 ≤ m ∧ m ≤ 1000000 ∧ ∀ p H', Same H H' → H p = none → Pool H' p → Q (.ref p) H'
theorem cal__law_pool (g : Glob P K mg) (c : Says K) : Cal P w K mg base 1 s__law_pool ["script", "many"] "_law_pool" (spPool K) := by
  refine calG (g.glo c.glo__law_pool) c.def__law_pool sc__law_pool (fun vs H Q E h => by obtain ⟨_, _, _, rfl, _⟩ := h; rfl) ?_
  intro cdv A outer s H vs Q E hr h
  obtain ⟨a, ns, m, rfl, ha, hn, hm0, hm1, q⟩ := h
  refine ⟨_, (
(pss_cons (ps_set (i := 2) sc__law_pool.nd rfl (Or.inl rfl) (pe_lst pa_nil))
      (pss_cons (ps_set (i := 3) sc__law_pool.nd rfl (Or.inl rfl) pe_int)
      (pss_cons (ps_for PassesOwn.never rfl (pi_list (pv 0)) (pg_name (i := 4) sc__law_pool.nd rfl (Or.inl rfl))
      (pss_cons (ps_set (i := 5) sc__law_pool.nd rfl (Or.inl rfl) (pe_callB call_abs (by rfl) (g.free c.free_abs) boot_abs (pa_cons (pe_callTy call_int1 (by rfl) (g.free c.free_int) boot_int (pa_cons (pv 4) pa_nil)) pa_nil)))
      (pss_cons (ps_if (pt_cmpR op_ge (pv 5) (pe_op op_pow pe_int pe_int) (nomark _))
      (pss_one (ps_for PassesOwn.never rfl (pi_range1 (by rfl) (g.free c.free_range) (pa_cons pe_int pa_nil)) (pg_name (i := 6) sc__law_pool.nd rfl (Or.inl rfl))
      (pss_cons (ps_if (PW.pt (pw_or (pt_cmpR op_eq (pv 5) pe_int (nomark _)) (pw_or1 (pt_cmpR op_ge (pe_callB call_len_seq (by rfl) (g.free c.free_len) PySem.boot_len (pa_cons (pv 2) pa_nil)) (pv 1) (nomark _)))))
      (pss_one ps_break) pss_nil)
      (pss_cons (ps_expr (pe_bm PySem.F.plainAttrs_list PySem.F.slot_list_append PySem.F.type_list_append mt_append (pv 2) (pa_cons (pe_op op_mod (pe_callTy call_int1 (by rfl) (g.free c.free_int) boot_int (pa_cons (pv 5) pa_nil)) pe_int) pa_nil)))
      (pss_one (ps_set (i := 5) sc__law_pool.nd rfl (Or.inl rfl) (pe_op op_fdiv (pv 5) pe_int))))))) (pss_cons (ps_set (i := 7) sc__law_pool.nd rfl (Or.inl rfl) (pe_op op_mod (pe_callTy call_int1 (by rfl) (g.free c.free_int) boot_int (pa_cons (pe_op op_add (pe_op op_add (pe_op op_mul (pe_callTy call_int1 (by rfl) (g.free c.free_int) boot_int (pa_cons (pv 4) pa_nil)) pe_int) (pe_op op_mul pe_int (pe_callB call_len_seq (by rfl) (g.free c.free_len) PySem.boot_len (pa_cons (pv 2) pa_nil)))) pe_int) pa_nil)) pe_int))
      (pss_one (ps_expr (pe_bm PySem.F.plainAttrs_list PySem.F.slot_list_append PySem.F.type_list_append mt_append (pv 2) (pa_cons (pe_op op_mod (pe_callTy call_int1 (by rfl) (g.free c.free_int) boot_int (pa_cons (pe_op op_add (pe_op op_fdiv (pv 7) pe_int) (pe_op op_mul (pv 7) pe_int)) pa_nil)) pe_int) pa_nil))))))
      (pss_one (ps_set (i := 3) sc__law_pool.nd rfl (Or.inl rfl) (pe_op op_mod (pe_callTy call_int1 (by rfl) (g.free c.free_int) boot_int (pa_cons (pe_op op_add (pe_op op_mul (pv 3) pe_int) (pe_callTy call_int1 (by rfl) (g.free c.free_int) boot_int (pa_cons (pv 4) pa_nil))) pa_nil)) pe_int))))))
      (pss_cons (ps_for PassesOwn.never rfl (pi_range1 (by rfl) (g.free c.free_range) (pa_cons (pv 1) pa_nil)) (pg_name (i := 6) sc__law_pool.nd rfl (Or.inl rfl))
      (pss_cons (ps_if (pt_cmpR op_ge (pe_callB call_len_seq (by rfl) (g.free c.free_len) PySem.boot_len (pa_cons (pv 2) pa_nil)) (pv 1) (nomark _))
      (pss_one ps_break) pss_nil)
      (pss_cons (ps_set (i := 3) sc__law_pool.nd rfl (Or.inl rfl) (pe_op op_mod (pe_callTy call_int1 (by rfl) (g.free c.free_int) boot_int (pa_cons (pe_op op_add (pe_op op_add (pe_op op_mul (pv 3) pe_int) (pe_op op_mul pe_int (pv 6))) pe_int) pa_nil)) pe_int))
      (pss_one (ps_expr (pe_bm PySem.F.plainAttrs_list PySem.F.slot_list_append PySem.F.type_list_append mt_append (pv 2) (pa_cons (pe_op op_mod (pe_callTy call_int1 (by rfl) (g.free c.free_int) boot_int (pa_cons (pe_op op_fdiv (pv 3) pe_int) pa_nil)) pe_int) pa_nil)))))))
      (pss_cons (ps_expr (pe_bm0 PySem.F.plainAttrs_list PySem.F.slot_list_reverse PySem.F.type_list_reverse mt_reverse (pv 2)))
      (pss_one (ps_ret (pv 2))))))))
  ), ?_⟩
  refine ⟨by decide, fun p hp => ?_⟩
  have sz : (1000000 : Nat) + 4000 < sizeLine := by rw [sizeLine_eq]; decide
  refine ⟨_, rfl, a, rfl, ⟨_, sqL_same (Same.new hp) ha⟩, ?_⟩
  refine for_it (walk_list (xs := ns.map V.int)) (fun i σ H' => ∃ (t : Int) (o4 o5 o6 o7 : Option V) (qs : List Int), σ = [some (.ref a), some (.int m), some (.ref p), some (.int t), o4, o5, o6, o7] ∧ H' p = some (.lst (qs.map V.int)) ∧ qs.length ≤ 60 * i ∧ Same H H')
    ⟨7, none, none, none, none, [], rfl, upd_same, by simp, Same.new hp⟩ (fun i σ H' _ ⟨_, _, _, _, _, _, _, _, _, z⟩ => sqL_same z ha) ?_ ?_
  · rintro i x σ H1 H2 hi ⟨t, o4, o5, o6, o7, qs, rfl, hq, hl, sm⟩ ⟨rfl, hx⟩
    have hi63 : i < 63 := by
      have : i < ns.length := by simpa using hi
      omega
    obtain ⟨n, rfl⟩ : ∃ n : Int, x = .int n := by
      rw [List.getElem?_map] at hx
      obtain ⟨n, _, e⟩ := Option.map_eq_some_iff.mp hx
      exact ⟨n, e.symm⟩
    refine ⟨_, rfl, .inl ⟨_, rfl, _, rfl, ?_⟩⟩
    generalize (if n < 0 then -n else n) = r
    refine ⟨_, rfl, _, _, rfl, rfl, ⟨by decide, by decide, by decide⟩, _, _, rfl, rfl, _, rfl, ?_⟩
    cases hc : decide (r ≥ 10 ^ (18 : Int).toNat) with
    | true =>
      refine ifT rfl ⟨_, rfl, by decide, by decide, ?_⟩
      refine for_it walk_range (fun j σ H' => ∃ (r : Int) (o6 : Option V) (qs : List Int), σ = [some (.ref a), some (.int m), some (.ref p), some (.int t), some (.int n), some (.int r), o6, o7] ∧ H' p = some (.lst (qs.map V.int)) ∧ qs.length ≤ 60 * i + j ∧ Same H H')
        ⟨r, o6, qs, rfl, hq, hl, sm⟩ (fun _ _ _ _ _ => trivial) ?_ ?_
      · rintro j x σ H1 H2 hj ⟨r, o6, qs, rfl, hq, hl, sm⟩ ⟨rfl, rfl⟩
        have hj' : j < 60 := hj
        refine ⟨_, rfl, rfl, _, rfl, ?_⟩
        cases hz : decide (V.int r = V.int 0) with
        | true =>
          refine ifT rfl (ifT rfl ?_)
          refine ⟨_, rfl, _, _, rfl, rfl, .inr ⟨by decide, by decide⟩, _, rfl, .inl ⟨_, rfl, _, _, rfl, rfl, .inl ⟨_, rfl, _, _, rfl, rfl, by show (0 : Int) < _; decide, ?_⟩⟩⟩
          exact ⟨_, _, _, _, _, qs, rfl, hq, by omega, sm⟩
        | false =>
          refine ifF rfl ⟨_, rfl, p, _, rfl, .inl (.inl (.inl hq)), _, rfl, _, _, rfl, rfl, _, rfl, ?_⟩
          cases hy : decide (m ≤ (((qs.map V.int).length : Nat) : Int)) with
          | true =>
            refine ifT rfl ?_
            refine ⟨_, rfl, _, _, rfl, rfl, .inr ⟨by decide, by decide⟩, _, rfl, .inl ⟨_, rfl, _, _, rfl, rfl, .inl ⟨_, rfl, _, _, rfl, rfl, by show (0 : Int) < _; decide, ?_⟩⟩⟩
            exact ⟨_, _, _, _, _, qs, rfl, hq, by omega, sm⟩
          | false =>
            refine ifF rfl ⟨_, rfl, tyL hq, _, rfl, .inl ⟨_, rfl, _, _, rfl, rfl, by show (0 : Int) < _; decide, p, _, _, rfl, rfl, hq, by simp; omega, ?_⟩⟩
            refine ⟨_, rfl, _, _, rfl, rfl, ⟨by decide, by decide⟩, ?_⟩
            exact ⟨_, _, qs ++ [_], rfl, by rw [upd_same, List.map_append]; rfl, by simp; omega, Same.set sm hp⟩
      · rintro σ H1 ⟨r, o6, qs, rfl, hq, hl, sm⟩
        refine ⟨_, rfl, _, _, rfl, rfl, .inr ⟨by decide, by decide⟩, _, rfl, .inl ⟨_, rfl, _, _, rfl, rfl, .inl ⟨_, rfl, _, _, rfl, rfl, by show (0 : Int) < _; decide, ?_⟩⟩⟩
        exact ⟨_, _, _, _, _, qs, rfl, hq, Nat.le_trans hl (by show 60 * i + 60 ≤ 60 * (i + 1); omega), sm⟩
    | false =>
      refine ifF rfl ?_
      refine ⟨_, rfl, .inl ⟨_, rfl, _, _, rfl, rfl, .inr ⟨by decide, by decide⟩, _, rfl, p, _, rfl, .inl (.inl (.inl hq)), _, _, rfl, rfl, .inl ⟨by decide, by decide⟩, _, _, rfl, rfl, _, _, rfl, rfl, .inl ⟨_, rfl, _, _, rfl, rfl, by show (0 : Int) < _; decide, ?_⟩⟩⟩
      refine ⟨_, rfl, tyL hq, _, rfl, _, _, rfl, rfl, ⟨by decide, by decide⟩, _, rfl, _, _, rfl, rfl, .inr ⟨by decide, by decide⟩, _, _, rfl, rfl, .inl ⟨_, rfl, _, _, rfl, rfl, by show (0 : Int) < _; decide, p, _, _, rfl, rfl, hq, by simp; omega, ?_⟩⟩
      refine ⟨_, rfl, _, _, rfl, rfl, .inr ⟨by decide, by decide⟩, _, rfl, .inl ⟨_, rfl, _, _, rfl, rfl, .inl ⟨_, rfl, _, _, rfl, rfl, by show (0 : Int) < _; decide, ?_⟩⟩⟩
      exact ⟨_, _, _, _, _, qs ++ [_], rfl, by rw [upd_same, List.map_append]; rfl, by simp; omega, Same.set sm hp⟩
  · rintro σ H1 ⟨t, o4, o5, o6, o7, qs, rfl, hq, hl, sm⟩
    have hl0 : qs.length ≤ 3780 := by
      have : 60 * (ns.map V.int).length ≤ 60 * 63 := Nat.mul_le_mul_left 60 (by simpa using hn)
      omega
    refine ⟨_, rfl, m, rfl, by omega, by omega, ?_⟩
    have fin : ∀ (t : Int) (o4 o5 o6 o7 : Option V) (qs : List Int) (H' : Hp), H' p = some (.lst (qs.map V.int)) → Same H H' → ∃ v, [some (V.ref a), some (.int m), some (.ref p), some (.int t), o4, o5, o6, o7][2]? = some (some v) ∧ tyV K "list" v H' ∧ rReverse v [] H' fun _ H2 => ∃ v, [some (V.ref a), some (.int m), some (.ref p), some (.int t), o4, o5, o6, o7][2]? = some (some v) ∧ Q v H2 :=
      fun t o4 o5 o6 o7 qs H' hq sm => ⟨_, rfl, tyL hq, p, _, rfl, rfl, hq, _, rfl, q p _ (Same.set sm hp) hp ⟨qs.reverse, by rw [upd_same, List.map_reverse]⟩⟩
    refine for_it walk_range (fun j σ H' => ∃ (t : Int) (o4 o5 o6 o7 : Option V) (qs : List Int), σ = [some (.ref a), some (.int m), some (.ref p), some (.int t), o4, o5, o6, o7] ∧ H' p = some (.lst (qs.map V.int)) ∧ qs.length ≤ 3780 + j ∧ Same H H')
      ⟨t, o4, o5, o6, o7, qs, rfl, hq, hl0, sm⟩ (fun _ _ _ _ _ => trivial) ?_ ?_
    · rintro j x σ H1 H2 hj ⟨t, o4, o5, o6, o7, qs, rfl, hq, hl, sm⟩ ⟨rfl, rfl⟩
      have hj' : j < 1000000 := by omega
      refine ⟨_, rfl, p, _, rfl, .inl (.inl (.inl hq)), _, rfl, _, _, rfl, rfl, _, rfl, ?_⟩
      cases hy : decide (m ≤ (((qs.map V.int).length : Nat) : Int)) with
      | true => exact ifT rfl (fin _ _ _ _ _ qs _ hq sm)
      | false =>
        refine ifF rfl ⟨_, rfl, _, _, rfl, rfl, .inr ⟨by decide, by decide⟩, _, rfl, _, _, rfl, rfl, .inl ⟨by decide, by decide⟩, _, _, rfl, rfl, _, _, rfl, rfl, .inl ⟨_, rfl, _, _, rfl, rfl, by show (0 : Int) < _; decide, ?_⟩⟩
        refine ⟨_, rfl, tyL hq, _, rfl, _, _, rfl, rfl, ⟨by decide, by decide⟩, .inl ⟨_, rfl, _, _, rfl, rfl, by show (0 : Int) < _; decide, p, _, _, rfl, rfl, hq, by simp; omega, ?_⟩⟩
        exact ⟨_, _, _, _, _, qs ++ [_], rfl, by rw [upd_same, List.map_append]; rfl, by simp; omega, Same.set sm hp⟩
    · rintro σ H1 ⟨t, o4, o5, o6, o7, qs, rfl, hq, hl, sm⟩
      exact fin _ _ _ _ _ qs _ hq sm
end
end SU

namespace SU
open PySem PySem.Spec PyProof.Rows L2
open L2H (ps_forH pi_range1H)
section
variable {P : Program} {w : World} {K : Frag} {mg : Str → Option Value} {base : Heap}
theorem cal__law_same (g : Glob P K mg) (c : Says K) : ∀ n, Cal P w K mg base n s__law_same ["told", "due"] "_law_same" (spSame n K) := by
  intro n
  induction n with
  | zero =>
    obtain ⟨fd, F, b⟩ := c.def__law_same
    have no : ∀ {vs H Q E}, ¬ spSame 0 K vs H Q E := fun ⟨_, _, _, _, z, _⟩ => by cases z
    exact ⟨_, fd, ⟨fun vs H Q E h => (no h).elim, fun A outer s H args us vs Q E _ _ _ _ h => (no h).elim⟩, g.glo c.glo__law_same, F, b⟩
  | succ n ih =>
    refine calG (g.glo c.glo__law_same) c.def__law_same sc__law_same (fun vs H Q E h => by obtain ⟨_, _, _, rfl, _⟩ := h; rfl) ?_
    intro cdv A outer s H vs Q E hr h
    obtain ⟨v, u, d, rfl, hd, hv, hu, q⟩ := h
    refine ⟨_, (
(pss_cons (ps_if (pt_val (pe_callB call_isDT (by rfl) (g.free c.free_isinstance) boot_isinstance (pa_cons (pv 1) (pa_cons (pe_tup (pa_cons (pe_bltn (v := .ty "tuple") (u := .type "tuple") (by rfl) (g.free c.free_tuple) (by decide +kernel) rfl) (pa_cons (pe_bltn (v := .ty "list") (u := .type "list") (by rfl) (g.free c.free_list) (by decide +kernel) rfl) pa_nil))) pa_nil))))
      (pss_cons (ps_if (PW.pt (pw_or (pt_not (pt_val (pe_callB call_isDT (by rfl) (g.free c.free_isinstance) boot_isinstance (pa_cons (pv 0) (pa_cons (pe_tup (pa_cons (pe_bltn (v := .ty "tuple") (u := .type "tuple") (by rfl) (g.free c.free_tuple) (by decide +kernel) rfl) (pa_cons (pe_bltn (v := .ty "list") (u := .type "list") (by rfl) (g.free c.free_list) (by decide +kernel) rfl) pa_nil))) pa_nil))))) (pw_or1 (pt_cmpR op_ne (pe_callB call_isD (by rfl) (g.free c.free_isinstance) boot_isinstance (pa_cons (pv 0) (pa_cons (pe_bltn (v := .ty "list") (u := .type "list") (by rfl) (g.free c.free_list) (by decide +kernel) rfl) pa_nil))) (pe_callB call_isD (by rfl) (g.free c.free_isinstance) boot_isinstance (pa_cons (pv 1) (pa_cons (pe_bltn (v := .ty "list") (u := .type "list") (by rfl) (g.free c.free_list) (by decide +kernel) rfl) pa_nil))) (nomark _)))))
      (pss_one (ps_ret pe_bl)) pss_nil)
      (pss_cons (ps_if (pt_cmpR op_ne (pe_callB call_len_seq (by rfl) (g.free c.free_len) PySem.boot_len (pa_cons (pv 0) pa_nil)) (pe_callB call_len_seq (by rfl) (g.free c.free_len) PySem.boot_len (pa_cons (pv 1) pa_nil)) (nomark _))
      (pss_one (ps_ret pe_bl)) pss_nil)
      (pss_cons (ps_for PassesOwn.never rfl (pi_range1 (by rfl) (g.free c.free_range) (pa_cons (pe_callB call_len_seq (by rfl) (g.free c.free_len) PySem.boot_len (pa_cons (pv 1) pa_nil)) pa_nil)) (pg_name (i := 2) sc__law_same.nd rfl (Or.inl rfl))
      (pss_one (ps_if (pt_not (pt_val (pe_c (ih) hr (Nat.le_refl _) (by rfl) (pa_cons (pe_ix ix_sq (pv 0) (pv 2) (fun _ _ => rfl)) (pa_cons (pe_ix ix_sq (pv 1) (pv 2) (fun _ _ => rfl)) pa_nil)))))
      (pss_one (ps_ret pe_bl)) pss_nil)))
      (pss_one (ps_ret pe_bl))))) pss_nil)
      (pss_cons (ps_if (pt_cmpR op_isN (pv 1) pe_non (nomark _))
      (pss_one (ps_ret (pe_cmpR op_isN (pv 0) pe_non (nomark _)))) pss_nil)
      (pss_cons (ps_if (pt_val (pe_callB call_isD (by rfl) (g.free c.free_isinstance) boot_isinstance (pa_cons (pv 1) (pa_cons (pe_bltn (v := .ty "bool") (u := .type "bool") (by rfl) (g.free c.free_bool) (by decide +kernel) rfl) pa_nil))))
      (pss_one (ps_ret (pe_and (pe_callB call_isD (by rfl) (g.free c.free_isinstance) boot_isinstance (pa_cons (pv 0) (pa_cons (pe_bltn (v := .ty "bool") (u := .type "bool") (by rfl) (g.free c.free_bool) (by decide +kernel) rfl) pa_nil))) (pe_one (pe_cmpR op_eq (pv 0) (pv 1) (nomark _)))))) pss_nil)
      (pss_cons (ps_if (pt_val (pe_callB call_isD (by rfl) (g.free c.free_isinstance) boot_isinstance (pa_cons (pv 1) (pa_cons (pe_bltn (v := .ty "str") (u := .type "str") (by rfl) (g.free c.free_str) (by decide +kernel) rfl) pa_nil))))
      (pss_one (ps_ret (pe_and (pe_callB call_isD (by rfl) (g.free c.free_isinstance) boot_isinstance (pa_cons (pv 0) (pa_cons (pe_bltn (v := .ty "str") (u := .type "str") (by rfl) (g.free c.free_str) (by decide +kernel) rfl) pa_nil))) (pe_one (pe_cmpR op_eq (pv 0) (pv 1) (nomark _)))))) pss_nil)
      (pss_one (ps_ret (pe_and (pe_callB call_isD (by rfl) (g.free c.free_isinstance) boot_isinstance (pa_cons (pv 0) (pa_cons (pe_bltn (v := .ty "int") (u := .type "int") (by rfl) (g.free c.free_int) (by decide +kernel) rfl) pa_nil))) (pe_and (pe_not (pe_callB call_isD (by rfl) (g.free c.free_isinstance) boot_isinstance (pa_cons (pv 0) (pa_cons (pe_bltn (v := .ty "bool") (u := .type "bool") (by rfl) (g.free c.free_bool) (by decide +kernel) rfl) pa_nil)))) (pe_one (pe_cmpR op_eq (pv 0) (pv 1) (nomark _)))))))))))
    ), ?_⟩
    refine ⟨_, rfl, by decide, fun p hp => ?_⟩
    have s1 : Same H (upd H p (.tup [.ty "tuple", .ty "list"])) := Same.new hp
    refine ⟨u, p, ["tuple", "list"], d, rfl, upd_same, by decide, hu.same s1, ?_⟩
    refine ⟨_, rfl, ?_⟩
    cases hd with
    | non =>
      cases hu
      cases hv
      refine ifF rfl ⟨_, rfl, rfl, _, rfl, ifT rfl ⟨_, rfl, rfl, q _ s1⟩⟩
    | bl n b =>
      cases hu
      cases hv
      refine ifF rfl ⟨_, rfl, rfl, _, rfl, ifF rfl ?_⟩
      refine ⟨_, rfl, _, "bool", _, rfl, by decide, .bl b, _, rfl, ifT rfl ?_⟩
      refine ⟨_, rfl, _, "bool", _, rfl, by decide, .bl b, _, rfl, ifT rfl ⟨_, rfl, _, rfl, rfl, ?_⟩⟩
      show Q (.bl (decide (_ = _))) _
      rw [decide_eq_true rfl]
      exact q _ s1
    | int n i =>
      cases hu
      cases hv
      refine ifF rfl ⟨_, rfl, rfl, _, rfl, ifF rfl ?_⟩
      refine ⟨_, rfl, _, "bool", _, rfl, by decide, .int i, _, rfl, ifF rfl ?_⟩
      refine ⟨_, rfl, _, "str", _, rfl, by decide, .int i, _, rfl, ifF rfl ?_⟩
      refine ⟨_, rfl, _, "int", _, rfl, by decide, .int i, _, rfl, ifT rfl ?_⟩
      refine ⟨_, rfl, _, "bool", _, rfl, by decide, .int i, _, rfl, _, rfl, ifT rfl ⟨_, rfl, _, rfl, rfl, ?_⟩⟩
      show Q (.bl (decide (_ = _))) _
      rw [decide_eq_true rfl]
      exact q _ s1
    | str n x =>
      cases hu
      cases hv
      refine ifF rfl ⟨_, rfl, rfl, _, rfl, ifF rfl ?_⟩
      refine ⟨_, rfl, _, "bool", _, rfl, by decide, .str x, _, rfl, ifF rfl ?_⟩
      refine ⟨_, rfl, _, "str", _, rfl, by decide, .str x, _, rfl, ifT rfl ?_⟩
      refine ⟨_, rfl, _, "str", _, rfl, by decide, .str x, _, rfl, ifT rfl ⟨_, rfl, _, rfl, rfl, ?_⟩⟩
      show Q (.bl (decide (_ = _))) _
      rw [decide_eq_true rfl]
      exact q _ s1
    | lst hds hl | tup hds hl =>
      obtain ⟨a, xs, rfl, ha, ra⟩ := Rep.seq (by first | exact .inl hv | exact .inr hv)
      obtain ⟨b, ys, rfl, hb, rb⟩ := Rep.seq (by first | exact .inl hu | exact .inr hu)
      have la := ra.length
      have lb := rb.length
      refine ifT rfl ⟨_, rfl, by decide, fun p2 hp2 => ?_⟩
      have s2 : Same H (upd (upd H p (.tup [.ty "tuple", .ty "list"])) p2 (.tup [.ty "tuple", .ty "list"])) := s1.trans (Same.new hp2)
      refine ⟨_, p2, ["tuple", "list"], _, rfl, upd_same, by decide, hv.same s2, _, rfl, ifF rfl ?_⟩
      refine ⟨_, rfl, _, "list", _, rfl, by decide, hv.same s2, _, rfl, _, "list", _, rfl, by decide, hu.same s2, rfl, _, rfl, ifF rfl ?_⟩
      refine ⟨_, rfl, a, xs, rfl, ha.same s2, _, rfl, b, ys, rfl, hb.same s2, rfl, _, rfl, ifF ?_ ?_⟩
      · rw [la, lb]
        simp
      refine ⟨_, rfl, b, ys, rfl, hb.same s2, _, rfl, by omega, by omega, ?_⟩
      refine for_it walk_range (fun i σ H' => ∃ o, σ = [some (.ref a), some (.ref b), o] ∧ Same H H') ⟨_, rfl, s2⟩ (fun _ _ _ _ _ => trivial) ?_ ?_
      · rintro i x σ H1 H2 hi ⟨o, rfl, sm⟩ ⟨rfl, rfl⟩
        have hi' : i < ys.length := by simpa using hi
        have hix : i < xs.length := by omega
        obtain ⟨e, he, r2⟩ := rb.getV (List.getElem?_eq_getElem hi')
        obtain ⟨v1, hv1, r1⟩ := ra.get he
        have ei : (0 : Int) + (i : Nat) = (i : Nat) := by omega
        refine ⟨_, rfl, _, rfl, a, xs, _, v1, rfl, rfl, ha.same sm, by rw [ei]; exact atI_nat hv1, ?_⟩
        refine ⟨_, rfl, _, rfl, b, ys, _, ys[i], rfl, rfl, hb.same sm, by rw [ei]; exact atI_nat (List.getElem?_eq_getElem hi'), ?_⟩
        refine ⟨v1, ys[i], e, rfl, hds e (List.mem_of_getElem? he), r1.same sm, r2.same sm, fun H3 s3 => ?_⟩
        exact ⟨_, rfl, ifF rfl ⟨_, rfl, sm.trans s3⟩⟩
      · rintro σ H1 ⟨o, rfl, sm⟩
        exact q _ sm
theorem cal__law_sameH (g : Glob P K mg) (c : Says K) : ∀ n, CalH P w K mg base CX0 n "_law_same" (fun _ => spSame n K) := by
  intro n
  induction n with
  | zero =>
    obtain ⟨fd, F, b⟩ := c.def__law_same
    have no : ∀ {vs H Q E}, ¬ spSame 0 K vs H Q E := fun ⟨_, _, _, _, z, _⟩ => by cases z
    exact ⟨_, fd, _, ⟨fun p vs H Q E h => (no h).elim, fun A outer s H args us vs Q E p _ _ _ _ _ _ h => (no h).elim⟩, g.glo c.glo__law_same, F.kp, b⟩
  | succ n ih =>
    refine calH (g.glo c.glo__law_same) c.def__law_same sc__law_same (fun p vs H Q E h => by obtain ⟨_, _, _, rfl, _⟩ := h; rfl) ?_
    intro cdv A outer s H vs Q E pe hot hr h hp
    have hhot := hp.hot
    obtain ⟨v, u, d, rfl, hd, hv, hu, q⟩ := h
    refine ⟨_, (
(pss_cons (ps_if (pt_val (pe_callB call_isDT (by rfl) (g.free c.free_isinstance) boot_isinstance (pa_cons (pv 1) (pa_cons (pe_tup (pa_cons (pe_bltn (v := .ty "tuple") (u := .type "tuple") (by rfl) (g.free c.free_tuple) (by decide +kernel) rfl) (pa_cons (pe_bltn (v := .ty "list") (u := .type "list") (by rfl) (g.free c.free_list) (by decide +kernel) rfl) pa_nil))) pa_nil))))
      (pss_cons (ps_if (PW.pt (pw_or (pt_not (pt_val (pe_callB call_isDT (by rfl) (g.free c.free_isinstance) boot_isinstance (pa_cons (pv 0) (pa_cons (pe_tup (pa_cons (pe_bltn (v := .ty "tuple") (u := .type "tuple") (by rfl) (g.free c.free_tuple) (by decide +kernel) rfl) (pa_cons (pe_bltn (v := .ty "list") (u := .type "list") (by rfl) (g.free c.free_list) (by decide +kernel) rfl) pa_nil))) pa_nil))))) (pw_or1 (pt_cmpR op_ne (pe_callB call_isD (by rfl) (g.free c.free_isinstance) boot_isinstance (pa_cons (pv 0) (pa_cons (pe_bltn (v := .ty "list") (u := .type "list") (by rfl) (g.free c.free_list) (by decide +kernel) rfl) pa_nil))) (pe_callB call_isD (by rfl) (g.free c.free_isinstance) boot_isinstance (pa_cons (pv 1) (pa_cons (pe_bltn (v := .ty "list") (u := .type "list") (by rfl) (g.free c.free_list) (by decide +kernel) rfl) pa_nil))) (nomark _)))))
      (pss_one (ps_ret pe_bl)) pss_nil)
      (pss_cons (ps_if (pt_cmpR op_ne (pe_callB call_len_seq (by rfl) (g.free c.free_len) PySem.boot_len (pa_cons (pv 0) pa_nil)) (pe_callB call_len_seq (by rfl) (g.free c.free_len) PySem.boot_len (pa_cons (pv 1) pa_nil)) (nomark _))
      (pss_one (ps_ret pe_bl)) pss_nil)
      (pss_cons (ps_forH PassesOwn.never hhot (pi_range1H (by rfl) (g.free c.free_range) (pa_cons (pe_callB call_len_seq (by rfl) (g.free c.free_len) PySem.boot_len (pa_cons (pv 1) pa_nil)) pa_nil)) (pg_name (i := 2) sc__law_same.nd rfl (Or.inl rfl))
      (pss_one (ps_if (pt_not (pt_val (pe_cHi (ih) hr (Nat.le_refl _) hp (by rfl) (pa_cons (pe_ix ix_sq (pv 0) (pv 2) (fun _ _ => rfl)) (pa_cons (pe_ix ix_sq (pv 1) (pv 2) (fun _ _ => rfl)) pa_nil)))))
      (pss_one (ps_ret pe_bl)) pss_nil)))
      (pss_one (ps_ret pe_bl))))) pss_nil)
      (pss_cons (ps_if (pt_cmpR op_isN (pv 1) pe_non (nomark _))
      (pss_one (ps_ret (pe_cmpR op_isN (pv 0) pe_non (nomark _)))) pss_nil)
      (pss_cons (ps_if (pt_val (pe_callB call_isD (by rfl) (g.free c.free_isinstance) boot_isinstance (pa_cons (pv 1) (pa_cons (pe_bltn (v := .ty "bool") (u := .type "bool") (by rfl) (g.free c.free_bool) (by decide +kernel) rfl) pa_nil))))
      (pss_one (ps_ret (pe_and (pe_callB call_isD (by rfl) (g.free c.free_isinstance) boot_isinstance (pa_cons (pv 0) (pa_cons (pe_bltn (v := .ty "bool") (u := .type "bool") (by rfl) (g.free c.free_bool) (by decide +kernel) rfl) pa_nil))) (pe_one (pe_cmpR op_eq (pv 0) (pv 1) (nomark _)))))) pss_nil)
      (pss_cons (ps_if (pt_val (pe_callB call_isD (by rfl) (g.free c.free_isinstance) boot_isinstance (pa_cons (pv 1) (pa_cons (pe_bltn (v := .ty "str") (u := .type "str") (by rfl) (g.free c.free_str) (by decide +kernel) rfl) pa_nil))))
      (pss_one (ps_ret (pe_and (pe_callB call_isD (by rfl) (g.free c.free_isinstance) boot_isinstance (pa_cons (pv 0) (pa_cons (pe_bltn (v := .ty "str") (u := .type "str") (by rfl) (g.free c.free_str) (by decide +kernel) rfl) pa_nil))) (pe_one (pe_cmpR op_eq (pv 0) (pv 1) (nomark _)))))) pss_nil)
      (pss_one (ps_ret (pe_and (pe_callB call_isD (by rfl) (g.free c.free_isinstance) boot_isinstance (pa_cons (pv 0) (pa_cons (pe_bltn (v := .ty "int") (u := .type "int") (by rfl) (g.free c.free_int) (by decide +kernel) rfl) pa_nil))) (pe_and (pe_not (pe_callB call_isD (by rfl) (g.free c.free_isinstance) boot_isinstance (pa_cons (pv 0) (pa_cons (pe_bltn (v := .ty "bool") (u := .type "bool") (by rfl) (g.free c.free_bool) (by decide +kernel) rfl) pa_nil)))) (pe_one (pe_cmpR op_eq (pv 0) (pv 1) (nomark _)))))))))))
    ), ?_⟩
    refine ⟨_, rfl, by decide, fun p hpn => ?_⟩
    have s1 : Same H (upd H p (.tup [.ty "tuple", .ty "list"])) := Same.new hpn
    refine ⟨u, p, ["tuple", "list"], d, rfl, upd_same, by decide, hu.same s1, ?_⟩
    refine ⟨_, rfl, ?_⟩
    cases hd with
    | non =>
      cases hu
      cases hv
      refine ifF rfl ⟨_, rfl, rfl, _, rfl, ifT rfl ⟨_, rfl, rfl, q _ s1⟩⟩
    | bl n b =>
      cases hu
      cases hv
      refine ifF rfl ⟨_, rfl, rfl, _, rfl, ifF rfl ?_⟩
      refine ⟨_, rfl, _, "bool", _, rfl, by decide, .bl b, _, rfl, ifT rfl ?_⟩
      refine ⟨_, rfl, _, "bool", _, rfl, by decide, .bl b, _, rfl, ifT rfl ⟨_, rfl, _, rfl, rfl, ?_⟩⟩
      show Q (.bl (decide (_ = _))) _
      rw [decide_eq_true rfl]
      exact q _ s1
    | int n i =>
      cases hu
      cases hv
      refine ifF rfl ⟨_, rfl, rfl, _, rfl, ifF rfl ?_⟩
      refine ⟨_, rfl, _, "bool", _, rfl, by decide, .int i, _, rfl, ifF rfl ?_⟩
      refine ⟨_, rfl, _, "str", _, rfl, by decide, .int i, _, rfl, ifF rfl ?_⟩
      refine ⟨_, rfl, _, "int", _, rfl, by decide, .int i, _, rfl, ifT rfl ?_⟩
      refine ⟨_, rfl, _, "bool", _, rfl, by decide, .int i, _, rfl, _, rfl, ifT rfl ⟨_, rfl, _, rfl, rfl, ?_⟩⟩
      show Q (.bl (decide (_ = _))) _
      rw [decide_eq_true rfl]
      exact q _ s1
    | str n x =>
      cases hu
      cases hv
      refine ifF rfl ⟨_, rfl, rfl, _, rfl, ifF rfl ?_⟩
      refine ⟨_, rfl, _, "bool", _, rfl, by decide, .str x, _, rfl, ifF rfl ?_⟩
      refine ⟨_, rfl, _, "str", _, rfl, by decide, .str x, _, rfl, ifT rfl ?_⟩
      refine ⟨_, rfl, _, "str", _, rfl, by decide, .str x, _, rfl, ifT rfl ⟨_, rfl, _, rfl, rfl, ?_⟩⟩
      show Q (.bl (decide (_ = _))) _
      rw [decide_eq_true rfl]
      exact q _ s1
    | lst hds hl | tup hds hl =>
      obtain ⟨a, xs, rfl, ha, ra⟩ := Rep.seq (by first | exact .inl hv | exact .inr hv)
      obtain ⟨b, ys, rfl, hb, rb⟩ := Rep.seq (by first | exact .inl hu | exact .inr hu)
      have la := ra.length
      have lb := rb.length
      refine ifT rfl ⟨_, rfl, by decide, fun p2 hp2 => ?_⟩
      have s2 : Same H (upd (upd H p (.tup [.ty "tuple", .ty "list"])) p2 (.tup [.ty "tuple", .ty "list"])) := s1.trans (Same.new hp2)
      refine ⟨_, p2, ["tuple", "list"], _, rfl, upd_same, by decide, hv.same s2, _, rfl, ifF rfl ?_⟩
      refine ⟨_, rfl, _, "list", _, rfl, by decide, hv.same s2, _, rfl, _, "list", _, rfl, by decide, hu.same s2, rfl, _, rfl, ifF rfl ?_⟩
      refine ⟨_, rfl, a, xs, rfl, ha.same s2, _, rfl, b, ys, rfl, hb.same s2, rfl, _, rfl, ifF ?_ ?_⟩
      · rw [la, lb]
        simp
      refine ⟨_, rfl, b, ys, rfl, hb.same s2, _, rfl, by omega, by omega, ?_⟩
      refine for_it walk_range (fun i σ H' => ∃ o, σ = [some (.ref a), some (.ref b), o] ∧ Same H H') ⟨_, rfl, s2⟩ (fun _ _ _ _ _ => trivial) ?_ ?_
      · rintro i x σ H1 H2 hi ⟨o, rfl, sm⟩ ⟨rfl, rfl⟩
        have hi' : i < ys.length := by simpa using hi
        have hix : i < xs.length := by omega
        obtain ⟨e, he, r2⟩ := rb.getV (List.getElem?_eq_getElem hi')
        obtain ⟨v1, hv1, r1⟩ := ra.get he
        have ei : (0 : Int) + (i : Nat) = (i : Nat) := by omega
        refine ⟨_, rfl, _, rfl, a, xs, _, v1, rfl, rfl, ha.same sm, by rw [ei]; exact atI_nat hv1, ?_⟩
        refine ⟨_, rfl, _, rfl, b, ys, _, ys[i], rfl, rfl, hb.same sm, by rw [ei]; exact atI_nat (List.getElem?_eq_getElem hi'), ?_⟩
        refine ⟨v1, ys[i], e, rfl, hds e (List.mem_of_getElem? he), r1.same sm, r2.same sm, fun H3 s3 => ?_⟩
        exact ⟨_, rfl, ifF rfl ⟨_, rfl, sm.trans s3⟩⟩
      · rintro σ H1 ⟨o, rfl, sm⟩
        exact q _ sm
end
end SU

namespace SU
open PySem PySem.Spec PyProof.Rows L2
section
variable {P : Program} {w : World} {K : Frag} {mg : Str → Option Value} {base : Heap}
def spKind (K : Frag) (x : Str) (k : Int) : SpZ := fun a C d vs H Q _ => C = He.ga K x ∧ vs = [.ref a] ∧ (∃ fs, H d = some (.xd fs)) ∧ ∀ H', Same H H' → Q (.int k) H'
/-- the law's kinds: x stands at place k of the six -/
structure KindAt (K : Frag) (x : Str) (k : Nat) : Prop where
  lt : k < 6
  ex : ExcC K (He.ga K x)
  k0 : PySem.W.kitOne K (.ref (He.ga K x)) (.ref (He.ga K "InvalidNumber")) = some (decide (k = 0))
  k1 : PySem.W.kitOne K (.ref (He.ga K x)) (.ref (He.ga K "InvalidPlan")) = some (decide (k = 1))
  k2 : PySem.W.kitOne K (.ref (He.ga K x)) (.ref (He.ga K "InvalidTape")) = some (decide (k = 2))
  k3 : PySem.W.kitOne K (.ref (He.ga K x)) (.ref (He.ga K "InvalidAnswers")) = some (decide (k = 3))
  k4 : PySem.W.kitOne K (.ref (He.ga K x)) (.ref (He.ga K "InvalidLibrary")) = some (decide (k = 4))
  k5 : PySem.W.kitOne K (.ref (He.ga K x)) (.ref (He.ga K "Undefined")) = some (decide (k = 5))
  ve : PySem.W.kitOne K (.ref (He.ga K x)) (.type "ValueError") = some true
  o0 : PySem.W.kitOne K (.ref (He.ga K x)) (.ref (He.ga K "InvalidShare")) = some false
  o1 : PySem.W.kitOne K (.ref (He.ga K x)) (.ref (He.ga K "InvalidMatrix")) = some false
  o2 : PySem.W.kitOne K (.ref (He.ga K x)) (.ref (He.ga K "InvalidText")) = some false
  o3 : PySem.W.kitOne K (.ref (He.ga K x)) (.ref (He.ga K "InvalidLine")) = some false
  o4 : PySem.W.kitOne K (.ref (He.ga K x)) (.ref (He.ga K "UnknownWord")) = some false
  o5 : PySem.W.kitOne K (.ref (He.ga K x)) (.ref (He.ga K "NothingToUndo")) = some false
theorem kit3 {K : Frag} {t c0 c1 c2 : Value} (h0 : PySem.W.kitOne K t c0 = some false) (h1 : PySem.W.kitOne K t c1 = some false) (h2 : PySem.W.kitOne K t c2 = some false) : PySem.W.kitAny K t [c0, c1, c2] = some false :=
  kitAny_cons h0 (fun _ => kitAny_cons h1 (fun _ => kitAny_cons h2 (fun _ => kitAny_nil) (fun z => by cases z)) (fun z => by cases z)) (fun z => by cases z)
theorem cal__law_kind (g : Glob P K mg) (c : Says K) {x : Str} {k : Nat} (ka : KindAt K x k) : CalH P w K mg base CX0 1 "_law_kind" (spZ (spKind K x k)) := by
  refine calH (g.glo c.glo__law_kind) c.def__law_kind sc__law_kind (fun p vs H Q E h => by obtain ⟨_, _, _, _, _, rfl, _⟩ := h; rfl) ?_
  intro cdv A outer s H vs Q E p hot hr h hp
  obtain ⟨C, d, hz, hf, rfl, rfl, ⟨fs, hd⟩, q⟩ := h
  have hhot := hp.hot
  have T : ∀ X : Cx, p ∈ X.pn → ExcP X p (He.ga K x) d := fun X h => ⟨h, hz, hf⟩
  refine ⟨_, (
(pss_cons (ps_set (i := 1) sc__law_kind.nd rfl (Or.inl rfl) (pe_callB (call_isP (T _ hp.2) ka.ex) (by rfl) (g.free c.free_isinstance) boot_isinstance (pa_cons (pv 0) (pa_cons (pe_glob (v := .ref (He.ga K "InvalidNumber")) (by rfl) (g.glo (c.glo_InvalidNumber)) rfl) pa_nil))))
      (pss_cons (ps_set (i := 2) sc__law_kind.nd rfl (Or.inl rfl) (pe_lst (pa_cons (pv 1) (pa_cons (pe_callB (call_isP (T _ hp.2) ka.ex) (by rfl) (g.free c.free_isinstance) boot_isinstance (pa_cons (pv 0) (pa_cons (pe_glob (v := .ref (He.ga K "InvalidPlan")) (by rfl) (g.glo (c.glo_InvalidPlan)) rfl) pa_nil))) (pa_cons (pe_callB (call_isP (T _ hp.2) ka.ex) (by rfl) (g.free c.free_isinstance) boot_isinstance (pa_cons (pv 0) (pa_cons (pe_glob (v := .ref (He.ga K "InvalidTape")) (by rfl) (g.glo (c.glo_InvalidTape)) rfl) pa_nil))) (pa_cons (pe_callB (call_isP (T _ hp.2) ka.ex) (by rfl) (g.free c.free_isinstance) boot_isinstance (pa_cons (pv 0) (pa_cons (pe_glob (v := .ref (He.ga K "InvalidAnswers")) (by rfl) (g.glo (c.glo_InvalidAnswers)) rfl) pa_nil))) pa_nil))))))
      (pss_cons (ps_set (i := 2) sc__law_kind.nd rfl (Or.inl rfl) (pe_op op_cat (pv 2) (pe_lst (pa_cons (pe_callB (call_isP (T _ hp.2) ka.ex) (by rfl) (g.free c.free_isinstance) boot_isinstance (pa_cons (pv 0) (pa_cons (pe_glob (v := .ref (He.ga K "InvalidLibrary")) (by rfl) (g.glo (c.glo_InvalidLibrary)) rfl) pa_nil))) (pa_cons (pe_callB (call_isP (T _ hp.2) ka.ex) (by rfl) (g.free c.free_isinstance) boot_isinstance (pa_cons (pv 0) (pa_cons (pe_glob (v := .ref (He.ga K "Undefined")) (by rfl) (g.glo (c.glo_Undefined)) rfl) pa_nil))) pa_nil)))))
      (pss_cons (ps_if (PW.pt (pw_or (pt_not (pt_val (pe_callB (call_isP (T _ hp.2) ka.ex) (by rfl) (g.free c.free_isinstance) boot_isinstance (pa_cons (pv 0) (pa_cons (pe_bltn (v := .ty "ValueError") (u := .type "ValueError") (by rfl) (g.free c.free_ValueError) (by decide +kernel) rfl) pa_nil))))) (pw_or1 (pt_val (pe_callB (call_isPT (T _ hp.2) ka.ex) (by rfl) (g.free c.free_isinstance) boot_isinstance (pa_cons (pv 0) (pa_cons (pe_tup (pa_cons (pe_glob (v := .ref (He.ga K "InvalidShare")) (by rfl) (g.glo (c.glo_InvalidShare)) rfl) (pa_cons (pe_glob (v := .ref (He.ga K "InvalidMatrix")) (by rfl) (g.glo (c.glo_InvalidMatrix)) rfl) (pa_cons (pe_glob (v := .ref (He.ga K "InvalidText")) (by rfl) (g.glo (c.glo_InvalidText)) rfl) pa_nil)))) pa_nil)))))))
      (pss_one (ps_ret (pe_un un_neg pe_int))) pss_nil)
      (pss_cons (ps_if (PW.pt (pw_or (pt_val (pe_callB (call_isPT (T _ hp.2) ka.ex) (by rfl) (g.free c.free_isinstance) boot_isinstance (pa_cons (pv 0) (pa_cons (pe_tup (pa_cons (pe_glob (v := .ref (He.ga K "InvalidLine")) (by rfl) (g.glo (c.glo_InvalidLine)) rfl) (pa_cons (pe_glob (v := .ref (He.ga K "UnknownWord")) (by rfl) (g.glo (c.glo_UnknownWord)) rfl) (pa_cons (pe_glob (v := .ref (He.ga K "NothingToUndo")) (by rfl) (g.glo (c.glo_NothingToUndo)) rfl) pa_nil)))) pa_nil)))) (pw_or1 (pt_cmpR op_ne (pe_callB call_len_seq (by rfl) (g.free c.free_len) PySem.boot_len (pa_cons (pe_lcH (own := [("one", 3)]) (g := gName 3) hp sc__law_kind.nd (pi_listH (pv 2)) (blkOk_by (own := [("one", 3)]) (N := ["e", "number", "found", "one"]) (sc := defScope s__law_kind) (by decide +kernel)) (fun _ _ _ _ _ => (pg_name (i := 3) sc__law_kind.nd rfl (Or.inl rfl))) (fun _ _ _ _ _ => (pts_one (pt_val (pv 3)))) (fun _ _ _ _ _ => (pv 3))) pa_nil)) pe_int (nomark _)))))
      (pss_one (ps_ret (pe_un un_neg pe_int))) pss_nil)
      (pss_one (ps_ret (pe_bm PySem.F.plainAttrs_list PySem.F.slot_list_index PySem.F.type_list_index mt_index (pv 2) (pa_cons pe_bl pa_nil)))))))))
  ), ?_⟩
  refine ⟨_, rfl, _, _, _, fs, rfl, .own _, hd, ka.k0, ?_⟩
  refine ⟨_, rfl, _, rfl, _, _, _, fs, rfl, .own _, hd, ka.k1, _, rfl, _, _, _, fs, rfl, .own _, hd, ka.k2, _, rfl, _, _, _, fs, rfl, .own _, hd, ka.k3, szl (by simp), fun l0 hl0 => ?_⟩
  have hd1 : upd H l0 (.lst [.bl (decide (k = 0)), .bl (decide (k = 1)), .bl (decide (k = 2)), .bl (decide (k = 3))]) d = some (.xd fs) := Same.new hl0 _ _ hd
  refine ⟨_, rfl, _, rfl, _, _, _, fs, rfl, .own _, hd1, ka.k4, _, rfl, _, _, _, fs, rfl, .own _, hd1, ka.k5, szl (by simp), fun l1 hl1 => ?_⟩
  refine ⟨l0, l1, _, _, rfl, rfl, Same.new hl1 _ _ upd_same, upd_same, szl (by simp), fun l2 hl2 => ?_⟩
  have s2 := ((Same.new (o := .lst [.bl (decide (k = 0)), .bl (decide (k = 1)), .bl (decide (k = 2)), .bl (decide (k = 3))]) hl0).trans (Same.new (o := .lst [.bl (decide (k = 4)), .bl (decide (k = 5))]) hl1)).trans (Same.new (o := .lst ([V.bl (decide (k = 0)), .bl (decide (k = 1)), .bl (decide (k = 2)), .bl (decide (k = 3))] ++ [V.bl (decide (k = 4)), .bl (decide (k = 5))])) hl2)
  have hd2 := s2 _ _ hd
  refine ⟨_, rfl, _, _, _, fs, rfl, .ty _, hd2, ka.ve, _, rfl, ifF rfl ?_⟩
  have e2 : upd (upd (upd H l0 (.lst [.bl (decide (k = 0)), .bl (decide (k = 1)), .bl (decide (k = 2)), .bl (decide (k = 3))])) l1 (.lst [.bl (decide (k = 4)), .bl (decide (k = 5))])) l2 (.lst ([V.bl (decide (k = 0)), .bl (decide (k = 1)), .bl (decide (k = 2)), .bl (decide (k = 3))] ++ [V.bl (decide (k = 4)), .bl (decide (k = 5))])) l2 = some (.lst ([V.bl (decide (k = 0)), .bl (decide (k = 1)), .bl (decide (k = 2)), .bl (decide (k = 3))] ++ [V.bl (decide (k = 4)), .bl (decide (k = 5))])) := upd_same
  have hb : ∀ i < 6, ([V.bl (decide (k = 0)), .bl (decide (k = 1)), .bl (decide (k = 2)), .bl (decide (k = 3))] ++ [V.bl (decide (k = 4)), .bl (decide (k = 5))])[i]? = some (.bl (decide (k = i))) := fun i hi => by
    match i, hi with
    | 0, _ => rfl
    | 1, _ => rfl
    | 2, _ => rfl
    | 3, _ => rfl
    | 4, _ => rfl
    | 5, _ => rfl
  have hfl : ([V.bl (decide (k = 0)), .bl (decide (k = 1)), .bl (decide (k = 2)), .bl (decide (k = 3))] ++ [V.bl (decide (k = 4)), .bl (decide (k = 5))]).all flatV = true := rfl
  have hln : ([V.bl (decide (k = 0)), .bl (decide (k = 1)), .bl (decide (k = 2)), .bl (decide (k = 3))] ++ [V.bl (decide (k = 4)), .bl (decide (k = 5))]).length = 6 := rfl
  revert s2 hd2 e2 hb hfl hln
  generalize ([V.bl (decide (k = 0)), .bl (decide (k = 1)), .bl (decide (k = 2)), .bl (decide (k = 3))] ++ [V.bl (decide (k = 4)), .bl (decide (k = 5))]) = ys
  intro s2 hd2 e2 hb hfl hln
  have hl0 := ka.lt
  refine ⟨_, rfl, szl (by simp), fun t0 ht0 => ⟨t0, _, _, _, fs, rfl, upd_same, .cons (.own _) (.cons (.own _) (.cons (.own _) .nil)), Same.new ht0 _ _ hd2, kit3 ka.o0 ka.o1 ka.o2, _, rfl, ifF rfl ?_⟩⟩
  refine ⟨_, rfl, szl (by simp), fun t1 ht1 => ⟨t1, _, _, _, fs, rfl, upd_same, .cons (.own _) (.cons (.own _) (.cons (.own _) .nil)), Same.new ht1 _ _ (Same.new ht0 _ _ hd2), kit3 ka.o3 ka.o4 ka.o5, _, rfl, ifF rfl ?_⟩⟩
  have s4 := fun o' : HO => (s2.trans (Same.new ht0)).trans (Same.new (o := o') ht1)
  have e4 := Same.new (o := .tup [.ref (He.ga K "InvalidLine"), .ref (He.ga K "UnknownWord"), .ref (He.ga K "NothingToUndo")]) ht1 _ _ (Same.new (o := .tup [.ref (He.ga K "InvalidShare"), .ref (He.ga K "InvalidMatrix"), .ref (He.ga K "InvalidText")]) ht0 _ _ e2)
  refine ⟨_, rfl, l2, _, rfl, .inl (.inl e4), fun D hD => ?_⟩
  refine lc_it walk_sqB (fun i H' => Same H H' ∧ H' l2 = some (.lst ys) ∧ ∃ acc, H' D = some (.lst acc) ∧ acc.length = if k < i then 1 else 0) ⟨(s4 _).trans (Same.new hD), Same.new hD _ _ e4, [], upd_same, rfl⟩ (fun i H' _ z => .inl (.inl z.2.1)) ?_ ?_
  · rintro i y H3 H4 hi ⟨sm, hq, acc, ha, hl⟩ ⟨rfl, hy⟩
    rw [hln] at hi
    rw [hb i hi] at hy
    cases hy
    refine ⟨rfl, _, rfl, _, rfl, ?_⟩
    have hne : l2 ≠ D := fun z => by
      rw [← z, e4] at hD
      cases hD
    by_cases hki : k = i
    · refine ifT (by rw [hki]; exact decide_eq_true rfl) ⟨_, rfl, acc, ha, szm (by rw [hl]; split <;> omega), ?_, ?_, _, upd_same, ?_⟩
      · exact Same.set sm ((s4 _).free hD)
      · rw [upd_ne hne]
        exact hq
      · rw [List.length_append, hl, if_neg (by omega), if_pos (by omega)]
        rfl
    · refine ifF (decide_eq_false hki) ⟨sm, hq, acc, ha, ?_⟩
      rw [hl]
      by_cases h1 : k < i
      · rw [if_pos h1, if_pos (by omega)]
      · rw [if_neg h1, if_neg (by omega)]
  · rintro H3 ⟨sm, hq, acc, ha, hl⟩
    rw [hln, if_pos hl0] at hl
    refine ⟨D, _, rfl, .inl (.inl (.inl ha)), rfl, _, rfl, ifF ?_ ?_⟩
    · rw [hl]
      rfl
    · refine ⟨_, rfl, tyL hq, l2, ys, .bl true, k, .bl true, rfl, rfl, .inl (.inl hq), rfl, hfl, ?_, rfl, ?_, q _ sm⟩
      · rw [hb k hl0, decide_eq_true rfl]
      · intro m z hm ez
        rw [hb m (by omega), decide_eq_false (by omega)] at ez
        cases ez
        rfl
end
end SU

namespace SU
open PySem PySem.Spec PyProof.Rows L2
section
variable {P : Program} {w : World} {K : Frag} {mg : Str → Option Value} {base : Heap}
def intB : PyData → Bool
  | .int _ => true
  | _ => false
def fieldB : PyData → Bool
  | .int i => fields.contains i
  | _ => false
def spIsInt (K : Frag) : Sp := fun vs H Q _ => ∃ v d, vs = [v] ∧ Rep K [] H v d ∧ Q (.bl (intB d)) H
theorem cal_is_integer (g : Glob P K mg) (c : Says K) : Cal P w K mg base 1 s_is_integer ["value"] "is_integer" (spIsInt K) := by
  refine calG (g.glo c.glo_is_integer) c.def_is_integer sc_is_integer (fun vs H Q E h => by obtain ⟨_, _, rfl, _⟩ := h; rfl) ?_
  intro cdv A outer s H vs Q E hr h
  obtain ⟨v, d, rfl, hv, q⟩ := h
  refine ⟨_, (
(pss_one (ps_ret (pe_and (pe_callB call_isD (by rfl) (g.free c.free_isinstance) boot_isinstance (pa_cons (pv 0) (pa_cons (pe_bltn (v := .ty "int") (u := .type "int") (by rfl) (g.free c.free_int) (by decide +kernel) rfl) pa_nil))) (pe_one (pe_not (pe_callB call_isD (by rfl) (g.free c.free_isinstance) boot_isinstance (pa_cons (pv 0) (pa_cons (pe_bltn (v := .ty "bool") (u := .type "bool") (by rfl) (g.free c.free_bool) (by decide +kernel) rfl) pa_nil))))))))
  ), ?_⟩
  refine ⟨_, rfl, _, "int", _, rfl, by decide, hv, _, rfl, ?_⟩
  cases d with
  | int i => exact ifT rfl ⟨_, rfl, _, "bool", _, rfl, by decide, hv, _, rfl, q⟩
  | bool b => exact ifT rfl ⟨_, rfl, _, "bool", _, rfl, by decide, hv, _, rfl, q⟩
  | _ => exact ifF rfl q
def spIsField (K : Frag) : Sp := fun vs H Q _ => ∃ v d, vs = [v] ∧ Rep K [] H v d ∧ Q (.bl (fieldB d)) H
theorem sq_fields (c : Says K) (H : Hp) : SqT K H (He.ga K "FIELDS") (fields.map V.int) := He.tupB_ok c.fields H
theorem inV_ints (i : Int) : ∀ ns : List Int, inV (.int i) (ns.map V.int) = ns.contains i
  | [] => rfl
  | n :: r => by
    have ih := inV_ints i r
    unfold inV at ih ⊢
    rw [List.map_cons, List.any_cons, ih, List.contains_cons]
    congr 1
    show eqV (.int n) (.int i) = (i == n)
    have e : eqV (.int n) (.int i) = (n == i) := rfl
    rw [e]
    by_cases h : n = i
    · subst h
      rfl
    · have h2 : ¬ i = n := fun z => h z.symm
      rw [show (n == i) = false by simpa using h, show (i == n) = false by simpa using h2]
theorem flat_ints : ∀ ns : List Int, (ns.map V.int).all flatV = true
  | [] => rfl
  | n :: r => by rw [List.map_cons, List.all_cons, flat_ints r]; rfl
theorem cal_is_field (g : Glob P K mg) (c : Says K) : Cal P w K mg base 2 s_is_field ["p"] "is_field" (spIsField K) := by
  refine calG (g.glo c.glo_is_field) c.def_is_field sc_is_field (fun vs H Q E h => by obtain ⟨_, _, rfl, _⟩ := h; rfl) ?_
  intro cdv A outer s H vs Q E hr h
  obtain ⟨v, d, rfl, hv, q⟩ := h
  refine ⟨_, (
(pss_one (ps_ret (pe_and (pe_c (cal_is_integer g c) hr (by decide) (by rfl) (pa_cons (pv 0) pa_nil)) (pe_one (pe_cmpR op_in_seq (pv 0) (pe_glob (v := .ref (He.ga K "FIELDS")) (by rfl) (g.glo (c.glo_FIELDS)) rfl) (by with_unfolding_all rfl))))))
  ), ?_⟩
  refine ⟨_, rfl, v, d, rfl, hv, _, rfl, ?_⟩
  cases hv with
  | int i =>
    refine ifT rfl ⟨_, rfl, _, _, rfl, .inr (sq_fields c _), rfl, flat_ints fields, ?_⟩
    rw [inV_ints]
    exact q
  | _ => exact ifF rfl q
def spIsNum : Sp := fun vs H Q _ => ∃ i : Int, vs = [.int i] ∧ Q (.bl (decide (0 ≤ i))) H
theorem cal_is_number (g : Glob P K mg) (c : Says K) : Cal P w K mg base 2 s_is_number ["value"] "is_number" spIsNum := by
  refine calG (g.glo c.glo_is_number) c.def_is_number sc_is_number (fun vs H Q E h => by obtain ⟨_, rfl, _⟩ := h; rfl) ?_
  intro cdv A outer s H vs Q E hr h
  obtain ⟨i, rfl, q⟩ := h
  refine ⟨_, (
(pss_one (ps_ret (pe_and (pe_c (cal_is_integer g c) hr (by decide) (by rfl) (pa_cons (pv 0) pa_nil)) (pe_one (pe_cmpR op_ge (pv 0) pe_int (nomark _))))))
  ), ?_⟩
  exact ⟨_, rfl, _, .int i, rfl, .int i, _, rfl, ifT rfl ⟨_, rfl, _, _, rfl, rfl, q⟩⟩
def spIsLet : Sp := fun vs H Q _ => ∃ i p : Int, vs = [.int i, .int p] ∧ Q (.bl (decide (0 ≤ i ∧ i < p))) H
theorem cal_is_letter (g : Glob P K mg) (c : Says K) : Cal P w K mg base 3 s_is_letter ["value", "p"] "is_letter" spIsLet := by
  refine calG (g.glo c.glo_is_letter) c.def_is_letter sc_is_letter (fun vs H Q E h => by obtain ⟨_, _, rfl, _⟩ := h; rfl) ?_
  intro cdv A outer s H vs Q E hr h
  obtain ⟨i, p, rfl, q⟩ := h
  refine ⟨_, (
(pss_one (ps_ret (pe_and (pe_c (cal_is_number g c) hr (by decide) (by rfl) (pa_cons (pv 0) pa_nil)) (pe_one (pe_cmpR op_lt (pv 0) (pv 1) (nomark _))))))
  ), ?_⟩
  refine ⟨_, rfl, _, rfl, _, rfl, ?_⟩
  by_cases h0 : 0 ≤ i
  · rw [decide_eq_true h0]
    refine ifT rfl ⟨_, rfl, _, rfl, _, _, rfl, rfl, ?_⟩
    have e : decide (i < p) = decide (0 ≤ i ∧ i < p) := by simp [h0]
    show Q (.bl (decide (i < p))) H
    rw [e]
    exact q
  · rw [decide_eq_false h0]
    refine ifF rfl ?_
    show Q (.bl false) H
    have e : false = decide (0 ≤ i ∧ i < p) := by simp [h0]
    rw [e]
    exact q
def spInv : Sp := fun vs H Q _ => ∃ p a : Int, vs = [.int p, .int a] ∧ p ∈ fields ∧ 0 < a ∧ a < p ∧ Q (.int (inv p a)) H
theorem cal_inverse_of (g : Glob P K mg) (c : Says K) : Cal P w K mg base 4 s_inverse_of ["p", "a"] "inverse_of" spInv := by
  refine calG (g.glo c.glo_inverse_of) c.def_inverse_of sc_inverse_of (fun vs H Q E h => by obtain ⟨_, _, rfl, _⟩ := h; rfl) ?_
  intro cdv A outer s H vs Q E hr h
  obtain ⟨p, a, rfl, hp, h0, h1, q⟩ := h
  have hp2 := fields_pos hp
  have hf : fieldB (.int p) = true := by
    show fields.contains p = true
    exact List.contains_iff_mem.mpr hp
  refine ⟨_, (
(pss_cons (ps_if (pt_not (pt_val (pe_c (cal_is_field g c) hr (by decide) (by rfl) (pa_cons (pv 0) pa_nil))))
      (pss_one ps_never) pss_nil)
      (pss_cons (ps_if (pt_not (pt_val (pe_c (cal_is_letter g c) hr (by decide) (by rfl) (pa_cons (pv 1) (pa_cons (pv 0) pa_nil)))))
      (pss_one ps_never) pss_nil)
      (pss_cons (ps_for PassesOwn.never rfl (pi_range2 (by rfl) (g.free c.free_range) (pa_cons pe_int (pa_cons (pv 0) pa_nil))) (pg_name (i := 2) sc_inverse_of.nd rfl (Or.inl rfl))
      (pss_one (ps_if (pt_cmpR op_eq (pe_op op_mod (pe_op op_mul (pv 1) (pv 2)) (pv 0)) pe_int (nomark _))
      (pss_one (ps_ret (pv 2))) pss_nil)))
      (pss_one ps_never))))
  ), ?_⟩
  refine ⟨_, rfl, _, .int p, rfl, .int p, ?_⟩
  rw [hf]
  refine ⟨_, rfl, ifF rfl ⟨_, rfl, _, rfl, _, _, rfl, ?_⟩⟩
  have hl : decide (0 ≤ a ∧ a < p) = true := by simp; omega
  rw [hl]
  refine ⟨_, rfl, ifF rfl ⟨_, rfl, 1, p, rfl, ⟨by omega, by omega, by omega, by omega⟩, ?_⟩⟩
  refine for_it walk_range (fun i σ H' => H' = H ∧ (∃ o, σ = [some (.int p), some (.int a), o]) ∧ ∀ j : Nat, j < i → ¬ a * (1 + (j : Int)) % p = 1) ⟨rfl, ⟨_, rfl⟩, fun j h => by omega⟩ (fun _ _ _ _ _ => trivial) ?_ ?_
  · rintro i x σ H1 H2 hi ⟨rfl, ⟨o, rfl⟩, hno⟩ ⟨rfl, rfl⟩
    have hi' : (1 : Int) + (i : Nat) < p := by omega
    refine ⟨_, rfl, _, rfl, _, _, rfl, rfl, .inl ⟨by omega, by omega⟩, _, rfl, _, _, rfl, rfl, by omega, rfl, _, rfl, ?_⟩
    by_cases he : a * (1 + (i : Int)) % p = 1
    · refine ifT (show decide (V.int (a * (1 + (i : Int)) % p) = V.int 1) = true by rw [he]; rfl) ⟨_, rfl, ?_⟩
      show Q (.int (1 + (i : Nat))) _
      rw [inv_uniq hp h0 h1 (by omega) hi' he]
      exact q
    · have e2 : decide (V.int (a * (1 + (i : Int)) % p) = V.int 1) = false := by simp [he]
      refine ifF e2 ⟨rfl, ⟨_, rfl⟩, fun j hj => ?_⟩
      by_cases hji : j = i
      · rw [hji]; exact he
      · exact hno j (by omega)
  · rintro σ H1 ⟨rfl, ⟨o, rfl⟩, hno⟩
    obtain ⟨i0, i1, i2⟩ := inv_ok hp h0 h1
    have k := hno (inv p a - 1).toNat (by omega)
    have e : (1 : Int) + ((inv p a - 1).toNat : Nat) = inv p a := by omega
    rw [e] at k
    exact absurd i2 k
def spCheck : Sp := fun vs H Q _ => ∃ p : Int, vs = [.int p] ∧ p ∈ fields ∧ Q .non H
theorem cal__check (g : Glob P K mg) (c : Says K) : Cal P w K mg base 3 s__check ["p"] "_check" spCheck := by
  refine calG (g.glo c.glo__check) c.def__check sc__check (fun vs H Q E h => by obtain ⟨_, rfl, _⟩ := h; rfl) ?_
  intro cdv A outer s H vs Q E hr h
  obtain ⟨p, rfl, hp, q⟩ := h
  have hf : fieldB (.int p) = true := by
    show fields.contains p = true
    exact List.contains_iff_mem.mpr hp
  refine ⟨_, (
(pss_one (ps_if (pt_not (pt_val (pe_c (cal_is_field g c) hr (by decide) (by rfl) (pa_cons (pv 0) pa_nil))))
      (pss_one ps_never) pss_nil))
  ), ?_⟩
  refine ⟨_, rfl, _, .int p, rfl, .int p, ?_⟩
  rw [hf]
  exact ⟨_, rfl, ifF rfl q⟩
end
end SU

namespace SU
open PySem PySem.Spec PyProof.Rows L2
section
variable {P : Program} {w : World} {K : Frag} {mg : Str → Option Value} {base : Heap}
/-- what is no field: an error of this value -/
def spBad (n : Nat) (K : Frag) : Sp := fun vs H _ E => ∃ v d rest, vs = v :: rest ∧ rest.length = n ∧ Rep K [] H v d ∧ fieldB d = false ∧
  ∀ dd H', Same H H' → H dd = none → H' dd = some (.xd [("value", v)]) → E (.ref (He.ga K "InvalidNumber")) (some dd) H'
theorem calX__check (g : Glob P K mg) (c : Says K) : CalX P w K mg base 3 "_check" (spBad 0 K) := by
  refine calX (g.glo c.glo__check) c.def__check sc__check (fun vs H Q E h => by obtain ⟨_, _, _, rfl, l, _⟩ := h; simp [l]) ?_
  intro cdv A outer s H vs Q E hr h htk
  obtain ⟨v, d, rest, rfl, hl, hv, hf, q⟩ := h
  obtain rfl : rest = [] := List.length_eq_zero_iff.mp hl
  refine ⟨_, (
(pss_one (ps_if (pt_not (pt_val (pe_c (cal_is_field g c) hr (by decide) (by rfl) (pa_cons (pv 0) pa_nil))))
      (pss_one (L2N.ps_raise rfl htk (pmk_sup1 (sup_InvalidNumber g c) (L2H.roomH_of hr) (pa_cons (pv 0) pa_nil) (by rfl)).pmk)) pss_nil))
  ), ?_⟩
  refine ⟨_, rfl, v, d, rfl, hv, ?_⟩
  rw [hf]
  exact ⟨_, rfl, ifT rfl ⟨_, rfl, v, rfl, fun dd hd => q dd _ (Same.new hd) hd upd_same⟩⟩
theorem calX_value_at (g : Glob P K mg) (c : Says K) : CalX P w K mg base 4 "value_at" (spBad 2 K) := by
  refine calX (g.glo c.glo_value_at) c.def_value_at sc_value_at (fun vs H Q E h => by obtain ⟨_, _, _, rfl, l, _⟩ := h; simp [l]) ?_
  intro cdv A outer s H vs Q E hr h htk
  obtain ⟨v, d, rest, rfl, hl, hv, hf, q⟩ := h
  refine ⟨_, (
(pss_cons (ps_expr (pe_cX htk (calX__check g c) hr (by decide) (by rfl) (pa_cons (pv 0) pa_nil)))
      pss_never)
  ), ?_⟩
  exact ⟨_, rfl, v, d, [], rfl, rfl, hv, hf, q⟩
theorem calX_polynomial_through (g : Glob P K mg) (c : Says K) : CalX P w K mg base 4 "polynomial_through" (spBad 2 K) := by
  refine calX (g.glo c.glo_polynomial_through) c.def_polynomial_through sc_polynomial_through (fun vs H Q E h => by obtain ⟨_, _, _, rfl, l, _⟩ := h; simp [l]) ?_
  intro cdv A outer s H vs Q E hr h htk
  obtain ⟨v, d, rest, rfl, hl, hv, hf, q⟩ := h
  refine ⟨_, (
(pss_cons (ps_expr (pe_cX htk (calX__check g c) hr (by decide) (by rfl) (pa_cons (pv 0) pa_nil)))
      pss_never)
  ), ?_⟩
  exact ⟨_, rfl, v, d, [], rfl, rfl, hv, hf, q⟩
theorem calX_polynomial_near (g : Glob P K mg) (c : Says K) : CalX P w K mg base 4 "polynomial_near" (spBad 4 K) := by
  refine calX (g.glo c.glo_polynomial_near) c.def_polynomial_near sc_polynomial_near (fun vs H Q E h => by obtain ⟨_, _, _, rfl, l, _⟩ := h; simp [l]) ?_
  intro cdv A outer s H vs Q E hr h htk
  obtain ⟨v, d, rest, rfl, hl, hv, hf, q⟩ := h
  refine ⟨_, (
(pss_cons (ps_expr (pe_cX htk (calX__check g c) hr (by decide) (by rfl) (pa_cons (pv 0) pa_nil)))
      pss_never)
  ), ?_⟩
  exact ⟨_, rfl, v, d, [], rfl, rfl, hv, hf, q⟩
end
end SU

namespace SU
open PySem PySem.Spec PyProof.Rows L2
section
variable {P : Program} {w : World} {K : Frag} {mg : Str → Option Value} {base : Heap}
def spVal (K : Frag) : Sp := fun vs H Q _ => ∃ (p x : Int) (v : V) (ns : List Int), vs = [.int p, v, .int x] ∧ p ∈ fields ∧ Iq K [] H v ns ∧ ∀ H', Same H H' → Q (.int (pval p x ns)) H'
theorem cal_value_at (g : Glob P K mg) (c : Says K) : Cal P w K mg base 4 s_value_at ["p", "coefficients", "point"] "value_at" (spVal K) := by
  refine calG (g.glo c.glo_value_at) c.def_value_at sc_value_at (fun vs H Q E h => by obtain ⟨_, _, _, _, rfl, _⟩ := h; rfl) ?_
  intro cdv A outer s H vs Q E hr h
  obtain ⟨p, x, v, ns, rfl, hp, ⟨a, rfl, _, ha⟩, q⟩ := h
  have hp2 := fields_pos hp
  refine ⟨_, (
(pss_cons (ps_expr (pe_c (cal__check g c) hr (by decide) (by rfl) (pa_cons (pv 0) pa_nil)))
      (pss_cons (ps_set (i := 3) sc_value_at.nd rfl (Or.inl rfl) pe_int)
      (pss_cons (ps_for PassesOwn.never rfl (pi_sq (pe_revS (pv 1))) (pg_name (i := 4) sc_value_at.nd rfl (Or.inl rfl))
      (pss_one (ps_set (i := 3) sc_value_at.nd rfl (Or.inl rfl) (pe_op op_mod (pe_op op_add (pe_op op_mul (pv 3) (pv 2)) (pv 4)) (pv 0)))))
      (pss_one (ps_ret (pv 3))))))
  ), ?_⟩
  refine ⟨_, rfl, p, rfl, hp, ?_⟩
  refine ⟨_, rfl, a, _, rfl, ha, fun b H1 hb s1 hq => ?_⟩
  refine ⟨b, _, rfl, hq, fun k hk => ?_⟩
  rw [← List.map_reverse] at hk
  refine for_it (by rw [← List.map_reverse]; exact walk_sqB) (fun i σ H' => ∃ o, σ = [some (.int p), some (.ref a), some (.int x), some (.int (pval p x (ns.drop (ns.length - i)))), o] ∧ Same H1 H') ⟨none, by rw [Nat.sub_zero, List.drop_length]; rfl, Same.refl _⟩
    (fun i σ H' _ ⟨_, _, z⟩ => sqB_same z hk) ?_ ?_
  · rintro i y σ H2 H3 hi ⟨o, rfl, sm⟩ ⟨rfl, hy⟩
    have hi' : i < ns.length := by simpa using hi
    rw [List.getElem?_map, List.getElem?_reverse hi'] at hy
    obtain ⟨n, hn, rfl⟩ := Option.map_eq_some_iff.mp hy
    have r := pval_range (by omega : 0 < p) x (ns.drop (ns.length - i))
    refine ⟨_, rfl, _, rfl, _, _, rfl, rfl, .inl ⟨by omega, by omega⟩, _, rfl, _, _, rfl, rfl, _, rfl, _, _, rfl, rfl, by show (0 : Int) < p; omega, ?_⟩
    refine ⟨some (.int n), ?_, sm⟩
    have e : ns.drop (ns.length - (i + 1)) = n :: ns.drop (ns.length - i) := by
      have e1 : ns.length - (i + 1) = ns.length - 1 - i := by omega
      have e2 : ns.length - i = ns.length - 1 - i + 1 := by omega
      rw [e1, e2]
      obtain ⟨h1, h2⟩ := List.getElem?_eq_some_iff.mp hn
      rw [List.drop_eq_getElem_cons h1, h2]
    rw [e]
    rfl
  · rintro σ H2 ⟨o, rfl, sm⟩
    refine ⟨_, rfl, ?_⟩
    have e : ns.length - (ns.reverse.map V.int).length = 0 := by simp
    rw [e]
    exact q _ (s1.trans sm)
theorem flat_rep : ∀ n, (List.replicate n [V.int 0]).flatten = (List.replicate n (0 : Int)).map V.int
  | 0 => rfl
  | n + 1 => by
    rw [List.replicate_succ, List.replicate_succ, List.flatten_cons, flat_rep n]
    rfl
theorem cutV_last (xs : List V) : cutV xs none (some (-1)) = xs.dropLast := by
  unfold cutV
  rw [HT.sIx_none, List.drop_zero, Nat.sub_zero, List.dropLast_eq_take]
  congr 1
  show (if (-1 : Int) < 0 then ((-1 : Int) + (xs.length : Int)).toNat else min (-1 : Int).toNat xs.length) = _
  rw [if_pos (by omega)]
  omega
def spThru (K : Frag) : Sp := fun vs H Q _ => ∃ (p : Int) (u v : V) (xs ys : List Int), vs = [.int p, u, v] ∧ p ∈ fields ∧ Iq K [] H u xs ∧ Iq K [] H v ys ∧ letters p xs ∧ xs.Nodup ∧ letters p ys ∧ ys.length = xs.length ∧ xs.length ≤ 1000 ∧
  ∀ q H', Same H H' → H q = none → SqT K H' q ((interp p xs ys).map V.int) → Q (.ref q) H'
theorem cal_polynomial_through (g : Glob P K mg) (c : Says K) : Cal P w K mg base 5 s_polynomial_through ["p", "points", "values"] "polynomial_through" (spThru K) := by
  refine calG (g.glo c.glo_polynomial_through) c.def_polynomial_through sc_polynomial_through (fun vs H Q E h => by obtain ⟨_, _, _, _, _, rfl, _⟩ := h; rfl) ?_
  intro cdv A outer s H vs Q E hr h
  obtain ⟨p, u, v, xs, ys, rfl, hp, ⟨a, rfl, _, ha⟩, ⟨b, rfl, _, hb⟩, lx, nd, ly, hl, hn, q⟩ := h
  have hp2 := fields_pos hp
  have sz : (1000000 : Nat) < sizeLine := by rw [sizeLine_eq]; decide
  refine ⟨_, (
(pss_cons (ps_expr (pe_c (cal__check g c) hr (by decide) (by rfl) (pa_cons (pv 0) pa_nil)))
      (pss_cons (ps_set (i := 3) sc_polynomial_through.nd rfl (Or.inl rfl) (pe_op op_rep (pe_lst (pa_cons pe_int pa_nil)) (pe_callB call_len_seq (by rfl) (g.free c.free_len) PySem.boot_len (pa_cons (pv 1) pa_nil))))
      (pss_cons (ps_set (i := 4) sc_polynomial_through.nd rfl (Or.inl rfl) (pe_op op_cat (pe_lst (pa_cons pe_int pa_nil)) (pe_op op_rep (pe_lst (pa_cons pe_int pa_nil)) (pe_callB call_len_seq (by rfl) (g.free c.free_len) PySem.boot_len (pa_cons (pv 1) pa_nil)))))
      (pss_cons (ps_for PassesOwn.never rfl (pi_zipQ (by rfl) (g.free c.free_zip) (pa_cons (pv 1) (pa_cons (pv 2) pa_nil))) (pg_tup rfl (pgs_cons (pg_name (i := 5) sc_polynomial_through.nd rfl (Or.inr rfl)) (pgs_cons (pg_name (i := 6) sc_polynomial_through.nd rfl (Or.inl rfl)) pgs_nil)))
      (pss_cons (ps_set (i := 7) sc_polynomial_through.nd rfl (Or.inl rfl) (pe_op op_sub (pv 6) (pe_c (cal_value_at g c) hr (by decide) (by rfl) (pa_cons (pv 0) (pa_cons (pv 3) (pa_cons (pv 5) pa_nil))))))
      (pss_cons (ps_set (i := 8) sc_polynomial_through.nd rfl (Or.inr rfl) (pe_op op_mod (pe_op op_mul (pv 7) (pe_c (cal_inverse_of g c) hr (by decide) (by rfl) (pa_cons (pv 0) (pa_cons (pe_c (cal_value_at g c) hr (by decide) (by rfl) (pa_cons (pv 0) (pa_cons (pv 4) (pa_cons (pv 5) pa_nil)))) pa_nil)))) (pv 0)))
      (pss_cons (ps_setLc (i := 3) (own := [("old", 9), ("more", 10)]) (g := gTup _ 2 (gCons (gName 9) (gCons (gName 10) gNil))) (tt := tYes) rfl sc_polynomial_through.nd rfl rfl (sw_true rfl rfl rfl (by decide +kernel)) (pi_zipQ (by rfl) (g.free c.free_zip) (pa_cons (pv 3) (pa_cons (pv 4) pa_nil))) (blkOk_by (own := [("old", 9), ("more", 10)]) (N := ["p", "points", "values", "found", "root", "point", "value", "lack", "factor", "old", "more", "low", "high"]) (sc := defScope s_polynomial_through) (by decide +kernel)) (fun _ _ _ _ _ => (pg_tup rfl (pgs_cons (pg_name (i := 9) sc_polynomial_through.nd rfl (Or.inl rfl)) (pgs_cons (pg_name (i := 10) sc_polynomial_through.nd rfl (Or.inl rfl)) pgs_nil)))) (fun _ _ _ _ _ => pts_nil) (fun _ _ _ _ _ => (pe_op op_mod (pe_op op_add (pv 9) (pe_op op_mul (pv 8) (pv 10))) (pv 0))))
      (pss_one (ps_setLc (i := 4) (own := [("low", 11), ("high", 12)]) (g := gTup _ 2 (gCons (gName 11) (gCons (gName 12) gNil))) (tt := tYes) rfl sc_polynomial_through.nd rfl rfl (sw_true rfl rfl rfl (by decide +kernel)) (pi_zipQ (by rfl) (g.free c.free_zip) (pa_cons (pe_op op_cat (pe_lst (pa_cons pe_int pa_nil)) (pe_slice sl_list (pv 4) po_none (po_some (pe_un un_neg pe_int)))) (pa_cons (pv 4) pa_nil))) (blkOk_by (own := [("low", 11), ("high", 12)]) (N := ["p", "points", "values", "found", "root", "point", "value", "lack", "factor", "old", "more", "low", "high"]) (sc := defScope s_polynomial_through) (by decide +kernel)) (fun _ _ _ _ _ => (pg_tup rfl (pgs_cons (pg_name (i := 11) sc_polynomial_through.nd rfl (Or.inl rfl)) (pgs_cons (pg_name (i := 12) sc_polynomial_through.nd rfl (Or.inl rfl)) pgs_nil)))) (fun _ _ _ _ _ => pts_nil) (fun _ _ _ _ _ => (pe_op op_mod (pe_op op_sub (pv 11) (pe_op op_mul (pv 5) (pv 12))) (pv 0)))))))))
      (pss_one (ps_ret (pe_callTy call_tuple_of (by rfl) (g.free c.free_tuple) boot_tuple (pa_cons (pv 3) pa_nil))))))))
  ), ?_⟩
  refine ⟨_, rfl, p, rfl, hp, ?_⟩
  have lf0 : (List.replicate (((((xs.map V.int).length : Nat) : Int)).toNat) [V.int 0]).flatten = (startI xs.length).1.map V.int := by
    rw [Int.toNat_natCast, List.length_map]
    exact flat_rep xs.length
  have sa : ∀ H', Same H H' → Sq K H' a (xs.map V.int) := fun H' z => ha.same z
  have sb : ∀ H', Same H H' → Sq K H' b (ys.map V.int) := fun H' z => hb.same z
  refine ⟨by decide, fun f0 hf0 => ?_⟩
  refine ⟨_, rfl, a, _, rfl, sa _ (Same.new hf0), f0, _, _, rfl, rfl, upd_same, by omega, by simp; omega, by simp; omega, fun f1 hf1 => ?_⟩
  refine ⟨by decide, fun r0 hr0 => ⟨by decide, fun r1 hr1 => ?_⟩⟩
  refine ⟨_, rfl, a, _, rfl, sa _ ((((Same.new hf0).trans (Same.new hf1)).trans (Same.new hr0)).trans (Same.new hr1)), r1, _, _, rfl, rfl, upd_same, by omega, by simp; omega, by simp; omega, fun r2 hr2 => ?_⟩
  refine ⟨r0, r2, _, _, rfl, rfl, Same.new hr2 _ _ (Same.new hr1 _ _ upd_same), upd_same, by simp; omega, fun r3 hr3 => ?_⟩
  have S3 := fun o : HO => (((((Same.new hf0).trans (Same.new hf1)).trans (Same.new hr0)).trans (Same.new hr1)).trans (Same.new hr2)).trans (Same.new (o := o) hr3)
  refine ⟨_, rfl, _, rfl, a, b, _, _, rfl, sa _ (S3 _), sb _ (S3 _), fun b1 b2 h1 h2 => ?_⟩
  refine for_it (walk_zipB rfl) (fun i σ H' => ∃ (f r : Addr) (o5 o6 o7 o8 : Option V), σ = [some (.int p), some (.ref a), some (.ref b), some (.ref f), some (.ref r), o5, o6, o7, o8, none, none, none, none] ∧ H' f = some (.lst ((stateI p xs ys i).1.map V.int)) ∧ H' r = some (.lst ((stateI p xs ys i).2.map V.int)) ∧ SqB b1 K H' a (xs.map V.int) ∧ SqB b2 K H' b (ys.map V.int) ∧ Same H H')
    ⟨f1, r3, _, _, _, _, rfl, ?_, ?_, h1, h2, S3 _⟩ (fun i σ H' _ ⟨_, _, _, _, _, _, _, _, _, z1, z2, _⟩ => ⟨z1, z2⟩) ?_ ?_
  · refine Same.new hr3 _ _ (Same.new hr2 _ _ (Same.new hr1 _ _ (Same.new hr0 _ _ ?_)))
    rw [upd_same, lf0]
    rfl
  · rw [upd_same, lf0]
    rfl
  · rintro i x σ H2 H3 hi ⟨f, r, o5, o6, o7, o8, rfl, hf, hrr, k1, k2, sm⟩ ⟨T, x1, y1, rfl, hT, rfl, e1, e2⟩
    have hix : i < xs.length := by
      have := hi
      simp only [List.length_map] at this
      omega
    have ex : xs[i]? = some xs[i] := List.getElem?_eq_getElem hix
    have ey : ys[i]? = some ys[i] := List.getElem?_eq_getElem (by omega)
    dsimp only at e1 e2
    rw [List.getElem?_map, ex] at e1
    rw [List.getElem?_map, ey] at e2
    cases e1
    cases e2
    have O := okI_all hp lx nd ly hl i (Nat.le_of_lt hix)
    have es := stateI_succ (p := p) ex ey
    generalize xs[i] = x0 at ex es ⊢
    generalize ys[i] = y0 at ey es ⊢
    generalize stateI p xs ys i = st at hf hrr O es
    rw [es]
    obtain ⟨found, root⟩ := st
    obtain ⟨lf, lr, tf, tr, zero, vals, roots, nz⟩ := O
    dsimp only at hf hrr lf lr tf tr zero vals roots nz
    have sT := Same.new (o := .tup [.int x0, .int y0]) hT
    refine ⟨T, [.int x0, .int y0], rfl, .inl (.inl upd_same), rfl, _, _, rfl, _, _, rfl, rfl, ?_⟩
    refine ⟨_, rfl, _, rfl, _, rfl, _, rfl, p, x0, _, found, rfl, hp, ⟨f, rfl, by simp, .inl (.inl (.inl (sT _ _ hf)))⟩, fun H4 s4 => ⟨_, _, rfl, rfl, ?_⟩⟩
    have rk := pval_range (by omega : 0 < p) x0 root
    have rk0 : 0 < pval p x0 root := by
      have := nz i x0 (Nat.le_refl i) ex
      omega
    obtain ⟨i0, i1, i2⟩ := inv_ok hp rk0 rk.2
    refine ⟨_, rfl, _, rfl, _, rfl, _, rfl, _, rfl, p, x0, _, root, rfl, hp, ⟨r, rfl, by simp, .inl (.inl (.inl (s4 _ _ (sT _ _ hrr))))⟩, fun H5 s5 => ⟨p, _, rfl, hp, rk0, rk.2, _, _, rfl, rfl, .inr ⟨by omega, by omega⟩, _, rfl, _, _, rfl, rfl, by show (0 : Int) < p; omega, ?_⟩⟩
    have ef : (y0 - pval p x0 found) * inv p (pval p x0 root) % p = fac p x0 y0 (found, root) := rfl
    have fr : 0 ≤ fac p x0 y0 (found, root) ∧ fac p x0 y0 (found, root) < p := ⟨Int.emod_nonneg _ (by omega), Int.emod_lt_of_pos _ (by omega)⟩
    obtain ⟨F, eF⟩ : ∃ F, F = fac p x0 y0 (found, root) := ⟨_, rfl⟩
    rw [← eF] at ef fr
    have s25 := (sT.trans s4).trans s5
    have lrr : root.length ≤ 1001 := by omega
    refine ⟨_, rfl, _, rfl, f, r, _, _, rfl, .inl (.inl (.inl (s25 _ _ hf))), .inl (.inl (.inl (s25 _ _ hrr))), fun c1 c2 q1 q2 D hD => lc_zipI (fun u v => (u + F * v) % p) hD q1 q2 (by omega) ?_ ?_⟩
    · intro j u v Hx T2 R R' eu ev hT2 smx hR
      refine ⟨T2, [.int u, .int v], rfl, .inl (.inl upd_same), rfl, _, _, rfl, _, _, rfl, rfl, rfl, ?_⟩
      refine ⟨_, rfl, _, rfl, _, rfl, _, _, rfl, rfl, .inl ?_, _, _, rfl, rfl, _, rfl, _, _, rfl, rfl, by show (0 : Int) < p; omega, ?_⟩
      · rw [ef]
        exact ⟨by omega, by omega⟩
      · show R (.int ((u + (y0 - pval p x0 found) * inv p (pval p x0 root) % p * v) % p)) _
        rw [ef]
        exact hR
    · intro H6 s6 e6
      have s26 := s25.trans s6
      refine ⟨by decide, fun z0 hz0 => ⟨_, rfl, _, rfl, _, rfl, r, _, rfl, .inl (.inl (Same.new hz0 _ _ (s26 _ _ hrr))), fun z1 hz1 => ?_⟩⟩
      refine ⟨z0, z1, _, _, rfl, rfl, Same.new hz1 _ _ upd_same, upd_same, ?_, fun z2 hz2 => ?_⟩
      · have := cutV_length (root.map V.int) none (some (-1))
        simp at this ⊢
        omega
      have s7 := fun o : HO => ((Same.new hz0).trans (Same.new hz1)).trans (Same.new (o := o) hz2)
      have ecut : [V.int 0] ++ cutV (root.map V.int) none (some (-1)) = (0 :: root.dropLast).map V.int := by
        rw [cutV_last]
        rw [List.map_cons, List.map_dropLast]
        rfl
      rw [ecut]
      refine ⟨_, rfl, z2, r, _, _, rfl, .inl (.inl (.inl upd_same)), .inl (.inl (.inl (s7 _ _ _ (s26 _ _ hrr)))), fun c3 c4 q3 q4 D2 hD2 => lc_zipI (fun u v => (u - x0 * v) % p) hD2 q3 q4 (by simp; omega) ?_ ?_⟩
      · intro j u v Hx T2 R R' eu ev hT2 smx hR
        refine ⟨T2, [.int u, .int v], rfl, .inl (.inl upd_same), rfl, _, _, rfl, _, _, rfl, rfl, rfl, ?_⟩
        have hx0 := lx x0 (List.mem_of_getElem? ex)
        exact ⟨_, rfl, _, rfl, _, rfl, _, _, rfl, rfl, .inl ⟨by omega, by omega⟩, _, _, rfl, rfl, _, rfl, _, _, rfl, rfl, by show (0 : Int) < p; omega, hR⟩
      · intro H8 s8 e8
        have s28 := (s26.trans (s7 _)).trans s8
        have e6' : H6 D = some (.lst ((stepI p (found, root) (x0, y0)).1.map V.int)) := by
          rw [e6, eF]
          rfl
        refine ⟨D, D2, _, _, _, _, rfl, ((s7 _).trans s8) _ _ e6', e8, sqB_same s28 k1, sqB_same s28 k2, sm.trans s28⟩
  · rintro σ H2 ⟨f, r, o5, o6, o7, o8, rfl, hf, hrr, k1, k2, sm⟩
    refine ⟨_, rfl, f, _, rfl, .inl ⟨.inl (.inl hf), fun t ht => ?_⟩⟩
    have el : min (xs.map V.int).length (ys.map V.int).length = xs.length := by simp; omega
    refine q t _ (sm.trans (Same.new ht)) ?_ (.inl (.inl ?_))
    · exact sm.free ht
    · rw [upd_same, el]
      rfl
end
end SU

namespace SU
open PySem PySem.Spec PyProof.Rows L2
section
variable {P : Program} {w : World} {K : Frag} {mg : Str → Option Value} {base : Heap}
/-! ### what is no field -/
theorem nofield {i : Int} (h : i < 2 ∨ 31 < i) : fieldB (.int i) = false := by
  show fields.contains i = false
  rw [Bool.eq_false_iff]
  intro z
  have := fields_pos (List.contains_iff_mem.mp z)
  omega
def oddD (f : Int) : List PyData := [.int 0, .int 1, .int 4, .int 9, .int 15, .int 21, .int 25, .int 27, .int 32, .int 33, .int 35, .int 37, .int (-2), .int (-3 - f), .int (41 + f), .int (10 ^ (30 : Int).toNat + f), .bool true, .bool false, .none, .str "7"] ++ [.str "", .tuple [.int 7], .list [.int 7], .tuple [], .list [.int f, .none]]
theorem oddD_no {f : Int} (h0 : 0 ≤ f) : ∀ d ∈ oddD f, fieldB d = false ∧ Dl 3 d := by
  intro d hd
  simp only [oddD, List.cons_append, List.nil_append, List.mem_cons, List.mem_nil_iff, or_false] at hd
  have big : (31 : Int) < 10 ^ (30 : Int).toNat + f := by
    have : (10 : Int) ^ (30 : Int).toNat = 1000000000000000000000000000000 := by decide
    omega
  rcases hd with rfl | rfl | rfl | rfl | rfl | rfl | rfl | rfl | rfl | rfl | rfl | rfl | rfl | rfl | rfl | rfl | rfl | rfl | rfl | rfl | rfl | rfl | rfl | rfl | rfl
  all_goals first
    | exact ⟨by decide, .int _ _⟩
    | exact ⟨nofield (by omega), .int _ _⟩
    | exact ⟨nofield (.inr big), .int _ _⟩
    | exact ⟨rfl, .bl _ _⟩
    | exact ⟨rfl, .non _⟩
    | exact ⟨rfl, .str _ _⟩
    | exact ⟨rfl, .tup (fun d hd => by simp at hd; subst hd; exact .int _ _) (by decide)⟩
    | exact ⟨rfl, .lst (fun d hd => by simp at hd; subst hd; exact .int _ _) (by decide)⟩
    | exact ⟨rfl, .tup (fun d hd => by simp at hd) (by decide)⟩
    | exact ⟨rfl, .lst (fun d hd => by simp at hd; rcases hd with rfl | rfl; exact .int _ _; exact .non _) (by simp)⟩
def spOdd (K : Frag) : Sp := fun vs H Q _ => ∃ a : Addr, vs = [.ref a] ∧ Pool H a ∧ ∀ v d H', Step a H H' → Rep K [a] H' v d → fieldB d = false → Dl 3 d → Q v H'
theorem cal__law_odd_field (g : Glob P K mg) (c : Says K) : Cal P w K mg base 2 s__law_odd_field ["pool"] "_law_odd_field" (spOdd K) := by
  refine calG (g.glo c.glo__law_odd_field) c.def__law_odd_field sc__law_odd_field (fun vs H Q E h => by obtain ⟨_, rfl, _⟩ := h; rfl) ?_
  intro cdv A outer s H vs Q E hr h
  obtain ⟨a, rfl, hp, q⟩ := h
  refine ⟨_, (
(pss_cons (ps_set (i := 1) sc__law_odd_field.nd rfl (Or.inl rfl) (pe_c (cal__law_draw g c) hr (by decide) (by rfl) (pa_cons (pv 0) (pa_cons pe_int pa_nil))))
      (pss_cons (ps_set (i := 2) sc__law_odd_field.nd rfl (Or.inl rfl) (pe_lst (pa_cons pe_int (pa_cons pe_int (pa_cons pe_int (pa_cons pe_int (pa_cons pe_int (pa_cons pe_int (pa_cons pe_int (pa_cons pe_int (pa_cons pe_int (pa_cons pe_int (pa_cons pe_int (pa_cons pe_int (pa_cons (pe_un un_neg pe_int) (pa_cons (pe_op op_sub (pe_un un_neg pe_int) (pv 1)) (pa_cons (pe_op op_add pe_int (pv 1)) (pa_cons (pe_op op_add (pe_op op_pow pe_int pe_int) (pv 1)) (pa_cons pe_bl (pa_cons pe_bl (pa_cons pe_non (pa_cons pe_str pa_nil))))))))))))))))))))))
      (pss_cons (ps_set (i := 2) sc__law_odd_field.nd rfl (Or.inl rfl) (pe_op op_cat (pv 2) (pe_lst (pa_cons pe_str (pa_cons (pe_tup (pa_cons pe_int pa_nil)) (pa_cons (pe_lst (pa_cons pe_int pa_nil)) (pa_cons (pe_tup pa_nil) (pa_cons (pe_lst (pa_cons (pv 1) (pa_cons pe_non pa_nil))) pa_nil))))))))
      (pss_one (ps_ret (pe_ix ix_sq (pv 2) (pe_c (cal__law_draw g c) hr (by decide) (by rfl) (pa_cons (pv 0) (pa_cons pe_int pa_nil))) (fun _ _ => rfl)))))))
  ), ?_⟩
  refine ⟨_, rfl, a, 900, rfl, by decide, hp, fun f H1 f0 f1 st => ?_⟩
  refine ⟨_, rfl, _, rfl, _, rfl, _, _, rfl, rfl, _, rfl, _, _, rfl, rfl, _, _, rfl, rfl, ⟨by decide, by decide, by decide⟩, _, rfl, _, _, rfl, rfl, szl (by simp), fun l0 hl0 => ?_⟩
  refine ⟨_, rfl, szl (by simp), fun t1 ht1 => ⟨szl (by simp), fun t2 ht2 => ⟨szl (by simp), fun t3 ht3 => ⟨_, rfl, szl (by simp), fun t4 ht4 => ⟨szl (by simp), fun t5 ht5 => ?_⟩⟩⟩⟩⟩
  refine ⟨l0, t5, _, _, rfl, rfl, Same.new ht5 _ _ (Same.new ht4 _ _ (Same.new ht3 _ _ (Same.new ht2 _ _ (Same.new ht1 _ _ upd_same)))), upd_same, szl (by simp), fun l6 hl6 => ?_⟩
  have s0 := st.new (o := .lst [V.int 0, .int 1, .int 4, .int 9, .int 15, .int 21, .int 25, .int 27, .int 32, .int 33, .int 35, .int 37, .int (-2), .int (-3 - f), .int (41 + f), .int (10 ^ (30 : Int).toNat + f), .bl true, .bl false, .non, .str "7"]) hl0
  have s1 := s0.new (o := .tup [.int 7]) ht1
  have s2 := s1.new (o := .lst [.int 7]) ht2
  have s3 := s2.new (o := .tup []) ht3
  have s4 := s3.new (o := .lst [.int f, .non]) ht4
  have s5 := s4.new (o := .lst [.str "", .ref t1, .ref t2, .ref t3, .ref t4]) ht5
  have s6 := fun o : HO => s5.new (o := o) hl6
  have x5 := fun o : HO => (Same.new (o := .lst [.str "", .ref t1, .ref t2, .ref t3, .ref t4]) ht5).trans (Same.new (o := o) hl6)
  have x4 := fun o : HO => (Same.new (o := .lst [.int f, .non]) ht4).trans (x5 o)
  have x3 := fun o : HO => (Same.new (o := .tup []) ht3).trans (x4 o)
  have x2 := fun o : HO => (Same.new (o := .lst [.int 7]) ht2).trans (x3 o)
  refine ⟨_, rfl, _, rfl, a, 25, rfl, by decide, (s6 _).pool, fun r H2 r0 r1 st2 => ?_⟩
  have RA : Reps K [a] H2 ([V.int 0, .int 1, .int 4, .int 9, .int 15, .int 21, .int 25, .int 27, .int 32, .int 33, .int 35, .int 37, .int (-2), .int (-3 - f), .int (41 + f), .int (10 ^ (30 : Int).toNat + f), .bl true, .bl false, .non, .str "7"] ++ [.str "", .ref t1, .ref t2, .ref t3, .ref t4]) (oddD f) := by
    refine Reps.append ?_ ?_
    · repeat first
        | exact .nil
        | refine .cons (.int _) ?_
        | refine .cons (.bl _) ?_
        | refine .cons .non ?_
        | refine .cons (.str _) ?_
    · refine .cons (.str _) (.cons (Rep.st st2 ?_) (.cons (Rep.st st2 ?_) (.cons (Rep.st st2 ?_) (.cons (Rep.st st2 ?_) .nil))))
      · exact .ofT (ns := [7]) (s0.pool.ne ht1) (.inl (.inl (x2 _ _ _ upd_same)))
      · exact .ofL (ns := [7]) (s1.pool.ne ht2) (.inl (.inl (x3 _ _ _ upd_same)))
      · exact .ofT (ns := []) (s2.pool.ne ht3) (.inl (.inl (x4 _ _ _ upd_same)))
      · exact .lst (s3.pool.ne ht4) (.inl (.inl (x5 _ _ _ upd_same))) (.cons (.int f) (.cons .non .nil))
  have hr : r.toNat < 25 := by omega
  have el : (oddD f)[r.toNat]? = some (oddD f)[r.toNat] := List.getElem?_eq_getElem hr
  obtain ⟨v, hv, rv⟩ := RA.get el
  have ok := oddD_no f0 _ (List.mem_of_getElem? el)
  have er : ((r.toNat : Nat) : Int) = r := by omega
  refine ⟨l6, _, r, v, rfl, rfl, .inl (.inl (.inl (st2.but _ _ (s5.pool.ne hl6) upd_same))), ?_, q v _ _ ((s6 _).trans st2) rv ok.1 ok.2⟩
  rw [← er]
  exact atI_nat hv
/-! ### unlike points -/
def spPts (K : Frag) : Sp := fun vs H Q _ => ∃ (a : Addr) (p : Int), vs = [.ref a, .int p] ∧ p ∈ fields ∧ Pool H a ∧ ∀ q xs H', Step a H H' → q ∉ [a] → SqL K H' q (xs.map V.int) → letters p xs → xs.Nodup → 0 < xs.length → xs.length ≤ 12 → Q (.ref q) H'
theorem cal__law_points (g : Glob P K mg) (c : Says K) : Cal P w K mg base 2 s__law_points ["pool", "p"] "_law_points" (spPts K) := by
  refine calG (g.glo c.glo__law_points) c.def__law_points sc__law_points (fun vs H Q E h => by obtain ⟨_, _, rfl, _⟩ := h; rfl) ?_
  intro cdv A outer s H vs Q E hr h
  obtain ⟨a, p, rfl, hp, hpl, q⟩ := h
  have hp2 := fields_pos hp
  refine ⟨_, (
(pss_cons (ps_set (i := 2) sc__law_points.nd rfl (Or.inl rfl) (pe_listRg rfl (by rfl) (g.free c.free_list) (prg_1 (by rfl) (g.free c.free_range) (pv 1))))
      (pss_cons (ps_set (i := 3) sc__law_points.nd rfl (Or.inl rfl) (pe_lst pa_nil))
      (pss_cons (ps_set (i := 4) sc__law_points.nd rfl (Or.inl rfl) (pe_ix ix_sq (pe_lst (pa_cons (pe_op op_add pe_int (pe_c (cal__law_draw g c) hr (by decide) (by rfl) (pa_cons (pv 0) (pa_cons (pe_callB (call_min2 rfl) (by rfl) (g.free c.free_min) boot_min (pa_cons (pv 1) (pa_cons pe_int pa_nil))) pa_nil)))) (pa_cons (pe_callB (call_min2 rfl) (by rfl) (g.free c.free_min) boot_min (pa_cons (pv 1) (pa_cons pe_int pa_nil))) pa_nil))) (pe_callTy call_int1 (by rfl) (g.free c.free_int) boot_int (pa_cons (pe_cmpR op_eq (pe_c (cal__law_draw g c) hr (by decide) (by rfl) (pa_cons (pv 0) (pa_cons pe_int pa_nil))) pe_int (nomark _)) pa_nil)) (fun _ _ => rfl)))
      (pss_cons (ps_for PassesOwn.never rfl (pi_range1 (by rfl) (g.free c.free_range) (pa_cons (pv 4) pa_nil)) (pg_name (i := 5) sc__law_points.nd rfl (Or.inl rfl))
      (pss_one (ps_expr (pe_bm PySem.F.plainAttrs_list PySem.F.slot_list_append PySem.F.type_list_append mt_append (pv 3) (pa_cons (pe_bm PySem.F.plainAttrs_list PySem.F.slot_list_pop PySem.F.type_list_pop mt_popAt (pv 2) (pa_cons (pe_c (cal__law_draw g c) hr (by decide) (by rfl) (pa_cons (pv 0) (pa_cons (pe_callB call_len_seq (by rfl) (g.free c.free_len) PySem.boot_len (pa_cons (pv 2) pa_nil)) pa_nil))) pa_nil)) pa_nil)))))
      (pss_one (ps_ret (pv 3)))))))
  ), ?_⟩
  refine ⟨_, rfl, p, rfl, .of_le (by omega) (by omega) (by omega) (by omega), fun l hl => ?_⟩
  refine ⟨szl (by simp), fun u hu => ?_⟩
  have s1 := (Step.refl hpl).new (o := .lst (rgV 0 p)) hl
  have s2 := s1.new (o := .lst []) hu
  refine ⟨_, rfl, _, rfl, p, 12, rfl, a, _, rfl, by split <;> omega, s2.pool, fun r H3 r0 r1 s3 => ?_⟩
  refine ⟨_, _, rfl, rfl, _, rfl, p, 12, rfl, szl (by simp), fun v hv => ?_⟩
  have s4 := s3.new (o := .lst [.int (1 + r), .int (if 12 < p then 12 else p)]) hv
  refine ⟨_, rfl, a, 4, rfl, by decide, s4.pool, fun r' H5 r0' r1' s5 => ?_⟩
  have el : H5 l = some (.lst (rgV 0 p)) := s5.but _ _ (hpl.ne hl) (s4.but _ _ (hpl.ne hl) (Same.new hu _ _ upd_same))
  have eu : H5 u = some (.lst []) := s5.but _ _ (s1.pool.ne hu) (s4.but _ _ (s1.pool.ne hu) upd_same)
  have ev : H5 v = some (.lst [.int (1 + r), .int (if 12 < p then 12 else p)]) := s5.but _ _ (s3.pool.ne hv) upd_same
  have sH := (s2.trans s4).trans s5
  have nlu : l ≠ u := fun z => by
    rw [z, upd_same] at hu
    cases hu
  have nl : l ∉ [a] := hpl.ne hl
  have nu : u ∉ [a] := s1.pool.ne hu
  have hu0 : H u = none := (Same.new hl).free hu
  have er : (List.range p.toNat).map (fun i => V.int (0 + ((i : Nat) : Int))) = ((List.range p.toNat).map fun (i : Nat) => (i : Int)).map V.int := by
    rw [List.map_map]
    refine List.map_congr_left fun i _ => ?_
    show V.int (0 + (i : Int)) = V.int (i : Int)
    rw [Int.zero_add]
  have el2 : H5 l = some (.lst (((List.range p.toNat).map fun (i : Nat) => (i : Int)).map V.int)) := by
    rw [el, ← er]
    unfold rgV
    rw [Int.sub_zero]
  have pick : ∃ m : Int, 1 ≤ m ∧ m ≤ 12 ∧ m ≤ p ∧ atI [V.int (1 + r), V.int (if 12 < p then 12 else p)] (if decide (V.int r' = V.int 0) = true then 1 else 0) = some (.int m) := by
    cases decide (V.int r' = V.int 0) with
    | true => exact ⟨_, by split <;> omega, by split <;> omega, by split <;> omega, rfl⟩
    | false => exact ⟨_, by omega, by split at r1 <;> omega, by split at r1 <;> omega, rfl⟩
  obtain ⟨m, m1, m2, m3, em⟩ := pick
  refine ⟨rfl, .inr ⟨_, rfl, v, _, _, _, rfl, rfl, .inl (.inl (.inl ev)), em, ?_⟩⟩
  refine ⟨_, rfl, m, rfl, by omega, by omega, ?_⟩
  · refine for_it walk_range (fun i σ H' => ∃ (o : Option V) (ls ps : List Int), σ = [some (.ref a), some (.int p), some (.ref l), some (.ref u), some (.int m), o] ∧ H' l = some (.lst (ls.map V.int)) ∧ H' u = some (.lst (ps.map V.int)) ∧ ps.length = i ∧ ls.length + i = p.toNat ∧ (ps ++ ls).Nodup ∧ letters p (ps ++ ls) ∧ Step a H H')
      ⟨none, _, [], rfl, el2, eu, rfl, by simp, ?_, ?_, sH⟩ (fun _ _ _ _ _ => trivial) ?_ ?_
    · rw [List.nil_append]
      unfold List.Nodup
      rw [List.pairwise_map]
      exact List.nodup_range.imp fun h z => h (by omega)
    · intro x hx
      rw [List.nil_append] at hx
      obtain ⟨i, hi, rfl⟩ := List.mem_map.mp hx
      have := List.mem_range.mp hi
      omega
    · rintro i x σ H6 H7 hi ⟨o, ls, ps, rfl, e1, e2, h1, h2, h3, h4, st⟩ ⟨rfl, rfl⟩
      have hi' : i < m.toNat := hi
      have hlen : 0 < ls.length := by omega
      refine ⟨_, rfl, tyL e2, _, rfl, tyL e1, _, rfl, _, rfl, l, _, rfl, .inl (.inl (.inl e1)), a, _, rfl, by simp; omega, st.pool, fun k H8 k0 k1 s8 => ?_⟩
      have k1' : k.toNat < ls.length := by simp at k1; omega
      have e1' := s8.but _ _ nl e1
      have e2' := s8.but _ _ nu e2
      have ek : ((k.toNat : Nat) : Int) = k := by omega
      refine ⟨l, _, k, k.toNat, .int ls[k.toNat], rfl, rfl, e1', by omega, by omega, ?_, ?_, ?_⟩
      · rw [List.length_map, ← ek]
        exact seqI_nat k1'
      · rw [List.getElem?_map, List.getElem?_eq_getElem k1']
        rfl
      · have e2'' : upd H8 l (.lst ((ls.map V.int).eraseIdx k.toNat)) u = some (.lst (ps.map V.int)) := by
          rw [upd_ne (Ne.symm nlu)]
          exact e2'
        refine ⟨u, _, _, rfl, rfl, e2'', szm (by simp; omega), some (.int (0 + (i : Nat))), ls.eraseIdx k.toNat, ps ++ [ls[k.toNat]], rfl, ?_, ?_, ?_, ?_, ?_, ?_, ?_⟩
        · rw [upd_ne nlu, upd_same, erase_map]
        · rw [upd_same, List.map_append]
          rfl
        · simp [h1]
        · rw [List.length_eraseIdx_of_lt k1']
          omega
        · exact (perm_pop k1' ps).nodup_iff.mpr h3
        · intro x hx
          exact h4 x ((perm_pop k1' ps).mem_iff.mp hx)
        · have t := st.trans s8
          exact ⟨.setN (.setN t.but hl) hu0, (t.pool.upd (fun z => nl (by simp [z]))).upd (fun z => nu (by simp [z]))⟩
    · rintro σ H6 ⟨o, ls, ps, rfl, e1, e2, h1, h2, h3, h4, st⟩
      refine ⟨_, rfl, q u ps _ st nu (.inl (.inl e2)) (fun x hx => h4 x (List.mem_append_left _ hx)) ((List.nodup_append.mp h3).1) (by omega) (by omega)⟩
/-! ### what is refused -/
theorem ka_num (c : Says K) : KindAt K "InvalidNumber" 0 :=
  ⟨by decide, excCB_ok c.exc_InvalidNumber, kitB_ok c.kit_InvalidNumber, kitB_ok c.kit_InvalidPlan, kitB_ok c.kit_InvalidTape, kitB_ok c.kit_InvalidAnswers, kitB_ok c.kit_InvalidLibrary, kitB_ok c.kit_Undefined, kitTB_ok c.kit_ValueError,
    kitB_ok c.kit_InvalidShare, kitB_ok c.kit_InvalidMatrix, kitB_ok c.kit_InvalidText, kitB_ok c.kit_InvalidLine, kitB_ok c.kit_UnknownWord, kitB_ok c.kit_NothingToUndo⟩
def spRef (K : Frag) : Sp := fun vs H Q _ => ∃ (i : Int) (v : V) (d : PyData), vs = [.int i, v] ∧ Rep K [] H v d ∧ fieldB d = false ∧ Dl 3 d ∧ ∀ H', Same H H' → Q (.bl true) H'
theorem cal__law_refused (g : Glob P K mg) (c : Says K) : Cal P w K mg base 6 s__law_refused ["way", "p"] "_law_refused" (spRef K) := by
  refine calG (g.glo c.glo__law_refused) c.def__law_refused sc__law_refused (fun vs H Q E h => by obtain ⟨_, _, _, rfl, _⟩ := h; rfl) ?_
  intro cdv A outer s H vs Q E hr h
  obtain ⟨i, v, d, rfl, hv, hf, hd, q⟩ := h
  refine ⟨_, (
(pss_cons (L2N.ps_try_as (c := .ref (He.ga K "WishError")) (i := 2) rfl rfl sc__law_refused.nd rfl rfl ⟨by rfl, by decide, .inl (g.glo c.glo_WishError)⟩ takes_none
      (fun W pn xe htk hpo => (pss_one (ps_if (pt_cmpR op_eq (pv 0) pe_int (nomark _))
      (pss_one (ps_expr (pe_cX htk (calX_polynomial_through g c) hr (by decide) (by rfl) (pa_cons (pv 1) (pa_cons (pe_tup (pa_cons pe_int pa_nil)) (pa_cons (pe_lst (pa_cons pe_int pa_nil)) pa_nil)))))) (pss_one (ps_if (pt_cmpR op_eq (pv 0) pe_int (nomark _))
      (pss_one (ps_expr (pe_cX htk (calX_polynomial_through g c) hr (by decide) (by rfl) (pa_cons (pv 1) (pa_cons (pe_tup pa_nil) (pa_cons (pe_lst pa_nil) pa_nil)))))) (pss_one (ps_if (pt_cmpR op_eq (pv 0) pe_int (nomark _))
      (pss_one (ps_expr (pe_cX htk (calX_value_at g c) hr (by decide) (by rfl) (pa_cons (pv 1) (pa_cons (pe_tup (pa_cons pe_int (pa_cons pe_int pa_nil))) (pa_cons pe_int pa_nil)))))) (pss_one (ps_expr (pe_cX htk (calX_polynomial_near g c) hr (by decide) (by rfl) (pa_cons (pv 1) (pa_cons (pe_lst (pa_cons pe_int (pa_cons pe_int pa_nil))) (pa_cons (pe_tup (pa_cons pe_int (pa_cons pe_int pa_nil))) (pa_cons pe_int (pa_cons pe_int pa_nil)))))))))))))))
      (fun a oe cls d pn hz hf => pss_exc (C := He.ga K "InvalidNumber") fun dd hcls hd => (have hp := hot_suite hz hf; have hrH := L2H.roomH_mark hr _; have hzz := exc_suite hz hf hcls hd; (pss_one (ps_ret (pe_and (pe_cmpR op_eq (pe_cZ (cal__law_kind g c (ka_num c)) hrH (by decide) hp rfl hzz hf (by rfl) (pa_cons (pv 2) pa_nil)) pe_int (nomark _)) (pe_one (pe_cHi (cal__law_sameH g c 3) hrH (by decide) hp (by rfl) (pa_cons (pe_xfP ⟨hp.2, hzz, hf⟩ (xfB_ok c.xf_InvalidNumber) (of_decide_eq_true c.nof_InvalidNumber_value) rfl (pv 2)) (pa_cons (pv 1) pa_nil))))))))))
      (pss_one (ps_ret pe_bl)))
  ), ?_⟩
  refine ⟨_, rfl, rfl, _, rfl, ?_⟩
  cases decide (V.int i = V.int 0) with
  | true =>
    refine ifT rfl ⟨_, rfl, szl (by simp), fun t1 h1 => ⟨szl (by simp), fun t2 h2 => ?_⟩⟩
    have S := (Same.new (o := .tup [.int 0]) h1).trans (Same.new (o := .lst [.int 0]) h2)
    refine ⟨v, d, _, rfl, rfl, hv.same S, hf, fun dd H' s' hn he => ?_⟩
    exact ⟨true, He.exm_ok c.exm_InvalidNumber, fun _ a2 _ => ⟨dd, rfl, rfl, _, rfl, rfl, rfl, ⟨_, he⟩, fun H2 s2 => ⟨rfl, _, rfl, ifT rfl ⟨_, rfl, rfl, _, v, s2 _ _ he, rfl, _, rfl, v, v, d, rfl, hd, hv.same ((S.trans s').trans s2), hv.same ((S.trans s').trans s2), fun H3 s3 => q _ (((S.trans s').trans s2).trans s3)⟩⟩⟩, fun z => by cases z⟩
  | false =>
    refine ifF rfl ⟨_, rfl, rfl, _, rfl, ?_⟩
    cases decide (V.int i = V.int 3) with
    | true =>
      refine ifT rfl ⟨_, rfl, szl (by simp), fun t1 h1 => ⟨szl (by simp), fun t2 h2 => ?_⟩⟩
      have S := (Same.new (o := .tup []) h1).trans (Same.new (o := .lst []) h2)
      refine ⟨v, d, _, rfl, rfl, hv.same S, hf, fun dd H' s' hn he => ?_⟩
      exact ⟨true, He.exm_ok c.exm_InvalidNumber, fun _ a2 _ => ⟨dd, rfl, rfl, _, rfl, rfl, rfl, ⟨_, he⟩, fun H2 s2 => ⟨rfl, _, rfl, ifT rfl ⟨_, rfl, rfl, _, v, s2 _ _ he, rfl, _, rfl, v, v, d, rfl, hd, hv.same ((S.trans s').trans s2), hv.same ((S.trans s').trans s2), fun H3 s3 => q _ (((S.trans s').trans s2).trans s3)⟩⟩⟩, fun z => by cases z⟩
    | false =>
      refine ifF rfl ⟨_, rfl, rfl, _, rfl, ?_⟩
      cases decide (V.int i = V.int 1) with
      | true =>
        refine ifT rfl ⟨_, rfl, szl (by simp), fun t1 h1 => ?_⟩
        have S := (Same.new (o := .tup [.int 0, .int 0]) h1)
        refine ⟨v, d, _, rfl, rfl, hv.same S, hf, fun dd H' s' hn he => ?_⟩
        exact ⟨true, He.exm_ok c.exm_InvalidNumber, fun _ a2 _ => ⟨dd, rfl, rfl, _, rfl, rfl, rfl, ⟨_, he⟩, fun H2 s2 => ⟨rfl, _, rfl, ifT rfl ⟨_, rfl, rfl, _, v, s2 _ _ he, rfl, _, rfl, v, v, d, rfl, hd, hv.same ((S.trans s').trans s2), hv.same ((S.trans s').trans s2), fun H3 s3 => q _ (((S.trans s').trans s2).trans s3)⟩⟩⟩, fun z => by cases z⟩
      | false =>
        refine ifF rfl ⟨_, rfl, szl (by simp), fun t1 h1 => ⟨szl (by simp), fun t2 h2 => ?_⟩⟩
        have S := (Same.new (o := .lst [.int 0, .int 1]) h1).trans (Same.new (o := .tup [.int 0, .int 0]) h2)
        refine ⟨v, d, _, rfl, rfl, hv.same S, hf, fun dd H' s' hn he => ?_⟩
        exact ⟨true, He.exm_ok c.exm_InvalidNumber, fun _ a2 _ => ⟨dd, rfl, rfl, _, rfl, rfl, rfl, ⟨_, he⟩, fun H2 s2 => ⟨rfl, _, rfl, ifT rfl ⟨_, rfl, rfl, _, v, s2 _ _ he, rfl, _, rfl, v, v, d, rfl, hd, hv.same ((S.trans s').trans s2), hv.same ((S.trans s').trans s2), fun H3 s3 => q _ (((S.trans s').trans s2).trans s3)⟩⟩⟩, fun z => by cases z⟩
/-! ### values hold -/
theorem kw_value_at_0 : KwP s_value_at "value_at" ["p", "coefficients", "point"] 0 ["point", "coefficients", "p"] (fun _ ws => ws.reverse) :=
  ⟨fun r rz h1 h2 => vals_rev rz, fun kV doc pm an cdv ct us ws h1 h2 => by
    match us, ws, h1, h2 with
    | [], [_, _, _], _, _ => rfl⟩
theorem kw_polynomial_through_1 : KwP s_polynomial_through "polynomial_through" ["p", "points", "values"] 1 ["points", "values"] (fun us ws => us ++ ws) :=
  ⟨fun r rz h1 h2 => vals_app r rz, fun kV doc pm an cdv ct us ws h1 h2 => by
    match us, ws, h1, h2 with
    | [_], [_, _], _, _ => rfl⟩
theorem atI_end {xs : List Int} (h : 0 < xs.length) : ∃ l, atI (xs.map V.int) (-1) = some (.int l) := by
  rcases List.eq_nil_or_concat xs with z | ⟨i, l, z⟩
  · subst z
    simp at h
  · subst z
    refine ⟨l, ?_⟩
    rw [List.concat_eq_append, List.map_append]
    exact atI_last _ _
theorem Iq.sq {K : Frag} {S : List Addr} {H : Hp} {v : V} {ns : List Int} (h : Iq K S H v ns) : ∃ b, v = .ref b ∧ Sq K H b (ns.map V.int) := by
  obtain ⟨b, e, _, q⟩ := h
  exact ⟨b, e, q⟩
def spHold (K : Frag) : Sp := fun vs H Q _ => ∃ (a : Addr) (p : Int) (v : V) (ns : List Int), vs = [.ref a, .int p, v] ∧ p ∈ fields ∧ Pool H a ∧ Iq K [a] H v ns ∧ ns.length ≤ 1000 ∧ ∀ H', Step a H H' → Q (.bl true) H'
theorem cal__law_values_hold (g : Glob P K mg) (c : Says K) : Cal P w K mg base 6 s__law_values_hold ["pool", "p", "coefficients"] "_law_values_hold" (spHold K) := by
  refine calG (g.glo c.glo__law_values_hold) c.def__law_values_hold sc__law_values_hold (fun vs H Q E h => by obtain ⟨_, _, _, _, rfl, _⟩ := h; rfl) ?_
  intro cdv A outer s H vs Q E hr h
  obtain ⟨a, p, v, ns, rfl, hp, hpl, hv, hn, q⟩ := h
  have hp2 := fields_pos hp
  refine ⟨_, (
(pss_cons (ps_set (i := 3) sc__law_values_hold.nd rfl (Or.inl rfl) (pe_listRg rfl (by rfl) (g.free c.free_list) (prg_1 (by rfl) (g.free c.free_range) (pv 1))))
      (pss_cons (ps_if (pt_cmpR op_gt (pv 1) pe_int (nomark _))
      (pss_one (ps_setLc (i := 3) (own := [("k", 7)]) (g := gName 7) (tt := tYes) rfl sc__law_values_hold.nd rfl rfl (sw_true rfl rfl rfl (by decide +kernel)) (pi_range1 (by rfl) (g.free c.free_range) (pa_cons pe_int pa_nil)) (blkOk_by (own := [("k", 7)]) (N := ["pool", "p", "coefficients", "points", "handed", "point", "due", "k"]) (sc := defScope s__law_values_hold) (by decide +kernel)) (fun _ _ _ _ _ => (pg_name (i := 7) sc__law_values_hold.nd rfl (Or.inl rfl))) (fun _ _ _ _ _ => pts_nil) (fun _ _ _ _ _ => (pe_c (cal__law_draw g c) hr (by decide) (by rfl) (pa_cons (pv 0) (pa_cons (pv 1) pa_nil)))))) pss_nil)
      (pss_cons (ps_set (i := 4) sc__law_values_hold.nd rfl (Or.inl rfl) (pe_c (cal__law_as g c) hr (by decide) (by rfl) (pa_cons (pv 0) (pa_cons (pv 2) pa_nil))))
      (pss_cons (ps_for PassesOwn.never rfl (pi_sq (pv 3)) (pg_name (i := 5) sc__law_values_hold.nd rfl (Or.inl rfl))
      (pss_cons (ps_set (i := 6) sc__law_values_hold.nd rfl (Or.inl rfl) (pe_c (cal__law_value g c) hr (by decide) (by rfl) (pa_cons (pv 1) (pa_cons (pv 2) (pa_cons (pv 5) pa_nil)))))
      (pss_cons (ps_if (pt_not (pt_val (pe_c (cal__law_same g c 1) hr (by decide) (by rfl) (pa_cons (pe_c (cal_value_at g c) hr (by decide) (by rfl) (pa_cons (pv 1) (pa_cons (pv 4) (pa_cons (pv 5) pa_nil)))) (pa_cons (pv 6) pa_nil)))))
      (pss_one (ps_ret pe_bl)) pss_nil)
      (pss_one (ps_if (PW.pt (pw_and (pt_cmpR op_eq (pv 5) (pe_ix ix_sq (pv 3) (pe_un un_neg pe_int) (fun _ _ => rfl)) (nomark _)) (pw_and1 (pt_not (pt_val (pe_c (cal__law_same g c 1) hr (by decide) (by rfl) (pa_cons (pe_ck0 kw_value_at_0 (cal_value_at g c) hr (by decide) (by rfl) (pk_cons (pv 5) (pk_cons (pv 4) (pk_cons (pv 1) pk_nil)))) (pa_cons (pv 6) pa_nil))))))))
      (pss_one (ps_ret pe_bl)) pss_nil)))))
      (pss_one (ps_ret (pe_c (cal__law_same g c 2) hr (by decide) (by rfl) (pa_cons (pe_callTy call_list_of (by rfl) (g.free c.free_list) boot_list (pa_cons (pv 4) pa_nil)) (pa_cons (pe_callTy call_list_of (by rfl) (g.free c.free_list) boot_list (pa_cons (pv 2) pa_nil)) pa_nil)))))))))
  ), ?_⟩
  refine ⟨_, rfl, p, rfl, .of_le (by omega) (by omega) (by omega) (by omega), fun l hl => ?_⟩
  have s1 := (Step.refl hpl).new (o := .lst (rgV 0 p)) hl
  have nl : l ∉ [a] := hpl.ne hl
  refine ⟨_, rfl, _, _, rfl, rfl, _, rfl, ?_⟩
  by_cases hc : 12 < p
  case' pos =>
    refine ifT (decide_eq_true hc) ⟨12, rfl, by decide, by decide, fun D hD => ?_⟩
    refine lc_stepI walk_range (fun r => True) s1.pool hD (by decide) (fun _ _ => trivial) ?_ ?_
    · rintro i x Hx Hx' R1 R2 hi st ⟨rfl, rfl⟩ k
      exact ⟨rfl, _, rfl, _, rfl, a, p, rfl, by omega, st.pool, fun r H' _ _ s' => k r H' trivial s'⟩
    rintro H1 xs st hu hx _
    have nu : D ∉ [a] := s1.pool.ne hD
    have hx0 : 0 < xs.length := by omega
    have hx1 : xs.length ≤ 1000 := by omega
    have st := s1.trans st
    generalize D = u at hu nu ⊢
  case' neg =>
    refine ifF (decide_eq_false hc) ?_
    have er : rgV 0 p = ((List.range p.toNat).map fun (i : Nat) => (i : Int)).map V.int := by
      unfold rgV
      rw [List.map_map, Int.sub_zero]
      refine List.map_congr_left fun i _ => ?_
      show V.int (0 + (i : Int)) = V.int (i : Int)
      rw [Int.zero_add]
    have hu : upd H l (.lst (rgV 0 p)) l = some (.lst (((List.range p.toNat).map fun (i : Nat) => (i : Int)).map V.int)) := by
      rw [upd_same, er]
    have nu := nl
    have hx0 : 0 < ((List.range p.toNat).map fun (i : Nat) => (i : Int)).length := by simp; omega
    have hx1 : ((List.range p.toNat).map fun (i : Nat) => (i : Int)).length ≤ 1000 := by simp; omega
    have st := s1
    generalize ((List.range p.toNat).map fun (i : Nat) => (i : Int)) = xs at hu hx0 hx1
    generalize upd H l (.lst (rgV 0 p)) = H1 at hu st ⊢
    generalize l = u at hu nu ⊢
  all_goals
    have hv1 := hv.st st
    refine ⟨_, rfl, _, rfl, a, v, ns, rfl, st.pool, hv1, fun w2 H2 s2 hw => ?_⟩
    have iw : Iq K [a] H2 w2 ns := hw.elim Rep.iqL Rep.iqT
    have iv := hv1.st s2
    have hu2 := s2.but _ _ nu hu
    refine ⟨_, rfl, u, _, rfl, .inl (.inl (.inl hu2)), fun b hb => ?_⟩
    refine for_it walk_sqB (fun i σ H' => ∃ o1 o2, σ = [some (.ref a), some (.int p), some v, some (.ref u), some w2, o1, o2, none] ∧ Same H2 H') ⟨_, _, rfl, Same.refl _⟩ (fun i σ H' _ ⟨_, _, _, z⟩ => sqB_same z hb) ?_ ?_
    · rintro i x σ H3 H4 hi ⟨o1, o2, rfl, sm⟩ ⟨rfl, hx⟩
      rw [List.getElem?_map] at hx
      obtain ⟨n, _, rfl⟩ := Option.map_eq_some_iff.mp hx
      have iw3 := (iw.all.but (.of sm))
      have iv3 := (iv.all.but (.of sm))
      refine ⟨_, rfl, _, rfl, _, rfl, p, n, v, ns, rfl, by omega, by omega, by omega, iv3, ?_⟩
      refine ⟨_, rfl, _, rfl, _, rfl, p, n, w2, ns, rfl, hp, iw3, fun H5 s5 => ⟨_, rfl, _, _, .int _, rfl, .int _ _, .int _, .int _, fun H6 s6 => ⟨_, rfl, ifF rfl ?_⟩⟩⟩
      have s36 := sm.trans (s5.trans s6)
      obtain ⟨e, he⟩ := atI_end hx0
      refine ⟨_, rfl, _, rfl, _, rfl, u, _, _, _, rfl, rfl, .inl (.inl (.inl (s36 _ _ hu2))), he, rfl, _, rfl, ?_⟩
      cases decide (V.int n = V.int e) with
      | false => exact ifF rfl ⟨_, _, rfl, s36⟩
      | true =>
        have iw6 := (iw.all.but (.of s36))
        refine ifT rfl ⟨_, rfl, _, rfl, _, rfl, rfl, rfl, p, n, w2, ns, rfl, hp, iw6, fun H7 s7 => ⟨_, rfl, _, _, .int _, rfl, .int _ _, .int _, .int _, fun H8 s8 => ⟨_, rfl, ifF rfl ⟨_, _, rfl, s36.trans (s7.trans s8)⟩⟩⟩⟩
    · rintro σ H3 ⟨o1, o2, rfl, sm⟩
      obtain ⟨b1, rfl, q1⟩ := iw.sq
      obtain ⟨b2, rfl, q2⟩ := iv.sq
      refine ⟨_, rfl, b1, _, rfl, q1.same sm, fun l1 h1 => ⟨_, rfl, b2, _, rfl, (q2.same sm).same (Same.new h1), fun l2 h2 => ?_⟩⟩
      refine ⟨.ref l1, .ref l2, .list (di ns), rfl, .lst (Dl.ints 0 ns) (by simp; omega), .ofL (by simp) (.inl (.inl (Same.new h2 _ _ upd_same))), .ofL (by simp) (.inl (.inl upd_same)), fun H' s' => q _ ?_⟩
      exact (st.trans s2).trans (.of s2.pool (sm.trans (((Same.new h1).trans (Same.new h2)).trans s')))
/-! ### polynomials through points hold -/
theorem interp_ok {p : Int} {xs ys : List Int} (hp : p ∈ fields) (hx : letters p xs) (hd : xs.Nodup) (hy : letters p ys) (hl : ys.length = xs.length) : (interp p xs ys).length = xs.length ∧ letters p (interp p xs ys) ∧ ∀ (j : Nat) (x y : Int), xs[j]? = some x → ys[j]? = some y → pval p x (interp p xs ys) = y := by
  have O := okI_all hp hx hd hy hl xs.length (Nat.le_refl _)
  exact ⟨O.lf, O.tf, fun j x y ex ey => O.vals j x y (List.getElem?_eq_some_iff.mp ex).1 ex ey⟩
def spThH (K : Frag) : Sp := fun vs H Q _ => ∃ (a : Addr) (p : Int), vs = [.ref a, .int p] ∧ p ∈ fields ∧ Pool H a ∧ ∀ H', Step a H H' → Q (.bl true) H'
theorem cal__law_through_holds (g : Glob P K mg) (c : Says K) : Cal P w K mg base 7 s__law_through_holds ["pool", "p"] "_law_through_holds" (spThH K) := by
  refine calG (g.glo c.glo__law_through_holds) c.def__law_through_holds sc__law_through_holds (fun vs H Q E h => by obtain ⟨_, _, rfl, _⟩ := h; rfl) ?_
  intro cdv A outer s H vs Q E hr h
  obtain ⟨a, p, rfl, hp, hpl, q⟩ := h
  have hp2 := fields_pos hp
  refine ⟨_, (
(pss_cons (ps_set (i := 2) sc__law_through_holds.nd rfl (Or.inl rfl) (pe_c (cal__law_points g c) hr (by decide) (by rfl) (pa_cons (pv 0) (pa_cons (pv 1) pa_nil))))
      (pss_cons (ps_set (i := 3) sc__law_through_holds.nd rfl (Or.inr rfl) (pe_lc (own := [("k", 9)]) (g := gName 9) (tt := tYes) rfl sc__law_through_holds.nd (pi_sq (pv 2)) (blkOk_by (own := [("k", 9)]) (N := ["pool", "p", "points", "drawn", "values", "places", "letters", "told", "letter", "k", "again", "point"]) (sc := defScope s__law_through_holds) (by decide +kernel)) (fun _ _ _ _ _ => (pg_name (i := 9) sc__law_through_holds.nd rfl (Or.inl rfl))) (fun _ _ _ _ _ => pts_nil) (fun _ _ _ _ _ => (pe_c (cal__law_draw g c) hr (by decide) (by rfl) (pa_cons (pv 0) (pa_cons (pv 1) pa_nil))))))
      (pss_cons (ps_set (i := 4) sc__law_through_holds.nd rfl (Or.inl rfl) (pe_callTy call_list_of (by rfl) (g.free c.free_list) boot_list (pa_cons (pv 3) pa_nil)))
      (pss_cons (ps_if (pt_cmpR op_eq (pe_c (cal__law_draw g c) hr (by decide) (by rfl) (pa_cons (pv 0) (pa_cons pe_int pa_nil))) pe_int (nomark _))
      (pss_one (ps_setLc (i := 4) (own := [("point", 11)]) (g := gName 11) (tt := tYes) rfl sc__law_through_holds.nd rfl rfl (sw_true rfl rfl rfl (by decide +kernel)) (pi_sq (pv 2)) (blkOk_by (own := [("point", 11)]) (N := ["pool", "p", "points", "drawn", "values", "places", "letters", "told", "letter", "k", "again", "point"]) (sc := defScope s__law_through_holds) (by decide +kernel)) (fun _ _ _ _ _ => (pg_name (i := 11) sc__law_through_holds.nd rfl (Or.inl rfl))) (fun _ _ _ _ _ => pts_nil) (fun _ _ _ _ _ => (pe_c (cal__law_value g c) hr (by decide) (by rfl) (pa_cons (pv 1) (pa_cons (pv 3) (pa_cons (pv 11) pa_nil))))))) pss_nil)
      (pss_cons (ps_set (i := 5) sc__law_through_holds.nd rfl (Or.inl rfl) (pe_c (cal__law_as g c) hr (by decide) (by rfl) (pa_cons (pv 0) (pa_cons (pv 2) pa_nil))))
      (pss_cons (ps_set (i := 6) sc__law_through_holds.nd rfl (Or.inl rfl) (pe_c (cal__law_as g c) hr (by decide) (by rfl) (pa_cons (pv 0) (pa_cons (pv 4) pa_nil))))
      (pss_cons (ps_set (i := 7) sc__law_through_holds.nd rfl (Or.inl rfl) (pe_c (cal_polynomial_through g c) hr (by decide) (by rfl) (pa_cons (pv 1) (pa_cons (pv 5) (pa_cons (pv 6) pa_nil)))))
      (pss_cons (ps_if (PW.pt (pw_or (pt_not (pt_val (pe_callB call_isD (by rfl) (g.free c.free_isinstance) boot_isinstance (pa_cons (pv 7) (pa_cons (pe_bltn (v := .ty "tuple") (u := .type "tuple") (by rfl) (g.free c.free_tuple) (by decide +kernel) rfl) pa_nil))))) (pw_or1 (pt_cmpR op_ne (pe_callB call_len_seq (by rfl) (g.free c.free_len) PySem.boot_len (pa_cons (pv 7) pa_nil)) (pe_callB call_len_seq (by rfl) (g.free c.free_len) PySem.boot_len (pa_cons (pv 2) pa_nil)) (nomark _)))))
      (pss_one (ps_ret pe_bl)) pss_nil)
      (pss_cons (ps_for PassesOwn.never rfl (pi_sq (pv 7)) (pg_name (i := 8) sc__law_through_holds.nd rfl (Or.inl rfl))
      (pss_one (ps_if (PW.pt (pw_or (pt_not (pt_val (pe_callB call_isD (by rfl) (g.free c.free_isinstance) boot_isinstance (pa_cons (pv 8) (pa_cons (pe_bltn (v := .ty "int") (u := .type "int") (by rfl) (g.free c.free_int) (by decide +kernel) rfl) pa_nil))))) (pw_or (pt_val (pe_callB call_isD (by rfl) (g.free c.free_isinstance) boot_isinstance (pa_cons (pv 8) (pa_cons (pe_bltn (v := .ty "bool") (u := .type "bool") (by rfl) (g.free c.free_bool) (by decide +kernel) rfl) pa_nil)))) (pw_or (pt_cmpR op_lt (pv 8) pe_int (nomark _)) (pw_or1 (pt_cmpR op_ge (pv 8) (pv 1) (nomark _)))))))
      (pss_one (ps_ret pe_bl)) pss_nil)))
      (pss_cons (ps_for PassesOwn.never rfl (pi_range1 (by rfl) (g.free c.free_range) (pa_cons (pe_callB call_len_seq (by rfl) (g.free c.free_len) PySem.boot_len (pa_cons (pv 2) pa_nil)) pa_nil)) (pg_name (i := 9) sc__law_through_holds.nd rfl (Or.inl rfl))
      (pss_one (ps_if (pt_cmpR op_ne (pe_c (cal__law_value g c) hr (by decide) (by rfl) (pa_cons (pv 1) (pa_cons (pv 7) (pa_cons (pe_ix ix_sq (pv 2) (pv 9) (fun _ _ => rfl)) pa_nil)))) (pe_ix ix_sq (pv 4) (pv 9) (fun _ _ => rfl)) (nomark _))
      (pss_one (ps_ret pe_bl)) pss_nil)))
      (pss_cons (ps_set (i := 10) sc__law_through_holds.nd rfl (Or.inl rfl) (pe_ck kw_polynomial_through_1 (cal_polynomial_through g c) hr (by decide) (by rfl) (pa_cons (pv 1) pa_nil) (pk_cons (pv 5) (pk_cons (pv 6) pk_nil))))
      (pss_cons (ps_if (PW.pt (pw_or (pt_not (pt_val (pe_c (cal__law_same g c 2) hr (by decide) (by rfl) (pa_cons (pv 10) (pa_cons (pv 7) pa_nil))))) (pw_or (pt_not (pt_val (pe_c (cal__law_same g c 2) hr (by decide) (by rfl) (pa_cons (pe_callTy call_list_of (by rfl) (g.free c.free_list) boot_list (pa_cons (pv 5) pa_nil)) (pa_cons (pv 2) pa_nil))))) (pw_or1 (pt_not (pt_val (pe_c (cal__law_same g c 2) hr (by decide) (by rfl) (pa_cons (pe_callTy call_list_of (by rfl) (g.free c.free_list) boot_list (pa_cons (pv 6) pa_nil)) (pa_cons (pv 4) pa_nil)))))))))
      (pss_one (ps_ret pe_bl)) pss_nil)
      (pss_one (ps_ret (pe_c (cal__law_values_hold g c) hr (by decide) (by rfl) (pa_cons (pv 0) (pa_cons (pv 1) (pa_cons (pv 7) pa_nil))))))))))))))))))
  ), ?_⟩
  refine ⟨_, rfl, _, rfl, a, p, rfl, hp, hpl, fun u xs H1 s1 nu hu lx nd hx0 hx1 => ?_⟩
  refine ⟨_, rfl, u, _, rfl, .inl hu, fun b hb D hD => ?_⟩
  have nD : D ∉ [a] := s1.pool.ne hD
  refine lc_stepI (n := (xs.map V.int).length) walk_sqB (fun r => 0 ≤ r ∧ r < p) s1.pool hD (by simp; omega) (fun H' st => SqB.but st.but nu hb) ?_ ?_
  · rintro i x Hx Hx' R1 R2 hi st ⟨rfl, hx⟩ k
    exact ⟨rfl, _, rfl, _, rfl, a, p, rfl, by omega, st.pool, fun r H' r0 r1 s' => k r H' ⟨r0, r1⟩ s'⟩
  rintro H2 ds s2 hD2 hld hds
  rw [List.length_map] at hld
  refine ⟨_, rfl, D, _, rfl, .inl (.inl (.inl hD2)), fun v0 hv0 => ?_⟩
  have nv0 : v0 ∉ [a] := s2.pool.ne hv0
  have s3 := (s1.trans s2).new (o := .lst (ds.map V.int)) hv0
  have hD3 := Same.new (o := .lst (ds.map V.int)) hv0 _ _ hD2
  have hu3 : SqL K (upd H2 v0 (.lst (ds.map V.int))) u (xs.map V.int) := sqL_same (Same.new hv0) (SqL.but s2.but nu hu)
  refine ⟨_, rfl, a, 2, rfl, by decide, s3.pool, fun r H4 r0 r1 s4 => ⟨rfl, _, rfl, ?_⟩⟩
  have st := s3.trans s4
  have hu4 := SqL.but s4.but nu hu3
  have hD4 := s4.but _ _ nD hD3
  cases hc : decide (V.int r = V.int 0)
  case' true =>
    refine ifT rfl ⟨_, rfl, u, _, rfl, .inl hu4, fun b4 hb4 D4 hD4n => ?_⟩
    refine lc_stepI (n := (xs.map V.int).length) walk_sqB (fun r => 0 ≤ r ∧ r < p) st.pool hD4n (by simp; omega) (fun H' st => SqB.but st.but nu hb4) ?_ ?_
    · rintro i x Hx Hx' R1 R2 hi st ⟨rfl, hx⟩ k
      rw [List.getElem?_map] at hx
      obtain ⟨n, _, rfl⟩ := Option.map_eq_some_iff.mp hx
      exact ⟨rfl, _, rfl, _, rfl, _, rfl, p, n, _, ds, rfl, by omega, by omega, by omega, ⟨D, rfl, by simp, .inl (.inl (.inl (st.but _ _ nD hD4)))⟩, k _ _ (pval_range (by omega) n ds) (.refl st.pool)⟩
    rintro H5 ys s5 hy ly' hys
    have ly : letters p ys := hys
    have hl : ys.length = xs.length := by rw [ly', List.length_map]
    have ny : D4 ∉ [a] := st.pool.ne hD4n
    have hu5 := SqL.but s5.but nu hu4
    have st5 := st.trans s5
    generalize D4 = y at hy ny ⊢
  case' false =>
    refine ifF rfl ?_
    have hy := s4.but _ _ nv0 (show upd H2 v0 (.lst (ds.map V.int)) v0 = some (.lst (ds.map V.int)) from upd_same)
    have ly : letters p ds := hds
    have hl : ds.length = xs.length := hld
    have ny := nv0
    have hu5 := hu4
    have st5 := st
    generalize H4 = H5 at hy hu5 st5 ⊢
    generalize v0 = y at hy ny ⊢
    generalize ds = ys at hy ly hl
  all_goals
    obtain ⟨il, lt, iv⟩ := interp_ok hp lx nd ly hl
    refine ⟨_, rfl, _, rfl, a, _, xs, rfl, st5.pool, ⟨u, rfl, nu, .inl hu5⟩, fun pl H6 s6 hpl6 => ?_⟩
    refine ⟨_, rfl, _, rfl, a, _, ys, rfl, s6.pool, ⟨y, rfl, ny, .inl (.inl (.inl (s6.but _ _ ny hy)))⟩, fun le H7 s7 hle => ?_⟩
    have ip : Iq K [a] H7 pl xs := (hpl6.elim Rep.iqL Rep.iqT).st s7
    have ie : Iq K [a] H7 le ys := hle.elim Rep.iqL Rep.iqT
    have st7 := (st5.trans s6).trans s7
    have hu7 := SqL.but s7.but nu (SqL.but s6.but nu hu5)
    have hy7 : SqL K H7 y (ys.map V.int) := .inl (.inl (s7.but _ _ ny (s6.but _ _ ny hy)))
    refine ⟨_, rfl, _, rfl, _, rfl, p, _, _, xs, ys, rfl, hp, ip.all, ie.all, lx, nd, ly, hl, by omega, fun tq H8 s8 ht8 hT => ?_⟩
    have nt : tq ∉ [a] := st7.pool.ne ht8
    have rT : Rep K [] H8 (.ref tq) (.tuple (di (interp p xs ys))) := .ofT (by simp) hT
    refine ⟨_, rfl, _, "tuple", _, rfl, by decide, rT, _, rfl, ifF rfl ?_⟩
    refine ⟨_, rfl, tq, _, rfl, .inr hT, _, rfl, u, _, rfl, .inl (sqL_same s8 hu7), rfl, _, rfl, ifF ?_ ?_⟩
    · rw [List.length_map, List.length_map, il]
      simp
    refine ⟨_, rfl, tq, _, rfl, .inr hT, fun b8 hb8 => ?_⟩
    refine for_it walk_sqB (fun i σ H' => (∃ o8, σ = [some (.ref a), some (.int p), some (.ref u), some (.ref D), some (.ref y), some pl, some le, some (.ref tq), o8, none, none, none]) ∧ H' = H8) ⟨⟨_, rfl⟩, rfl⟩ (fun i σ H' _ z => by rw [z.2]; exact hb8) ?_ ?_
    · rintro i x σ H9 H9' hi ⟨⟨o8, rfl⟩, rfl⟩ ⟨rfl, hx⟩
      rw [List.getElem?_map] at hx
      obtain ⟨n, hn, rfl⟩ := Option.map_eq_some_iff.mp hx
      have ln := lt n (List.mem_of_getElem? hn)
      refine ⟨_, rfl, _, "int", _, rfl, by decide, .int n, _, rfl, ifF rfl ?_⟩
      refine ⟨_, rfl, _, "bool", _, rfl, by decide, .int n, _, rfl, ifF rfl ?_⟩
      refine ⟨_, rfl, _, _, rfl, rfl, _, rfl, ifF (decide_eq_false (by omega)) ?_⟩
      exact ⟨_, rfl, _, rfl, _, _, rfl, rfl, _, rfl, ifF (decide_eq_false (by omega)) ⟨⟨_, rfl⟩, rfl⟩⟩
    rintro σ H9 ⟨⟨o8, rfl⟩, rfl⟩
    have hu8 : SqL K H9 u (xs.map V.int) := sqL_same s8 hu7
    have hy8 : SqL K H9 y (ys.map V.int) := sqL_same s8 hy7
    refine ⟨_, rfl, u, _, rfl, .inl hu8, _, rfl, by omega, by rw [List.length_map]; omega, ?_⟩
    refine for_it walk_range (fun i σ H' => (∃ o8 o9, σ = [some (.ref a), some (.int p), some (.ref u), some (.ref D), some (.ref y), some pl, some le, some (.ref tq), o8, o9, none, none]) ∧ H' = H9) ⟨⟨_, _, rfl⟩, rfl⟩ (fun _ _ _ _ _ => trivial) ?_ ?_
    · rintro i x σ H10 H10' hi ⟨⟨o8, o9, rfl⟩, rfl⟩ ⟨rfl, rfl⟩
      have hix : i < xs.length := by simpa using hi
      have ex : xs[i]? = some xs[i] := List.getElem?_eq_getElem hix
      have ey : ys[i]? = some ys[i] := List.getElem?_eq_getElem (by omega)
      have ei : (0 : Int) + (i : Nat) = (i : Nat) := by omega
      have ax : atI (xs.map V.int) (0 + (i : Nat)) = some (.int xs[i]) := by
        rw [ei]
        exact atI_nat (by rw [List.getElem?_map, ex]; rfl)
      have ay : atI (ys.map V.int) (0 + (i : Nat)) = some (.int ys[i]) := by
        rw [ei]
        exact atI_nat (by rw [List.getElem?_map, ey]; rfl)
      have eq := iv i _ _ ex ey
      refine ⟨_, rfl, _, rfl, _, rfl, _, rfl, u, _, _, _, rfl, rfl, .inl hu8, ax, p, _, _, interp p xs ys, rfl, by omega, by omega, by omega, ⟨tq, rfl, by simp, .inr hT⟩, _, rfl, _, rfl, y, _, _, _, rfl, rfl, .inl hy8, ay, rfl, _, rfl, ifF ?_ ⟨⟨_, _, rfl⟩, rfl⟩⟩
      rw [eq]
      simp
    rintro σ H10 ⟨⟨o8, o9, rfl⟩, rfl⟩
    have ip8 := ip.all.but (.of s8)
    have ie8 := ie.all.but (.of s8)
    refine ⟨_, rfl, _, rfl, _, rfl, rfl, rfl, p, _, _, xs, ys, rfl, hp, ip8, ie8, lx, nd, ly, hl, by omega, fun tq2 H11 s11 ht11 hT11 => ?_⟩
    have hT11' := sqT_same s11 hT
    refine ⟨_, rfl, _, rfl, .ref tq2, .ref tq, .tuple (di (interp p xs ys)), rfl, .tup (Dl.ints 0 _) (by simp; omega), .ofT (by simp) hT11, .ofT (by simp) hT11', fun H12 s12 => ⟨_, rfl, ifF rfl ?_⟩⟩
    have s8c := s11.trans s12
    obtain ⟨b1, rfl, q1⟩ := ip8.sq
    obtain ⟨b2, rfl, q2⟩ := ie8.sq
    refine ⟨_, rfl, b1, _, rfl, q1.same s8c, fun l1 h1 => ⟨_, rfl, .ref l1, .ref u, .list (di xs), rfl, .lst (Dl.ints 0 _) (by simp; omega), .ofL (by simp) (.inl (.inl upd_same)), .ofL (by simp) (sqL_same (s8c.trans (Same.new h1)) hu8), fun H13 s13 => ⟨_, rfl, ifF rfl ?_⟩⟩⟩
    have s8d := (s8c.trans (Same.new h1)).trans s13
    refine ⟨_, rfl, b2, _, rfl, q2.same s8d, fun l2 h2 => ⟨_, rfl, .ref l2, .ref y, .list (di ys), rfl, .lst (Dl.ints 0 _) (by simp; omega), .ofL (by simp) (.inl (.inl upd_same)), .ofL (by simp) (sqL_same (s8d.trans (Same.new h2)) hy8), fun H14 s14 => ⟨_, rfl, ifF rfl ?_⟩⟩⟩
    have s8e := (s8d.trans (Same.new h2)).trans s14
    have st14 := st7.trans (.of st7.pool (s8.trans s8e))
    exact ⟨_, rfl, _, rfl, _, rfl, a, p, _, interp p xs ys, rfl, hp, st14.pool, ⟨tq, rfl, nt, .inr (sqT_same s8e hT)⟩, by omega, fun H' s' => q _ (st14.trans s')⟩
/-! ### the law -/
abbrev lawLevel : Nat := 8
def spLaw (K : Frag) : Sp := fun vs H Q _ => ∃ (s : Addr) (ns : List Int), vs = [.ref s] ∧ SqL K H s (ns.map V.int) ∧ ns.length ≤ 63 ∧ ∀ H', Q (.bl true) H'
theorem sp_law_end : ∀ (H : Hp) (a : Addr) (ns : List Int), ns.length ≤ 63 → Only H → SqL K H a (ns.map V.int) → spLaw K [.ref a] H (fun v _ => v = .bl true) fun _ _ _ => False :=
  fun H a ns hn _ hs => ⟨a, ns, rfl, hs, hn, fun _ => rfl⟩
def fourteen : List Int := [2, 3, 5, 7, 11, 13, 17, 19, 23, 29, 31, 2, 3, 5]
theorem fourteen_ok : ∀ p ∈ fourteen, p ∈ fields := by decide
theorem cal_law (g : Glob P K mg) (c : Says K) : Cal P w K mg base lawLevel s_law ["script"] "law" (spLaw K) := by
  refine calG (g.glo c.glo_law) c.def_law sc_law (fun vs H Q E h => by obtain ⟨_, _, rfl, _⟩ := h; rfl) ?_
  intro cdv A outer s H vs Q E hr h
  obtain ⟨sc, ns, rfl, hsc, hns, q⟩ := h
  refine ⟨_, (
(pss_cons (ps_set (i := 1) sc_law.nd rfl (Or.inr rfl) (pe_c (cal__law_pool g c) hr (by decide) (by rfl) (pa_cons (pv 0) (pa_cons pe_int pa_nil))))
      (pss_cons (ps_for PassesOwn.never rfl (pi_range1 (by rfl) (g.free c.free_range) (pa_cons pe_int pa_nil)) (pg_name (i := 2) sc_law.nd rfl (Or.inl rfl))
      (pss_cons (ps_set (i := 3) sc_law.nd rfl (Or.inr rfl) (pe_ix ix_sq (pe_lst (pa_cons pe_int (pa_cons pe_int (pa_cons pe_int (pa_cons pe_int (pa_cons pe_int (pa_cons pe_int (pa_cons pe_int (pa_cons pe_int (pa_cons pe_int (pa_cons pe_int (pa_cons pe_int (pa_cons pe_int (pa_cons pe_int (pa_cons pe_int pa_nil))))))))))))))) (pe_c (cal__law_draw g c) hr (by decide) (by rfl) (pa_cons (pv 1) (pa_cons pe_int pa_nil))) (fun _ _ => rfl)))
      (pss_cons (ps_if (pt_not (pt_val (pe_c (cal__law_through_holds g c) hr (by decide) (by rfl) (pa_cons (pv 1) (pa_cons (pv 3) pa_nil)))))
      (pss_one (ps_ret pe_bl)) pss_nil)
      (pss_one (ps_if (pt_not (pt_val (pe_c (cal__law_values_hold g c) hr (by decide) (by rfl) (pa_cons (pv 1) (pa_cons (pv 3) (pa_cons (pe_lc (own := [("j", 5)]) (g := gName 5) (tt := tYes) rfl sc_law.nd (pi_range1 (by rfl) (g.free c.free_range) (pa_cons (pe_op op_add pe_int (pe_c (cal__law_draw g c) hr (by decide) (by rfl) (pa_cons (pv 1) (pa_cons pe_int pa_nil)))) pa_nil)) (blkOk_by (own := [("j", 5)]) (N := ["script", "pool", "k", "p", "way", "j"]) (sc := defScope s_law) (by decide +kernel)) (fun _ _ _ _ _ => (pg_name (i := 5) sc_law.nd rfl (Or.inl rfl))) (fun _ _ _ _ _ => pts_nil) (fun _ _ _ _ _ => (pe_c (cal__law_draw g c) hr (by decide) (by rfl) (pa_cons (pv 1) (pa_cons (pv 3) pa_nil))))) pa_nil))))))
      (pss_one (ps_ret pe_bl)) pss_nil)))))
      (pss_cons (ps_for PassesOwn.never rfl (pi_sq (pe_lst (pa_cons pe_int (pa_cons pe_int pa_nil)))) (pg_name (i := 3) sc_law.nd rfl (Or.inr rfl))
      (pss_one (ps_if (PW.pt (pw_or (pt_not (pt_val (pe_c (cal__law_same g c 1) hr (by decide) (by rfl) (pa_cons (pe_c (cal_polynomial_through g c) hr (by decide) (by rfl) (pa_cons (pv 3) (pa_cons (pe_lst pa_nil) (pa_cons (pe_tup pa_nil) pa_nil)))) (pa_cons (pe_tup pa_nil) pa_nil))))) (pw_or1 (pt_not (pt_val (pe_c (cal__law_same g c 1) hr (by decide) (by rfl) (pa_cons (pe_c (cal_value_at g c) hr (by decide) (by rfl) (pa_cons (pv 3) (pa_cons (pe_tup pa_nil) (pa_cons (pe_c (cal__law_draw g c) hr (by decide) (by rfl) (pa_cons (pv 1) (pa_cons (pv 3) pa_nil))) pa_nil)))) (pa_cons pe_int pa_nil))))))))
      (pss_one (ps_ret pe_bl)) pss_nil)))
      (pss_cons (ps_for PassesOwn.never rfl (pi_range1 (by rfl) (g.free c.free_range) (pa_cons pe_int pa_nil)) (pg_name (i := 4) sc_law.nd rfl (Or.inl rfl))
      (pss_one (ps_if (pt_not (pt_val (pe_c (cal__law_refused g c) hr (by decide) (by rfl) (pa_cons (pv 4) (pa_cons (pe_c (cal__law_odd_field g c) hr (by decide) (by rfl) (pa_cons (pv 1) pa_nil)) pa_nil)))))
      (pss_one (ps_ret pe_bl)) pss_nil)))
      (pss_one (ps_ret pe_bl))))))
  ), ?_⟩
  refine ⟨_, rfl, sc, ns, 150, rfl, hsc, hns, by decide, by decide, fun a H1 s1 ha hp1 => ?_⟩
  refine ⟨2, rfl, by decide, by decide, ?_⟩
  refine for_it walk_range (fun i σ H' => (∃ o2 o3 o4, σ = [some (.ref sc), some (.ref a), o2, o3, o4, none]) ∧ Pool H' a) ⟨⟨_, _, _, rfl⟩, hp1⟩ (fun _ _ _ _ _ => trivial) ?_ ?_
  · rintro i x σ H2 H3 hi ⟨⟨o2, o3, o4, rfl⟩, hp2⟩ ⟨rfl, rfl⟩
    refine ⟨szl (by simp), fun l hl => ⟨_, rfl, a, 14, rfl, by decide, hp2.same (Same.new hl), fun r H4 r0 r1 s4 => ?_⟩⟩
    obtain ⟨p, hm, _, at_⟩ := atI_ints (xs := fourteen) r0 r1
    have hp : p ∈ fields := fourteen_ok p hm
    have el := s4.but _ _ (hp2.ne hl) upd_same
    refine ⟨l, fourteen.map V.int, r, _, rfl, rfl, .inl (.inl (.inl el)), at_, ?_⟩
    have hpp := fields_pos hp
    refine ⟨_, rfl, _, rfl, a, p, rfl, hp, s4.pool, fun H5 s5 => ⟨_, rfl, ifF rfl ?_⟩⟩
    refine ⟨_, rfl, _, rfl, _, rfl, a, 12, rfl, by decide, s5.pool, fun r2 H6 r20 r21 s6 => ⟨_, _, rfl, rfl, _, rfl, by omega, by omega, fun D hD => ?_⟩⟩
    refine lc_stepI walk_range (fun _ => True) s6.pool hD (by omega) (fun _ _ => trivial) ?_ ?_
    · rintro j y Hx Hx' R1 R2 hj st ⟨rfl, rfl⟩ k
      exact ⟨rfl, _, rfl, _, rfl, a, p, rfl, by omega, st.pool, fun r H' _ _ s' => k r H' trivial s'⟩
    rintro H7 cs s7 hD7 hl7 _
    exact ⟨a, p, _, cs, rfl, hp, s7.pool, ⟨D, rfl, s6.pool.ne hD, .inl (.inl (.inl hD7))⟩, by omega, fun H8 s8 => ⟨_, rfl, ifF rfl ⟨⟨_, _, _, rfl⟩, s8.pool⟩⟩⟩
  rintro σ H2 ⟨⟨o2, o3, o4, rfl⟩, hp2⟩
  refine ⟨szl (by simp), fun l hl => ⟨l, _, rfl, .inl (.inl (.inl upd_same)), fun b hb => ?_⟩⟩
  have nl := hp2.ne hl
  refine for_it walk_sqB (fun i σ H' => (∃ o2 o3 o4, σ = [some (.ref sc), some (.ref a), o2, o3, o4, none]) ∧ Step a (upd H2 l (.lst [.int 2, .int 31])) H') ⟨⟨_, _, _, rfl⟩, .refl (hp2.same (Same.new hl))⟩ (fun i σ H' _ z => SqB.but z.2.but nl hb) ?_ ?_
  · rintro i x σ H3 H4 hi ⟨⟨o2, o3, o4, rfl⟩, st⟩ ⟨rfl, hx⟩
    obtain ⟨p, rfl, hp⟩ : ∃ p : Int, x = .int p ∧ p ∈ fields := by
      match i, hi, hx with
      | 0, _, hx => exact ⟨2, (Option.some.inj hx).symm, by decide⟩
      | 1, _, hx => exact ⟨31, (Option.some.inj hx).symm, by decide⟩
    have hpp := fields_pos hp
    refine ⟨_, rfl, szl (by simp), fun l1 h1 => ⟨szl (by simp), fun t1 h2 => ?_⟩⟩
    refine ⟨p, _, _, [], [], rfl, hp, ⟨l1, rfl, by simp, .inl (.inl (.inl (Same.new h2 _ _ upd_same)))⟩, ⟨t1, rfl, by simp, .inr (.inl (.inl upd_same))⟩, (fun _ z => by cases z), .nil, (fun _ z => by cases z), rfl, by decide, fun q1 H5 s5 hq1 hT => ⟨szl (by simp), fun t3 h3 => ?_⟩⟩
    refine ⟨.ref q1, .ref t3, .tuple (di []), rfl, .tup (fun d z => by cases z) (by decide), .ofT (by simp) (sqT_same (Same.new h3) hT), .ofT (by simp) (.inl (.inl upd_same)), fun H6 s6 => ⟨_, rfl, ifF rfl ?_⟩⟩
    have sA := (((Same.new (o := .lst []) h1).trans (Same.new (o := .tup []) h2)).trans s5).trans ((Same.new (o := .tup []) h3).trans s6)
    have stA := st.trans (.of st.pool sA)
    refine ⟨_, rfl, szl (by simp), fun t4 h4 => ⟨_, rfl, _, rfl, a, p, rfl, by omega, (stA.new (o := .tup []) h4).pool, fun r H7 r0 r1 s7 => ?_⟩⟩
    have n4 := stA.pool.ne h4
    refine ⟨p, r, _, [], rfl, hp, ⟨t4, rfl, by simp, .inr (.inl (.inl (s7.but _ _ n4 upd_same)))⟩, fun H8 s8 => ⟨_, _, .int 0, rfl, .int 0 0, .int 0, .int 0, fun H9 s9 => ⟨_, rfl, ifF rfl ⟨⟨_, _, _, rfl⟩, ?_⟩⟩⟩⟩
    exact (stA.new h4).trans (s7.trans (.of s7.pool (s8.trans s9)))
  rintro σ H3 ⟨⟨o2, o3, o4, rfl⟩, st⟩
  refine ⟨4, rfl, by decide, by decide, ?_⟩
  refine for_it walk_range (fun i σ H' => (∃ o2 o3 o4, σ = [some (.ref sc), some (.ref a), o2, o3, o4, none]) ∧ Pool H' a) ⟨⟨_, _, _, rfl⟩, st.pool⟩ (fun _ _ _ _ _ => trivial) ?_ ?_
  · rintro i x σ H4 H5 hi ⟨⟨o2, o3, o4, rfl⟩, hp4⟩ ⟨rfl, rfl⟩
    exact ⟨_, rfl, _, rfl, a, rfl, hp4, fun v d H6 s6 rv hf hd => ⟨_, v, d, rfl, rv.all, hf, hd, fun H7 s7 => ⟨_, rfl, ifF rfl ⟨⟨_, _, _, rfl⟩, s6.pool.same s7⟩⟩⟩⟩
  · rintro σ H4 _
    exact q _
end
end SU

namespace SU
open PySem PySem.Spec PyProof.Rows L2
abbrev R : PySem.W.OpenRow := PySem.W.OpenLaw.row PySem.Challenge.rw_sharesunseen_k53_polynomials_through_poi
abbrev hk : PySem.W.Hook := hookG 7 fx fn cn
def ob (s : PySem.W.SharedT) : AlG := obsGG 7 fx fn cn (HandSHeadRun.getT s)
theorem ob_eq (s : PySem.W.SharedT) : ob s = hk.obs s.abs := obsGG_eq (HandSHeadRun.getT_eq s)
def lo0 : List Str := ["WishError", "InvalidNumber", "InvalidShare", "InvalidMatrix", "InvalidLibrary", "InvalidPlan", "InvalidTape", "InvalidAnswers", "InvalidText", "InvalidLine", "UnknownWord", "Undefined", "NothingToUndo", "is_integer", "is_number", "FIELDS", "is_field", "is_letter", "inverse_of", "is_row", "is_matrix", "checked_columns", "scaled_row", "cleared_row", "first_column", "first_place", "solved_rows", "in_span", "independent_places", "solution_of"]
def lo1 : List Str := ["letters_of", "sum_to", "value_at", "polynomial_through", "polynomial_near", "_check", "_solution", "_quotient", "_law_pool", "_law_draw", "_law_same", "_law_kind", "_law_odd_field", "_law_value", "_law_as", "_law_points", "_law_refused", "_law_values_hold", "_law_through_holds"]
def loose : List Str := lo0 ++ lo1
theorem run (w : World) : HandSHeadRun.RunEq R (PySem.W.view R.prog [55]) hk ob 60000 loose w := by
  intro os
  kernel_rfl
theorem file_eq : ((PySem.Challenge.rw_sharesunseen_k53_polynomials_through_poi).prog.main.file : Str) = SU.cutFile := by kernel_rfl
theorem top_eq : ((PySem.Challenge.rw_sharesunseen_k53_polynomials_through_poi).prog.main.scope.names.lookup ("super" : Str)).isSome = false := by kernel_rfl
end SU
open PySem PySem.W PySem.Calls PyProof.Rows in
set_option maxHeartbeats 0 in
theorem PySem.Challenge.cw_sharesunseen_k53_polynomials_through_poi_holds : PySem.Challenge.rw_sharesunseen_k53_polynomials_through_poi.Holds := by
  w_on; o_law
  refine HandSHeadRun.head_any (r := OpenLaw.row PySem.Challenge.rw_sharesunseen_k53_polynomials_through_poi) (q := view (OpenLaw.row PySem.Challenge.rw_sharesunseen_k53_polynomials_through_poi).prog [55]) (H := SU.hk) (ob := SU.ob) (M := 60000) (loose := SU.loose) (d := HandSHeadRun.topDef (OpenLaw.row PySem.Challenge.rw_sharesunseen_k53_polynomials_through_poi).prog 55) (kwd := []) SU.ob_eq
    (by kernel_rfl) (fun s => by kernel_rfl) SU.run (by kernel_rfl) (by kernel_rfl) (by kernel_rfl) (by rfl) (by first | assumption | decide +kernel) (by decide +kernel) ⟨rfl, rfl, rfl, rfl, rfl, by decide +kernel⟩ ?hw ?hc
  case hw => w_witness2
  case hc =>
    refine L2.walk_ofE (l := PySem.Challenge.rw_sharesunseen_k53_polynomials_through_poi) (n := 63) (k := SU.lawLevel) (x := "script") (CX := L2.CX0) rfl (by decide) (by kernel_rfl) ⟨rfl, by decide, by decide⟩ ?F (fun _ _ _ _ z => z)
    intro w mg fa h Y G hmg0
    obtain ⟨K, KX, c⟩ := Y
    have hmg : mg ("law" : PySem.Str) = some (.ref fa) := by
      have e : (HandSHeadRun.topDef (OpenLaw.row PySem.Challenge.rw_sharesunseen_k53_polynomials_through_poi).prog 55).name = ("law" : PySem.Str) := by kernel_rfl
      rw [← e]
      exact hmg0
    have c : SU.Says K := ⟨c⟩
    have g : SU.Glob (PySem.Challenge.rw_sharesunseen_k53_polynomials_through_poi).prog K mg := ⟨⟨h, KX, G⟩, SU.file_eq, SU.top_eq⟩
    have ef : fa = He.ga K "law" := by
      have e2 := g.glo c.glo_law
      rw [hmg] at e2
      cases e2
      rfl
    subst ef
    exact SU.law_of (n := 63) KX hmg (c.def_law.imp fun fd F => F.1) (fun _ _ _ _ _ _ us hl => match us, hl with | [_], _ => rfl) (fun base kb gb => SU.cal_law g c) SU.sp_law_end

